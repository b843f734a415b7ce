import PyProof.Rows.All
import Wide.All
import OpenK.AllK
import Wide.FinOn
import HandS.ForMost
import HandS.ForExc
import HandS.ExcSuper
import HandS.ExcField
import HandS.Property
import HandS.SlotsOwn
import HandS.Deep
import HandS.Defaults
import KE.KExcSuper
import KE.KOpsOwn
import HandS.IsInst
import HandS.Style
import HandS.Wide
import HandS.Walk
import HandS.RaiseMore
import HandS.Codes
import HandS.Star
import HandS.NoneIn
import HandS.ExcIs
import HandS.TryOnly
import HandS.Dict
import HandS.DictComp
import HandS.WordsDict
import HandS.More
import HandS.SortInts
import HandS.Iter
import HandS.TryMany
import HandS.Lambda
import HandS.EndTab
import HandS.EndOwn
import HandS.CallSlots
import HandS.TupAny
import HandS.TupMul
import HandS.OwnEq
import HandS.DeepEq
import HandS.TupLe
import HandS.Flow
import HandS.Conv
import KE.GoesMore
import HandS.Zip
import HandS.MakeKwOnly
import HandS.DictEq
import PySem.Challenge.RW_vectorwidths_k48_forms_compared
set_option Elab.async false
set_option linter.all false
set_option maxRecDepth 100000
set_option maxHeartbeats 4000000
/-! what all laws share: kinds of values, the drawn source, the frame of it -/
namespace VW
open PySem PySem.Spec PyProof.Rows L2
theorem bb_len : bootBuiltins "len" = some (.builtin "len") := by decide +kernel
theorem bb_isinstance : bootBuiltins "isinstance" = some (.builtin "isinstance") := by decide +kernel
theorem bb_all : bootBuiltins "all" = some (.builtin "all") := by decide +kernel
theorem bb_any : bootBuiltins "any" = some (.builtin "any") := by decide +kernel
theorem bb_repr : bootBuiltins "repr" = some (.builtin "repr") := by decide +kernel
theorem bb_abs : bootBuiltins "abs" = some (.builtin "abs") := by decide +kernel
theorem bb_min : bootBuiltins "min" = some (.builtin "min") := by decide +kernel
theorem bb_max : bootBuiltins "max" = some (.builtin "max") := by decide +kernel
theorem bb_sorted : bootBuiltins "sorted" = some (.builtin "sorted") := by decide +kernel
theorem bb_sum : bootBuiltins "sum" = some (.builtin "sum") := by decide +kernel
theorem bb_int : bootBuiltins "int" = some (.type "int") := by decide +kernel
theorem bb_str : bootBuiltins "str" = some (.type "str") := by decide +kernel
theorem bb_bool : bootBuiltins "bool" = some (.type "bool") := by decide +kernel
theorem bb_tuple : bootBuiltins "tuple" = some (.type "tuple") := by decide +kernel
theorem bb_list : bootBuiltins "list" = some (.type "list") := by decide +kernel
theorem bb_dict : bootBuiltins "dict" = some (.type "dict") := by decide +kernel
theorem bb_ValueError : bootBuiltins "ValueError" = some (.type "ValueError") := by decide +kernel

/-! ### kinds -/
inductive Kd where
  | non | bl | int | str | lst | tup | dct | own
  deriving DecidableEq
def Kd.ty : Kd → String
  | .non => "NoneType" | .bl => "bool" | .int => "int" | .str => "str" | .lst => "list" | .tup => "tuple" | .dct => "dict" | .own => "?"
def isk (k : Kd) (T : String) : Bool := decide (k.ty = T) || (decide (k = .bl) && decide (T = "int"))
abbrev TS6 : List String := ["int", "bool", "str", "tuple", "list", "dict"]
/-- an own class whose instances are told apart from the built-in ones -/
structure OwnC (K : PySem.W.Frag) (C : Addr) : Prop where
  cl : Cls K C
  ha : PySem.W.findIn K (.ref C) "__class__" = some (some (.builtin "object.__class__"))
  hn : PySem.W.specialIn K (.builtin "object.__class__") "__get__" = some (some (.builtin "getset_descriptor.__get__"))
  htk : PySem.W.takesIn K (.builtin "object.__class__") = some true
  hm : PySem.W.mroIn K C (.type "object") = some true
  k1 : PySem.W.kitOne K (.ref C) (.type "int") = some false
  k2 : PySem.W.kitOne K (.ref C) (.type "bool") = some false
  k3 : PySem.W.kitOne K (.ref C) (.type "str") = some false
  k4 : PySem.W.kitOne K (.ref C) (.type "tuple") = some false
  k5 : PySem.W.kitOne K (.ref C) (.type "list") = some false
  k6 : PySem.W.kitOne K (.ref C) (.type "dict") = some false
inductive Kn (K : PySem.W.Frag) (H : Hp) : V → Kd → Prop
  | non : Kn K H .non .non
  | bl (b : Bool) : Kn K H (.bl b) .bl
  | int (i : Int) : Kn K H (.int i) .int
  | str {z : Str} (h : z.length ≤ sizeLine) : Kn K H (.str z) .str
  | lst {a : Addr} {xs : List V} (h : SqL K H a xs) : Kn K H (.ref a) .lst
  | tup {a : Addr} {xs : List V} (h : SqT K H a xs) : Kn K H (.ref a) .tup
  | dct {a : Addr} {kvs : List (L2.Key × V)} (h : H a = some (.dK kvs)) : Kn K H (.ref a) .dct
  | own {a C dx : Addr} {fs : List (Str × V)} (h : H a = some (.ins C dx fs)) (c : OwnC K C) : Kn K H (.ref a) .own
theorem same_t {K : PySem.W.Frag} {H H' : Hp} {a : Addr} {xs : List V} (e : Same H H') (h : SqT K H a xs) : SqT K H' a xs := by
  rcases h with (h | ⟨o, h⟩) | h
  · exact .inl (.inl (e _ _ h))
  · exact .inl (.inr ⟨o, e _ _ h⟩)
  · exact .inr h
theorem Kn.same {K : PySem.W.Frag} {H H' : Hp} {v : V} {k : Kd} (e : Same H H') (h : Kn K H v k) : Kn K H' v k := by
  cases h with
  | non => exact .non
  | bl b => exact .bl b
  | int i => exact .int i
  | str h => exact .str h
  | lst h => exact .lst (e.seq h)
  | tup h => exact .tup (same_t e h)
  | dct h => exact .dct (e _ _ h)
  | own h c => exact .own (e _ _ h) c
theorem Kn.ty {K : PySem.W.Frag} {H : Hp} {v : V} {k : Kd} (h : Kn K H v k) : ∃ t, TyX K H v t ∧ ∀ T ∈ TS6, PySem.W.kitOne K t (.type T) = some (isk k T) := by
  have kb : ∀ (k : Kd), k ≠ .own → ∀ T ∈ TS6, PySem.W.kitOne K (.type k.ty) (.type T) = some (isk k T) := by
    intro k hk T hT
    refine kit_ty ?_
    simp only [TS6, List.mem_cons, List.not_mem_nil, or_false] at hT
    cases k with
    | own => exact absurd rfl hk
    | _ => rcases hT with rfl | rfl | rfl | rfl | rfl | rfl <;> decide +kernel
  cases h with
  | non => exact ⟨_, .base .non, kb .non (by decide)⟩
  | bl b => exact ⟨_, .base (.bl b), kb .bl (by decide)⟩
  | int i => exact ⟨_, .base (.int i), kb .int (by decide)⟩
  | str h => exact ⟨_, .base (.str _), kb .str (by decide)⟩
  | lst h =>
    rcases h with (h | ⟨o, h⟩) | ⟨o, _, _, h, c, _⟩
    · exact ⟨_, .base (.lst h), kb .lst (by decide)⟩
    · exact ⟨_, .base (.frz h), kb .lst (by decide)⟩
    · exact ⟨_, .kList h c, kb .lst (by decide)⟩
  | tup h =>
    rcases h with (h | ⟨o, h⟩) | ⟨o, _, _, h, c, _⟩
    · exact ⟨_, .base (.tup h), kb .tup (by decide)⟩
    · exact ⟨_, .fTuple h, kb .tup (by decide)⟩
    · exact ⟨_, .kTuple h c, kb .tup (by decide)⟩
  | dct h => exact ⟨_, .base (.dK h), kb .dct (by decide)⟩
  | own h c =>
    refine ⟨_, .base (.ins h c.cl c.ha c.hn c.htk c.hm), fun T hT => ?_⟩
    simp only [TS6, List.mem_cons, List.not_mem_nil, or_false] at hT
    rcases hT with rfl | rfl | rfl | rfl | rfl | rfl
    · exact c.k1
    · exact c.k2
    · exact c.k3
    · exact c.k4
    · exact c.k5
    · exact c.k6
/-- isinstance(v, T) -/
theorem rd_isi {K : PySem.W.Frag} {H : Hp} {v : V} {k : Kd} {T : String} {Q : VK} (h : Kn K H v k) (q : Q (.bl (isk k T)) H) (hT : T ∈ TS6 := by decide) : rIsi K [v, .ty T] H Q := by
  obtain ⟨t, h1, h2⟩ := h.ty
  exact ⟨v, .ty T, t, .type T, _, rfl, .ty T, h1, h2 T hT, q⟩

/-! ### names, refs -/
abbrev LET : Str := "abcdefghijklmnopqrstuvwxyz"
def isLet (c : Nat) : Bool := decide (c ∈ LET.cps.toList)
def isNm (z : Str) : Bool := decide (1 ≤ z.length) && decide (z.length ≤ 8) && z.cps.toList.all isLet
def nmV : V → Bool
  | .str z => isNm z
  | _ => false
def btw (v : V) (lo hi : Int) : Bool := match v with
  | .int i => decide (lo ≤ i) && decide (i ≤ hi)
  | _ => false
theorem Kn.notInt {K : PySem.W.Frag} {H : Hp} {v : V} {k : Kd} (h : Kn K H v k) (n : k ≠ .int) (lo hi : Int) : btw v lo hi = false := by
  cases h <;> first | rfl | exact absurd rfl n
theorem Kn.notStr {K : PySem.W.Frag} {H : Hp} {v : V} {k : Kd} (h : Kn K H v k) (n : k ≠ .str) : nmV v = false := by
  cases h <;> first | rfl | exact absurd rfl n
/-- whether it is a ref -/
inductive RefIs (K : PySem.W.Frag) (H : Hp) : V → Bool → Prop
  | not {v : V} {k : Kd} (h : Kn K H v k) (n : k ≠ .tup) : RefIs K H v false
  | len {a : Addr} {xs : List V} (h : SqT K H a xs) (n : xs.length ≠ 2) : RefIs K H (.ref a) false
  | two {a : Addr} {x y : V} {kx ky : Kd} (h : SqT K H a [x, y]) (hx : Kn K H x kx) (hy : Kn K H y ky) : RefIs K H (.ref a) (nmV x && btw y (-9) 9)
theorem RefIs.same {K : PySem.W.Frag} {H H' : Hp} {v : V} {b : Bool} (e : Same H H') (h : RefIs K H v b) : RefIs K H' v b := by
  cases h with
  | not h n => exact .not (h.same e) n
  | len h n => exact .len (same_t e h) n
  | two h hx hy => exact .two (same_t e h) (hx.same e) (hy.same e)

/-! ### the source of draws: a list of four at s -/
def Kp (s : Addr) (H H' : Hp) : Prop := ∀ b o, H b = some o → b ≠ s → H' b = some o
theorem Kp.refl (s : Addr) (H : Hp) : Kp s H H := fun _ _ h _ => h
theorem Kp.trans {s : Addr} {H H1 H2 : Hp} (a : Kp s H H1) (b : Kp s H1 H2) : Kp s H H2 := fun c o h n => b c o (a c o h n) n
theorem Kp.of {s : Addr} {H H1 : Hp} (a : Same H H1) : Kp s H H1 := fun c o h _ => a c o h
theorem _root_.L2.Same.new {H : Hp} {p : Addr} {o : HO} (h : H p = none) : Same H (upd H p o) := fun b u e => by
  rw [upd_ne (ne_of_none e h)]
  exact e
theorem _root_.L2.Same.mut {H H' : Hp} {p : Addr} {o : HO} (e : Same H H') (h : H p = none) : Same H (upd H' p o) := fun a u ha => by
  rw [upd_ne (ne_of_none ha h)]
  exact e a u ha
theorem Kp.new {s : Addr} {H : Hp} {p : Addr} {o : HO} (h : H p = none) : Kp s H (upd H p o) := Kp.of (Same.new h)
theorem Kp.mut {s : Addr} {H H' : Hp} {p : Addr} {o : HO} (e : Kp s H H') (h : H p = none) : Kp s H (upd H' p o) := fun a u ha n => by
  rw [upd_ne (ne_of_none ha h)]
  exact e a u ha n
theorem Kp.self {s : Addr} {H : Hp} {o : HO} : Kp s H (upd H s o) := fun a u ha n => by
  rw [upd_ne n]
  exact ha
def Src (H : Hp) (s L : Addr) : Prop := ∃ (i q z : Int) (ns : List Int), H s = some (.lst [.ref L, .int i, .int q, .int z]) ∧ H L = some (.lst (ns.map V.int)) ∧ 0 ≤ i ∧ i ≤ (ns.length : Int) ∧ ns.length ≤ 63 ∧ 0 ≤ q ∧ 0 ≤ z ∧ z < 2147483647
theorem Src.at {H : Hp} {s L : Addr} (h : Src H s L) : ∃ xs, H s = some (.lst xs) := by
  obtain ⟨i, q, z, ns, h, _⟩ := h
  exact ⟨_, h⟩
theorem Src.same {H H' : Hp} {s L : Addr} (e : Same H H') (h : Src H s L) : Src H' s L := by
  obtain ⟨i, q, z, ns, h1, h2, r⟩ := h
  exact ⟨i, q, z, ns, e _ _ h1, e _ _ h2, r⟩
theorem Src.fresh {H : Hp} {s L p : Addr} (h : Src H s L) (n : H p = none) : p ≠ s ∧ p ≠ L := by
  obtain ⟨i, q, z, ns, h1, h2, r⟩ := h
  exact ⟨(ne_of_none h1 n).symm, (ne_of_none h2 n).symm⟩
theorem Src.mut {H : Hp} {s L p : Addr} {o : HO} (h : Src H s L) (n : p ≠ s ∧ p ≠ L) : Src (upd H p o) s L := by
  obtain ⟨i, q, z, ns, h1, h2, r⟩ := h
  exact ⟨i, q, z, ns, by rw [upd_ne n.1.symm]; exact h1, by rw [upd_ne n.2.symm]; exact h2, r⟩
theorem Src.new {H : Hp} {s L p : Addr} {o : HO} (h : Src H s L) (n : H p = none) : Src (upd H p o) s L := h.mut (h.fresh n)
theorem ifT {c : Bool} {A B : Prop} (hc : c = true) (h : A) : if c = true then A else B := by
  rw [if_pos hc]
  exact h
theorem ifF {c : Bool} {A B : Prop} (hc : c = false) (h : B) : if c = true then A else B := by
  rw [hc, if_neg Bool.false_ne_true]
  exact h
/-- a tuple, a text's tuple .. is not the source -/
theorem Kp.t {K : PySem.W.Frag} {s : Addr} {H H' : Hp} {a L : Addr} {xs : List V} (e : Kp s H H') (S : Src H s L) (h : SqT K H a xs) : SqT K H' a xs := by
  obtain ⟨ys, hs⟩ := S.at
  rcases h with (h | ⟨o, h⟩) | h
  · exact .inl (.inl (e _ _ h (ne_of h hs (by intro z; cases z))))
  · exact .inl (.inr ⟨o, e _ _ h (ne_of h hs (by intro z; cases z))⟩)
  · exact .inr h
theorem Kp.l {K : PySem.W.Frag} {s : Addr} {H H' : Hp} {a : Addr} {xs : List V} (e : Kp s H H') (n : a ≠ s) (h : SqL K H a xs) : SqL K H' a xs := by
  rcases h with (h | ⟨o, h⟩) | h
  · exact .inl (.inl (e _ _ h n))
  · exact .inl (.inr ⟨o, e _ _ h n⟩)
  · exact .inr h
theorem sz_of {n : Nat} (h : n ≤ 100000) : n ≤ sizeLine := Nat.le_trans h (by decide)
theorem sz_lt {n : Nat} (h : n < 100000) : n < sizeLine := Nat.lt_of_lt_of_le h (by decide)
theorem big_of {n : Nat} (h : n ≤ 100000) : (n : Int) < 2 ^ 200 := by
  have : (2 : Int) ^ 200 > 100000 := by decide
  omega
theorem e18 : (10 : Int) ^ (18 : Int).toNat = 1000000000000000000 := by decide
/-- repr of a truth value -/
theorem call_repr_bl {X : Cx} : CallR X (.builtin "repr") (fun xs H Q => ∃ b, xs = [.bl b] ∧ Q (.str (if b then "True" else "False")) H) := by
  intro pins s σ H xs us Q I r h
  obtain ⟨b, rfl, q⟩ := h
  obtain ⟨u, rfl, r1⟩ := vals1 r
  cases (show u = Value.bool b from r1)
  exact PySem.P.repr_of_bool ⟨.str _, H, I.tok _, ⟨_, rfl⟩, q⟩
end VW
namespace VW
open PySem PySem.Spec PyProof.Rows L2
def cntV : V → Bool
  | .int i => decide (0 ≤ i)
  | _ => false
theorem Kn.notCnt {K : PySem.W.Frag} {H : Hp} {v : V} {k : Kd} (h : Kn K H v k) (n : k ≠ .int) : cntV v = false := by
  cases h <;> first | rfl | exact absurd rfl n
theorem take_succ_of {α : Type} {l : List α} {i : Nat} {x : α} (h : l[i]? = some x) : l.take (i + 1) = l.take i ++ [x] := by
  rw [List.take_succ, h]
  rfl
theorem src_ne (ns : List Int) (L : Addr) (i q z : Int) : HO.lst (ns.map V.int) ≠ HO.lst [V.ref L, .int i, .int q, .int z] := by
  intro e
  injection e with e
  cases ns with
  | nil => cases e
  | cons n r =>
    rw [List.map_cons] at e
    injection e with e1 _
    cases e1
end VW
namespace VW
open PySem PySem.Spec PyProof.Rows L2
theorem dp_signs {K : PySem.W.Frag} {H : Hp} : ∀ cs : List Nat, DpAll K H (cs.map fun c => V.str ⟨#[c]⟩) (cs.map fun c => PyData.str ⟨#[c]⟩)
  | [] => .nil
  | _ :: r => .cons (.str _) (dp_signs r)
theorem shaped_signs (cs : List Nat) (h : ∀ c ∈ cs, c < 128) : SeqAt.shaped (.list (cs.map fun c => PyData.str ⟨#[c]⟩)) = true := by
  have e1 : ∀ cs : List Nat, (∀ c ∈ cs, c < 128) → PyData.canLayAll0 (cs.map fun c => PyData.str ⟨#[c]⟩) = true := by
    intro cs
    induction cs with
    | nil => intro _; rfl
    | cons c r ih =>
      intro h
      have hc := h c (List.mem_cons_self ..)
      have hr := ih fun x hx => h x (List.mem_cons_of_mem _ hx)
      have hs : PyData.strOk ⟨#[c]⟩ = true := by
        simp [PyData.strOk]
        omega
      simp only [List.map_cons, PyData.canLayAll0, PyData.canLay0, hs, hr, Bool.and_self]
  have e2 : ∀ cs : List Nat, PyData.depthAll (cs.map fun c => PyData.str ⟨#[c]⟩) = 0 := by
    intro cs
    induction cs with
    | nil => rfl
    | cons c r ih => simpa [PyData.depthAll, PyData.depth] using ih
  unfold SeqAt.shaped
  simp [PyData.canLay0, PyData.depth, e1 cs h, e2]
end VW
namespace VW
open PySem PySem.Spec PyProof.Rows L2
/-- an error of the class at S is what «except S» names -/
theorem exm_self {K : PySem.W.Frag} {S : Addr} (h1 : PySem.W.subIn K (.ref S) (.type "BaseException") = some true) (h2 : PySem.W.isClsIn K S = true) (h3 : PySem.W.typeIn K (.ref S) = some (.type "type")) (h4 : PySem.W.subIn K (.ref S) (.ref S) = some true) :
    PySem.W.exmOne K (.ref S) (.ref S) = some true := by
  have e1 : (PySem.W.subIn K (.ref S) (.type "BaseException") == some true) = true := by rw [h1] <;> rfl
  have e2 : ((PySem.W.clsIn K S).isSome && PySem.W.typeIn K (.ref S) == some (.type "type")) = true := by
    have h2' : (PySem.W.clsIn K S).isSome = true := h2
    rw [h2', h3] <;> rfl
  show (if (PySem.W.subIn K (.ref S) (.type "BaseException") == some true) = true then (if ((PySem.W.clsIn K S).isSome && PySem.W.typeIn K (.ref S) == some (.type "type")) = true then PySem.W.subIn K (.ref S) (.ref S) else none) else none) = some true
  rw [if_pos e1, if_pos e2]
  exact h4
end VW

/-! an own error over ValueError whose __init__ says super().__init__('..'); self.f = f: made and raised -/
namespace PySem
namespace ErX
open PySem.W PySem.Calls PyProof.Rows PySem.HandSPX
def iA (f : Str) (p1 p2 : Pos) : Arguments := { posonlyargs := [], args := [{ arg := "self", annotation := none, pos := p1 }, { arg := f, annotation := none, pos := p2 }], vararg := none, kwonlyargs := [], kw_defaults := [], kwarg := none, defaults := [] }
def iB (f msg : Str) (q1 q2 q3 q4 q5 q6 q7 q8 q9 q10 : Pos) : List Stmt :=
  [.Expr (.Call (.Attribute (.Call (.Name "super" q1) [] [] q2) "__init__" q3) [.Constant (.str msg) 0 q4] [] q5) q6, .Assign [.Attribute (.Name "self" q7) f q8] (.Name f q9) q10]
def iS (f : Str) : Scope := { kind := .function, names := [(PySem.Str.ofString "self", .local), (f, .local), (PySem.Str.ofString "__class__", .free), (PySem.Str.ofString "super", .globalImplicit)], isGenerator := false, isCoroutine := false, more := [] }
/-- super().__init__('..') is a method's call (by the places that the text has) -/
def SupEv (msg : Str) (q1 q2 q3 q4 q5 : Pos) : Prop := ∀ env : Env, ∃ pl : Sem Bool, eval (.Call (.Attribute (.Call (.Name "super" q1) [] [] q2) "__init__" q3) [.Constant (.str msg) 0 q4] [] q5) env = (do
  let ov ← attributeBase (.Call (.Name "super" q1) [] [] q2) "__init__" env (eval (.Call (.Name "super" q1) [] [] q2) env)
  standAt q3.atName
  let (f, first) ← holding [ov] (getMethod ov "__init__" pl)
  callWith q5 f first (backTo q5 (starEach [.Constant (.str msg) 0 q4] env)) [])
/-- what stands around a call -/
structure Gd (K : Frag) (mg : Str → Option Value) (h : Heap) : Prop where
  k : K.In h
  g : h.Ns mainGlobals mg
  b : ∃ mb, h.Ns builtinsNs mb ∧ ∀ x : Str, x ≠ "__name__" → mb x = bootBuiltins x
  l : h.NoLimit
theorem Gd.keeps {K : Frag} {mg : Str → Option Value} {h h' : Heap} (G : Gd K mg h) (q : ∀ b o, h.get? b = some o → h'.get? b = some o) : Gd K mg h' :=
  ⟨G.k.keeps q, G.g.keeps q, let ⟨mb, h1, h2⟩ := G.b; ⟨mb, h1.keeps q, h2⟩, G.l.keeps q⟩
/-- what the written part says of the class at C, named nm, and of its __init__, at fI; f its one field -/
structure ErTxt (prog : Program) (K : Frag) (mg : Str → Option Value) (nm f : Str) (C fI : Addr) : Prop where
  gC : mg nm = some (.ref C)
  cls : ∃ nm q N bs bm sn sub ab col dd k0 k1 k2 k3 k5, K.lookup C = some (excClassObj nm q C N bs bm true sn sub ab col dd k0 k1 k2 k3 k5 "ValueError.__new__") ∧ refsVE bm = true
  sa : findIn K (.ref C) "__setattr__" = some (some (.builtin "object.__setattr__"))
  ga : findIn K (.ref C) "__getattribute__" = some (some (.builtin "BaseException.__getattribute__"))
  gg : findIn K (.ref C) "__getattr__" = some none
  noN : findIn K (.ref C) f = some none
  iC : findIn K (.ref C) "__init__" = some (some (.ref fI))
  tC : typeIn K (.ref fI) = some (.type "function")
  kC : keepIn K (.ref C) = true
  exC : subIn K (.ref C) (.type "BaseException") = some true
  veC : subIn K (.ref C) (.type "ValueError") = some true
  tyC : typeIn K (.ref C) = some (.type "type")
  hdC : hasDictIn K C = true
  te : exmOne K (.ref C) (.ref C) = some true
  meC : mroIn K C (.ref C) = some true
  alC : ks_superIn K C C "__init__" = some (some (.builtin "ValueError.__init__"))
  opq : nsIn K cStatics "thirdparty.any" = some none
  sup : nsIn K mainGlobals "super" = some none
  nsup : (prog.main.scope.names.lookup ("super" : Str)).isSome = false
  fn : ∃ (oc : Value) (od : Option Addr) (doc pm : Value) (an : Option Addr) (cda cc : Addr) (ct : Value) (osl : Array (Option Value)) (qual msg : Str) (p1 p2 q1 q2 q3 q4 q5 q6 q7 q8 q9 q10 : Pos) (ccl cl : Value) (cdd cld : Option Addr) (vs : Array Value) (ccs csl : Array (Option Value)) (file : Str) (tf : Tok),
    K.lookup fI = some ⟨oc, od, .func (ksFn "__init__" qual (iA f p1 p2) (iB f msg q1 q2 q3 q4 q5 q6 q7 q8 q9 q10) (iS f) .none .none doc pm an (.ref cda) ct cc), osl⟩ ∧ codeIn K (.ref cda) qual = true ∧
    K.lookup cda = some ⟨ccl, cdd, .fields vs, ccs⟩ ∧ vs[2]? = some (.str file tf) ∧ ((prog.main.file : Str) == file) = true ∧ K.lookup cc = some ⟨cl, cld, .cell (some (.ref C)), csl⟩ ∧ SupEv msg q1 q2 q3 q4 q5
theorem bb_super : bootBuiltins "super" = some (.type "super") := by decide +kernel
/-- what __init__ leaves of a fresh exception at x -/
structure InitEnd (f : Str) (h h' : Heap) (x C dx t1 : Addr) (v : Value) : Prop where
  keep : ∀ b o, b ≠ x → h.get? b = some o → h'.get? b = some o
  obj : h'.get? x = some { cls := .ref C, dict := some dx, data := .fields #[.ref t1, .none, .none, .none, .bool false, .none] }
  dbig : h.objs.size ≤ dx
  dne : dx ≠ x
  ns : h'.Ns1 dx (fun y => if y = f then some v else none)
/-- a made one -/
structure OwnMade (f : Str) (h h' : Heap) (e C d : Addr) (v : Value) : Prop where
  keep : ∀ b o, h.get? b = some o → h'.get? b = some o
  new : h.objs.size ≤ e
  obj : ∃ oe vs, h'.get? e = some oe ∧ oe.cls = .ref C ∧ oe.dict = some d ∧ oe.data = .fields vs ∧ vs[1]? = some .none
  dbig : h.objs.size ≤ d
  dne : d ≠ e
  ns : h'.Ns1 d (fun y => if y = f then some v else none)
theorem one_size (v : Value) : [v].length ≤ sizeLine := by
  rw [sizeLine_eq]
  exact (by decide : 1 ≤ 16777216)
section
variable {prog : Program} {w : World} {A : Around} {E : Value → Shared → Prop} {h : Heap} {g : Array GenState} {d : Drawn} {t : Nat} {os : OsState}
/-- the bound ValueError.__init__ called -/
theorem call_mw {nm q : Str} {C N : Addr} {bs bm : List Value} {hdct : Bool} {sn : List Str} {sub : List Value} {ab : Bool} {col : Option Bool} {dd : Option Addr} {k0 k1 k2 k3 k5 : Option Value} {u e t0 : Addr} {rest : List Value} {Q : Value → Shared → Prop}
    (hC : h.get? C = some (excClassObj nm q C N bs bm hdct sn sub ab col dd k0 k1 k2 k3 k5 "ValueError.__new__")) (he : h.get? e = some (excO C t0)) (hu : h.get? u = some (kxs_mw "ValueError.__init__" e)) (hrest : rest.length ≤ sizeLine)
    (hq : ∀ h' t1, (∀ b o, b ≠ e → h.get? b = some o → h'.get? b = some o) → h'.get? e = some (excO C t1) → Q .none ⟨h', g, d, t, os⟩) :
    wpAny (model prog w) A (call (.ref u) rest) Q E ⟨h, g, d, t, os⟩ := by
  refine wpAny_call (codeAny_of_tree ?_)
  show wpAny _ A.in1 (callAny (.ref u) ⟨rest, []⟩) _ _ _
  simp only [callAny]
  refine wpAny_bind (wpAny_load hu ?_)
  simp only [kxs_mw, show (Value.type "method-wrapper" == Value.type "method" || Value.type "method-wrapper" == Value.type "builtin_function_or_method" || Value.type "method-wrapper" == Value.type "method-wrapper") = true by decide, if_true]
  refine W.KFB.if_so (by decide) ?_
  refine wpAny_bind (ESX.check_bound F.excBase_ValueError hC he rfl ?_)
  refine wpAny_bind (wpAny_pure (wpAny_pure ?_))
  refine ⟨Code.quiet_builtin _ (by decide +kernel), codeAny_builtin F.excBase_ValueError.initEntry ?_⟩
  rw [Around.under_plainId F.excBase_ValueError.init.plain _]
  wp_walk
  refine hq _ h.objs.size (fun b o hb ho => ?_) ?_
  · rw [Heap.get?_update_other _ _ (Ne.symm hb)]
    exact Heap.get?_push_of_some _ ho
  · rw [Heap.get?_update_self _ (Heap.get?_push_of_some _ he) rfl]
    rfl
end
section
variable {prog : Program} {w : World} {A : Around} {E : Value → Shared → Prop} {R : Result → Shared → Prop} {s : Shared} {K : Frag} {mg : Str → Option Value} {nm f : Str} {C fI : Addr}
theorem er_init (T : ErTxt prog K mg nm "value" C fI) {x t0 : Addr} {v : Value} (G : Gd K mg s.heap) (hx : s.heap.get? x = some (excO C t0)) (hnx : K.lookup x = none) (hroom : A.depth < recursionLimit)
    (hq : ∀ h' tk dx t1, InitEnd "value" s.heap h' x C dx t1 v → R (.ok (.ret .none)) { s with heap := h', toks := tk }) :
    codeAny (model prog w) A (.call (.ref fI) ⟨[.ref x, v], []⟩) R s := by
  obtain ⟨oc, od, doc, pm, an, cda, cc, ct, osl, qual, msg, p1, p2, q1, q2, q3, q4, q5, q6, q7, q8, q9, q10, ccl, cl, cdd, cld, vs, ccs, csl, file, tf, ho, hcd, hcode, hvs, hfile, hcell, hev⟩ := T.fn
  obtain ⟨nm', q, N, bs, bm, sn, sub, ab, col, dd, k0, k1, k2, k3, k5, hC, hbm⟩ := T.cls
  have hcl : clsIn K C = some { name := nm', bases := bs, mro := .ref C :: bm, ns := N, qualname := q, hasDict := true, slotNames := sn, subclasses := sub, abstract := ab, collection := col, hasDel := false } := by unfold clsIn; rw [hC] <;> rfl
  refine ks_codeAny_call_defAt (fd := ksFn "__init__" qual (iA "value" p1 p2) (iB "value" msg q1 q2 q3 q4 q5 q6 q7 q8 q9 q10) (iS "value") .none .none doc pm an (.ref cda) ct cc) (body := iB "value" msg q1 q2 q3 q4 q5 q6 q7 q8 q9 q10) (binds := [("self", .ref x), ("value", v)]) hroom (G.k _ _ ho) rfl G.l (codeRec_of G.k hcd) rfl (BindsTo.of_eq (by first | rfl | with_unfolding_all rfl)) ?hce ?hlo (fun h₁ hns hk₁ => ?_) rfl rfl rfl
  case hce => exact (by decide : ∀ y ∈ (iS "value").names, y.2 ≠ .cell)
  case hlo =>
    intro y hy
    simp only [List.mem_cons, List.not_mem_nil, or_false] at hy
    rcases hy with rfl | rfl <;> rfl
  have G₁ : Gd K mg h₁ := G.keeps hk₁
  have hx₁ := hk₁ _ _ hx
  have hxL : x < s.heap.objs.size := Heap.lt_size hx
  obtain ⟨hp, ge, dr, tk, os⟩ := s
  generalize hL : hp.objs.size = L at *
  obtain ⟨mb, hmb, hbb⟩ := G₁.b
  have lself : (fun y => ([("self", Value.ref x), ("value", v)] : List (Str × Value)).reverse.lookup y) "self" = some (.ref x) := by first | rfl | with_unfolding_all rfl | kernel_rfl
  have lval : (fun y => ([("self", Value.ref x), ("value", v)] : List (Str × Value)).reverse.lookup y) "value" = some v := by first | rfl | with_unfolding_all rfl | kernel_rfl
  obtain ⟨pl, hev1⟩ := hev (callEnv (ksFn "__init__" qual (iA "value" p1 p2) (iB "value" msg q1 q2 q3 q4 q5 q6 q7 q8 q9 q10) (iS "value") .none .none doc pm an (.ref cda) ct cc) L fI)
  refine ks_wpAt_execs_cons (ks_wpAt_Expr_any (ks_wpAt_MethodCall (pl := pl) ?_ hev1))
  -- super()
  have hD1 := G₁.k _ _ hC
  refine ks_wpAt_super_base (of := ⟨oc, od, .func _, osl⟩) rfl rfl (by decide) rfl (G₁.k _ _ ho) rfl rfl rfl (G₁.k _ _ hcode) rfl hvs hfile T.nsup ?_
  refine ks_loadName_global rfl rfl (loadGlobal_builtin (env := _) G₁.g (mg_none_of G₁.k G₁.g T.sup) hmb ((hbb _ (by decide +kernel)).trans bb_super) ⟨rfl, ?_⟩)
  refine wpAny_loadName_free rfl rfl rfl ⟨_, G₁.k _ _ hcell, rfl⟩ ?_
  refine wpAny_loadName_local rfl rfl hns lself ?_
  refine ks_wpAny_isType_cls hD1 rfl ⟨rfl, ?_⟩
  refine ks_wpAny_call_super hD1 rfl hx₁ rfl (fun c e => nomatch e) (looks_mroIn G₁.k T.meC) (fun h₂ hso hk₂ => ?_)
  have G₂ : Gd K mg h₂ := G₁.keeps hk₂
  have I₂ : InstAt h₂ x (excO C t0) C none := ⟨hk₂ _ _ hx₁, rfl, rfl, trivial⟩
  have hm := T.alC
  unfold ks_superIn at hm
  rw [hcl] at hm
  refine kxs_getMethod kxs_ValueError hso (looks_opaque G₂.k T.opq) (l₀ := .ref C :: bm) ?_ rfl G₂.k hm (I₂.type.andThen (looks_subIn G₂.k T.veC)) (ks_ne G₂.k I₂ hcl) (by decide) ?_
  · exact fun A Q E s k q => wpAny_bind ((looks_clsIn G₂.k hcl) A _ E s k (wpAny_pure q))
  -- called with the text
  have hk₃ : ∀ b o, h₂.get? b = some o → (h₂.push (kxs_mw "ValueError.__init__" x)).get? b = some o := fun b o e => Heap.get?_push_of_some _ e
  have hu₃ : (h₂.push (kxs_mw "ValueError.__init__" x)).get? h₂.objs.size = some (kxs_mw "ValueError.__init__" x) := Heap.get?_push_at rfl rfl
  refine kxs_callWith (i := "ValueError.__init__") (x := x) (by first | rfl | decide) (evalArgs_plain ?_)
  refine spliced_more (wpAny_Constant_str (spliced_none ⟨hu₃, ?_⟩))
  refine call_mw (t0 := t0) (G₂.keeps hk₃ |>.k _ _ hC) (hk₃ _ _ (hk₂ _ _ hx₁)) hu₃ (one_size _) (fun h₄ t1 hk₄ hx₄ => ?_)
  have k04 : ∀ b o, b ≠ x → hp.get? b = some o → h₄.get? b = some o := fun b o hb e => hk₄ b o hb (hk₃ b o (hk₂ b o (hk₁ b o e)))
  have kw : ∀ b o, K.lookup b = some o → b ≠ x := fun b o e z => by
    rw [z, hnx] at e
    cases e
  have X₄ : K.In h₄ := fun b o e => hk₄ b o (kw b o e) ((G₂.keeps hk₃).k b o e)
  have n₄ : h₄.Ns L (fun y => ([("self", Value.ref x), ("value", v)] : List (Str × Value)).reverse.lookup y) := by
    obtain ⟨oL, es, ep, hoL, r⟩ := hns
    exact ⟨oL, es, ep, hk₄ _ _ (Nat.ne_of_gt hxL) (hk₃ _ _ (hk₂ _ _ hoL)), r⟩
  -- self.value = value
  show PySem.wpAt _ _ _ (execs _ _) _ _ _
  refine wpAt_of_wpAny ?_
  refine wpAny_execs_cons (plainObj_wpAny_Assign_Attribute ?_)
  refine ESX.ldL n₄ lval (ESX.ldL n₄ lself ?_)
  refine set_plain X₄ (ox := excO C t1) (od := none) ⟨hx₄, rfl, rfl, trivial⟩ T.sa ?_
  refine exc_osa X₄ hx₄ hcl (show refsVE (.ref C :: bm) = true from hbm) rfl T.noN (fun h₅ tk₅ dx k₅ dn dne hx₅ hn₅ => ?_)
  show wpAny _ _ (execs _ _) _ _ _
  have sz : hp.objs.size ≤ h₄.objs.size := by
    obtain ⟨oL, es, ep, hoL, r⟩ := n₄
    rw [hL]
    exact Nat.le_of_lt (Heap.lt_size hoL)
  exact wpAny_execs_nil (hq h₅ tk₅ dx t1 ⟨fun b o hb e => k₅ b o hb (k04 b o hb e), hx₅, Nat.le_trans sz dn, dne, hn₅⟩)
theorem er_made (T : ErTxt prog K mg nm "value" C fI) {v : Value} (G : Gd K mg s.heap) (hroom : A.depth + 1 < recursionLimit)
    (hq : ∀ h' tk e d, OwnMade "value" s.heap h' e C d v → R (.ok (.ret (.ref e))) { s with heap := h', toks := tk }) :
    codeAny (model prog w) A (.call (.ref C) ⟨[v], []⟩) R s := by
  obtain ⟨nm', q, N, bs, bm, sn, sub, ab, col, dd, k0, k1, k2, k3, k5, hC, hbm⟩ := T.cls
  obtain ⟨hp, g, dr, tk, os⟩ := s
  have k : ∀ b o, hp.get? b = some o → ((hp.push (kdv_tup [v])).push (excO C hp.objs.size)).get? b = some o := fun b o e => Heap.get?_push_of_some _ (Heap.get?_push_of_some _ e)
  have hget : ((hp.push (kdv_tup [v])).push (excO C hp.objs.size)).get? (hp.objs.size + 1) = some (excO C hp.objs.size) := by heap_get
  have hnx : K.lookup (hp.objs.size + 1) = none := by
    cases e : K.lookup (hp.objs.size + 1) with
    | none => rfl
    | some o =>
      have z : hp.get? (hp.objs.size + 1) = some o := G.k _ _ e
      exact absurd (Nat.lt_of_succ_lt (Heap.lt_size z)) (Nat.lt_irrefl _)
  refine call_own F.excBase_ValueError (fun X => refsVE_contains X bm hbm) (G.k _ _ hC) (looks_findIn G.k T.iC) (fun self => bind_fn G.k self T.tC) (one_size v) ?_
  refine er_init (s := ⟨(hp.push (kdv_tup [v])).push (excO C hp.objs.size), g, dr, tk, os⟩) T (G.keeps k) hget hnx ?_ fun h' tk' dx t1 ⟨k', hx, dn, dne, hns⟩ => ?_
  · show A.depth + 1 < recursionLimit
    exact hroom
  · have old : ∀ b o, hp.get? b = some o → h'.get? b = some o := fun b o e => k' b o (Nat.ne_of_lt (Nat.lt_succ_of_lt (Heap.lt_size e))) (k b o e)
    have z : hp.objs.size + 1 + 1 ≤ dx := by
      have q := dn
      first
        | (simpa only [Heap.size_push] using dn)
        | exact dn
        | (rw [Heap.size_push, Heap.size_push] at q; exact q)
    exact ⟨rfl, hq h' tk' (hp.objs.size + 1) dx ⟨old, Nat.le_succ _, ⟨_, _, hx, rfl, rfl, rfl, rfl⟩, Nat.le_trans (Nat.le_trans (Nat.le_succ _) (Nat.le_succ _)) z, dne, hns⟩⟩
end
end ErX
end PySem

/-! raising and reading an own error; methods that may raise; operators of own classes -/
namespace VW
open PySem PySem.Spec PyProof.Rows L2
abbrev ErTxt := @PySem.ErX.ErTxt
theorem relO_er {v : V} {v' : Value} (r : RelV v v') (f : Str) : RelO (List.lookup f [(("value" : Str), v)]) (if f = "value" then some v' else none) := by
  by_cases hw : f = "value"
  · subst hw
    rw [if_pos rfl]
    have q : List.lookup ("value" : Str) [(("value" : Str), v)] = some v := by simp [List.lookup]
    rw [q]
    exact r
  · rw [if_neg hw]
    have qw : (f == ("value" : Str)) = false := by simpa using hw
    have q2 : List.lookup f [(("value" : Str), v)] = none := by simp [List.lookup, qw]
    rw [q2]
    trivial
section
variable {X : Cx} {C fI : Addr} {nm : Str}
theorem gd_of {pins : List (Addr × Obj)} {σ : L2.St} {H : Hp} {s : Shared} (I : Inv X pins σ H s) : PySem.ErX.Gd X.K X.mg s.heap :=
  ⟨I.kIn, I.mod.glob.keeps I.bk, let ⟨mb, h1, h2⟩ := I.mod.blt; ⟨mb, h1.keeps I.bk, h2⟩, I.nolimit⟩
/-- nm(e) -/
def tMkEr (C : Addr) (ta : TA) : L2.St → Hp → XK → Prop := fun σ H Q => ta σ H fun vs H1 => ∃ v, vs = [v] ∧ ∀ d, H1 d = none → Q (.ref C) (some d) (upd H1 d (.xd [(("value" : Str), v)]))
theorem pmk_er {a : Expr} {ta : TA} {p pos : Pos} {k : Nat} (T : ErTxt X.prog X.K X.mg nm "value" C fI) (hr : Room k X.A) (ha : PA X [a] ta) (hg : Gl X nm) (hdb : (nm == ("__debug__" : Str)) = false := by decide)
    (he : starEach (a :: []) X.env = (false, eval a X.env) :: starEach [] X.env := by rfl) (hpl : (backTo pos (starEach [] X.env)).any (·.1) = false := by rfl) :
    PMk X (.Call (.Name nm p) [a] [] pos) (tMkEr C ta) := by
  intro pins s σ H Q I h
  refine wpAny_Call_Name_kw (ld_glob I hg T.gC ?_ hdb)
  refine PySem.W.callWith_K (h₀ := X.base) I.ok.mod.kin T.kC (thn (ha.run pos pins s σ H _ I h) fun us s1 hh => ?_) he hpl
  obtain ⟨vs, H1, I1, r1, v, ev, q1⟩ := hh
  subst ev
  refine ⟨I1.kIn, ?_⟩
  cases r1 with
  | cons rv rn =>
    rename_i v' us'
    cases rn
    show wpAny _ _ (call (.ref C) [v']) _ _ _
    have G := gd_of I1
    obtain ⟨hp, g, dr, tk, os⟩ := s1
    refine wpAny_call (PySem.ErX.er_made T G (by have := hr.dp; omega) fun h' tk' e d M => ?_)
    show MkP X pins σ Q (.ref e) ⟨h', g, dr, tk', os⟩
    obtain ⟨oe, fv, hoe, hc, hd, hdat, h1⟩ := M.obj
    have hns := M.ns
    obtain ⟨G', g1, g2⟩ := restrict h' fun b => decide (b ≠ e)
    have gk : ∀ b, b ≠ e → G'.get? b = h'.get? b := fun b hb => g1 b (decide_eq_true hb)
    have ge : G'.get? e = none := g2 e (by simp)
    have old : ∀ b o, hp.get? b = some o → G'.get? b = some o := fun b o q => (gk b (Nat.ne_of_lt (Nat.lt_of_lt_of_le (Heap.lt_size q) M.new))).trans (M.keep b o q)
    have ob : ObjOk X.prog X.w (upd H1 d (.xd [(("value" : Str), v)])) G' d (.xd [(("value" : Str), v)]) :=
      ⟨_, hns.at (fun o q => (gk d M.dne).trans q), fun f => relO_er rv f⟩
    have J : Inv X pins σ (upd H1 d (.xd [(("value" : Str), v)])) ⟨G', g, dr, tk', os⟩ := I1.laid (t' := tk') old M.dbig ob
    refine ⟨e, oe, fv, ⟨G', g, dr, tk', os⟩, _, .ref C, some d, rfl, J, fun b o q => ?_, ge, hoe, ⟨hc, hd⟩, hdat, h1, ?_, rfl, I1.bare, raises_own T.exC T.tyC, q1 d (I1.hok.fresh M.dbig)⟩
    · by_cases hb : b = e
      · have q' : G'.get? b = some o := q
        rw [hb, ge] at q'; cases q'
      · exact (gk b hb).symm.trans q
    · rw [upd_ne (Ne.symm M.dne)]
      exact I1.hok.fresh M.new
/-- raise nm(e) -/
def tRaiseEr (C : Addr) (W : WX) (ta : TA) : TS := fun _ σ H => tMkEr C ta σ H fun cls d H' => W cls d σ H'
theorem ps_raiseEr {a : Expr} {ta : TA} {W : WX} {p pos pos2 : Pos} {k : Nat} (hc : X.calm = true) (T : ErTxt X.prog X.K X.mg nm "value" C fI) (hr : Room k X.A) (tk : Takes X W) (ha : PA X [a] ta) (hg : Gl X nm) (hdb : (nm == ("__debug__" : Str)) = false := by decide)
    (he : starEach (a :: []) X.env = (false, eval a X.env) :: starEach [] X.env := by rfl) (hpl : (backTo pos (starEach [] X.env)).any (·.1) = false := by rfl) :
    PS X (.Raise (some (.Call (.Name nm p) [a] [] pos)) none pos2) (tRaiseEr C W ta) := ps_raise hc tk (pmk_er T hr ha hg hdb he hpl)
theorem xf_of {K : PySem.W.Frag} {P : Program} {mg : Str → Option Value} (T : ErTxt P K mg nm "value" C fI) : XfC K C := ⟨T.ga, T.gg, T.exC, T.hdC⟩
/-- no error comes of it, by its promise -/
theorem passC {P : Program} {w : World} {X : Cx} (hP : X.prog = P := by rfl) (hw : X.w = w := by rfl) : Passes (L2.CX P w) X E0 := by
  subst hP
  subst hw
  exact passes_call takes0 (fun _ _ _ _ h => h)
/-- within a def that lets errors out -/
theorem passE {X : Cx} {E : XK} (tk : Takes X (fun cls d _ H => E cls d H)) : Passes (L2.CX X.prog X.w) X E := passes_call tk (fun _ _ _ _ h => h)
end
section
variable {X : Cx} {CX : CXT} {k : Nat} {f C : Addr} {fd : FuncData} {ps : List Str} {sp : Sp} {E : L2.St → XK} {m : Str} {pos apos : Pos} {e o : Expr} {es : List Expr} {ta : TE} {t : TA}
/-- o.m(e, ..), the wish for an error by the slots -/
def tMethS (C : Addr) (m : Str) (sp : Sp) (E : L2.St → XK) (ta : TE) (t : TA) : TE := fun σ H Q => ta σ H fun x H1 => ∃ a dx fs, x = .ref a ∧ H1 a = some (.ins C dx fs) ∧ fs.lookup m = none ∧ t σ H1 fun vs H2 => sp (x :: vs) H2 Q (E σ)
theorem pe_methS {pl : Sem Bool} (he : PE X o ta) (c : Cls X.K C) (hm : Meth X.K C m f) (F : FnOk X.prog X.w X.K X.mg X.base CX k f fd ps sp) (hr : Room k X.A) (hb : Binds X.K fd ps []) (hx : ∀ σ, PassesAt CX X σ (E σ)) (ha : PA X (e :: es) t)
    (hst : starEach (e :: es) X.env = (false, eval e X.env) :: starEach es X.env := by rfl) (hpl : (backTo pos (starEach es X.env)).any (·.1) = false := by rfl)
    (ht : eval (.Call (.Attribute o m apos) (e :: es) [] pos) X.env = (do
      let ov ← eval o X.env
      standAt apos.atName
      let (f, first) ← holding [ov] (getMethod ov m pl)
      callWith pos f first (backTo pos (starEach (e :: es) X.env)) (backToKw pos (keywordEach [] X.env))) := by rfl) :
    PE X (.Call (.Attribute o m apos) (e :: es) [] pos) (tMethS C m sp E ta t) := by
  refine ⟨fun pins s σ H Q I h => ?_⟩
  refine PySem.W.methodCall_KW (pl := pl) (thn (he.run pins s σ H _ I h) fun u s1 ⟨x, H1, I1, rx, a, dx, fs, ex, ea, l, q⟩ => ?_) ht
  subst ex
  obtain rfl : u = Value.ref a := rx
  refine getmeth_ok I1 ea c hm l ?_
  refine PySem.W.callWith_K (first := [.ref a]) (h₀ := X.base) I.ok.mod.kin hm.kp (thn (ha.run pos pins s1 σ H1 _ I1 q) fun us s2 ⟨vs, H2, I2, r, q2⟩ => ⟨I2.kIn, ?_⟩) hst hpl
  exact run_fnS (us := .ref a :: us) (vs := .ref a :: vs) F hr hb (hx σ) I2 (.cons rfl r) q2
end
/-! ### operators of own classes -/
section
variable {X : Cx} {CX : CXT} {k : Nat} {f C : Addr} {fd : FuncData} {ps : List Str} {sp : Sp} {E : XK}
theorem ins_at {pins : List (Addr × Obj)} {σ : L2.St} {H : Hp} {s : Shared} {a dx : Addr} {fs : List (Str × V)} (I : Inv X pins σ H s) (ea : H a = some (.ins C dx fs)) : ∃ ox od, PySem.W.InstAt s.heap a ox C (some od) := by
  obtain ⟨mA, O, _, _, _, _⟩ := ins_get I.hok ea
  obtain ⟨od, J, _⟩ := O.look
  exact ⟨_, od, J⟩
/-- what a class's __op__ wants: told by k_is -/
structure BinC (K : PySem.W.Frag) (C f : Addr) (op : Operator) (T : String) : Prop where
  sf : PySem.W.selfFirst K C = true
  at_ : PySem.W.findIn K (.ref C) (PySem.dunder op.info.2) = some (some (.ref f))
  fn : PySem.W.isFn K (.ref f) = true
  rv : PySem.W.findIn K (.ref C) (dunderR op.info.2) = some none
  t1 : ∃ fo, PySem.W.findIn K (.type T) (PySem.dunder op.info.2) = some fo
  t2 : ∃ ro, PySem.W.findIn K (.type T) (dunderR op.info.2) = some ro
  sb : PySem.W.subIn K (.type T) (.ref C) = some false
/-- x op i, x an instance, i an int -/
def rBinI (C : Addr) (sp : Sp) (E : XK) : R2 := fun x y H Q => ∃ a dx fs i, x = .ref a ∧ y = .int i ∧ H a = some (.ins C dx fs) ∧ sp [x, y] H Q E
theorem op_binI {op : Operator} (B : BinC X.K C f op "int") (F : FnOk X.prog X.w X.K X.mg X.base CX k f fd ps sp) (hr : Room k X.A) (hb : Binds X.K fd ps []) (hx : Passes CX X E) : OpR X (binaryOp op) (rBinI C sp E) := by
  intro pins s σ H x y v u Q I rx ry h
  obtain ⟨a, dx, fs, i, rfl, rfl, ea, q⟩ := h
  cases (show v = Value.ref a from rx)
  obtain ⟨t, rfl⟩ := (show ∃ t, u = Value.int i t from ry)
  obtain ⟨ox, od, J⟩ := ins_at I ea
  obtain ⟨m, hF⟩ := I.fr
  obtain ⟨fo, h1⟩ := B.t1
  obtain ⟨ro, h2⟩ := B.t2
  refine PySem.W.ksp_binT (T := "int") hF I.ok.mod.kin J rfl B.sf B.at_ B.fn B.rv (.inl rfl) h1 h2 B.sb ?_
  refine wpAny_mono (run_fn (us := [.ref a, .int i t]) (vs := [.ref a, .int i]) F hr hb .nil hx I (.cons rfl (.cons ⟨t, rfl⟩ .nil)) q) (fun w s' z => ?_) fun _ _ x => x
  obtain ⟨z', H', I', rz, qz⟩ := z
  exact SlX.cmpback rz ⟨z', H', I', rz, qz⟩
end
end VW

/-! further rules: text * int, list(text), repr -/
namespace VW
open PySem PySem.Spec PyProof.Rows L2
section
variable {X : Cx}
theorem op_mulS : OpR X (binaryOp .Mult) (fun x y H Q => ∃ z n, x = .str z ∧ y = .int n ∧ MulOk z n ∧ Q (.str (PySem.Txt.mul z n)) H) := by
  intro pins s σ H x y v u Q I rx ry h
  obtain ⟨z, n, rfl, rfl, hok, q⟩ := h
  obtain ⟨t, rfl⟩ := (show ∃ t, v = Value.str z t from rx)
  obtain ⟨t', rfl⟩ := (show ∃ t, u = Value.int n t from ry)
  exact SB.mul hok fun t' k => ⟨.str _, H, I.tok _, ⟨_, rfl⟩, q⟩
theorem mulOk_small {z : Str} {n : Int} (h0 : 0 ≤ n) (h1 : n ≤ 100) (hz : z.length ≤ 100) : MulOk z n := by
  refine ⟨?_, fun a b => ?_, fun a b => ?_⟩
  · simp only [Bool.or_eq_false_iff, decide_eq_false_iff_not]
    omega
  · have : (2 ^ 63 - 1 : Int) / n ≥ 100 := by
      refine Int.le_ediv_of_mul_le (by omega) ?_
      omega
    omega
  · have h2 : z.length * n.toNat ≤ 100 * 100 := Nat.mul_le_mul hz (by omega)
    have e : sizeLine = 16777216 := by decide
    unfold Builtin.Str.tooLong
    simp only [decide_eq_false_iff_not]
    omega
theorem vals_signs : ∀ (cs : List Nat) (us : List Value), us.length = cs.length → (∀ (j : Nat) (c : Nat) (v : Value), cs[j]? = some c → us[j]? = some v → ∃ t, v = Value.str ⟨#[c]⟩ t) → Vals (cs.map fun c => V.str ⟨#[c]⟩) us
  | [], [], _, _ => .nil
  | [], _ :: _, h, _ => by cases h
  | _ :: _, [], h, _ => by cases h
  | c :: cs, u :: us, h, k => .cons (k 0 c u rfl rfl) (vals_signs cs us (Nat.succ.inj h) fun j c v hc hv => k (j + 1) c v hc hv)
theorem call_listS (hc : X.calm = true) : CallR X (.type "list") (fun xs H Q => ∃ z : Str, xs = [.str z] ∧ z.cps.size ≤ sizeLine ∧ ∀ l, H l = none → Q (.ref l) (upd H l (.lst (z.cps.toList.map fun c => V.str ⟨#[c]⟩)))) := by
  intro pins s σ H xs us Q I r h
  obtain ⟨z, rfl, hz, q⟩ := h
  obtain ⟨u, rfl, t, rfl⟩ := vals1 r
  refine call_list_str (I.ok.hd hc) z t (fun h' tk acc' c' hk hS hacc => ?_) hz
  have rv : Vals (z.cps.toList.map fun c => V.str ⟨#[c]⟩) acc'.toList := by
    obtain ⟨h1, h2⟩ := hacc
    refine vals_signs z.cps.toList acc'.toList (by simp [h1]) fun j c v hc hv => ?_
    obtain ⟨c', u, e1, e2⟩ := h2 j v (by simpa using hv)
    have e3 : z.cps[j]? = some c := by simpa using hc
    rw [e3] at e1
    cases e1
    exact ⟨u, e2⟩
  exact ⟨.ref s.heap.objs.size, _, I.laid (t' := tk) hk (Nat.le_refl _) (show ObjOk X.prog X.w _ h' _ (.lst _) from ⟨by rw [List.length_map]; simpa using hz, acc'.toList, c', rv, by simpa using hS⟩), rfl, q _ (I.hok.fresh (Nat.le_refl _))⟩
/-- repr of plain values -/
inductive ReprIs : V → Str → Prop
  | non : ReprIs .non "None"
  | bl (b : Bool) : ReprIs (.bl b) (if b then "True" else "False")
  | int {i : Int} (h : i.natAbs.log2 < 1920) : ReprIs (.int i) (toString i)
  | str {z : Str} (h : (reprText z).length ≤ sizeLine) : ReprIs (.str z) (reprText z)
theorem call_reprF : CallR X (.builtin "repr") (fun xs H Q => ∃ v z, xs = [v] ∧ ReprIs v z ∧ Q (.str z) H) := by
  intro pins s σ H xs us Q I r h
  obtain ⟨v, z, rfl, hr, q⟩ := h
  obtain ⟨u, rfl, r1⟩ := vals1 r
  cases hr with
  | non =>
    cases (show u = Value.none from r1)
    exact PySem.P.repr_of_none ⟨.str _, H, I.tok _, ⟨_, rfl⟩, q⟩
  | bl b =>
    cases (show u = Value.bool b from r1)
    exact PySem.P.repr_of_bool ⟨.str _, H, I.tok _, ⟨_, rfl⟩, q⟩
  | @int i h =>
    obtain ⟨t, rfl⟩ := (show ∃ t, u = Value.int i t from r1)
    exact PySem.P.repr_of_int h ⟨.str _, H, I.tok _, ⟨_, rfl⟩, q⟩
  | @str z h =>
    obtain ⟨t, rfl⟩ := (show ∃ t, u = Value.str z t from r1)
    exact PySem.P.repr_of_str ⟨.str _, H, I.tok _, ⟨_, rfl⟩, q⟩ h
end
/-- a def with defaults, every argument written -/
theorem binds_all {K : PySem.W.Frag} {x qual : Str} {params : Arguments} {body : List Stmt} {scope : Scope} {dvs : List V} {kws : List (Str × V)} {f : Addr} {fd : FuncData} {ps : List Str} (F : FunD K x qual params body scope dvs kws f fd) (hd : dvs ≠ [])
    (h : ∀ (T : Addr) (kV doc pm : Value) (an : Option Addr) (cdv ct : Value) (us its : List Value), us.length = ps.length → its.length = dvs.length →
      ∃ k, bindArgs (PySem.W.fnOf x qual params body scope (.ref T) kV doc pm an cdv ct) ⟨us, []⟩ = seqItems? (.ref T) >>= k ∧ k (some its.toArray) = pure (ps.zip us)) : Binds K fd ps [] := by
  obtain ⟨ds, hv, hb⟩ := F.binds1 (ps := ps) ps.length dvs.length hd (by simp) fun T kV doc pm an cdv ct us its hu hi => by
    obtain ⟨k, e1, e2⟩ := h T kV doc pm an cdv ct us its hu hi
    exact ⟨k, e1, by rw [e2, ← hi, List.drop_length, List.append_nil]⟩
  rw [List.drop_length] at hv
  cases hv
  exact hb
end VW
namespace VW
open PySem PySem.Spec PyProof.Rows L2
theorem dp_strs {K : PySem.W.Frag} {H : Hp} : ∀ zs : List Str, DpAll K H (zs.map V.str) (zs.map PyData.str)
  | [] => .nil
  | _ :: r => .cons (.str _) (dp_strs r)
theorem dp_ints {K : PySem.W.Frag} {H : Hp} : ∀ zs : List Int, DpAll K H (zs.map V.int) (zs.map PyData.int)
  | [] => .nil
  | _ :: r => .cons (.int _) (dp_ints r)
def ascii (z : Str) : Prop := ∀ c ∈ z.cps.toList, c < 128
theorem ok_ascii {z : Str} (h : ascii z) : PyData.strOk z = true := by
  unfold PyData.strOk
  rw [Array.all_eq_true]
  intro i hi
  have := h z.cps[i] (by simp)
  exact decide_eq_true (by omega)
theorem lay_strs : ∀ zs : List Str, (∀ z ∈ zs, ascii z) → PyData.canLayAll0 (zs.map PyData.str) = true ∧ PyData.depthAll (zs.map PyData.str) = 0
  | [], _ => ⟨rfl, rfl⟩
  | z :: r, h => by
    obtain ⟨a, b⟩ := lay_strs r fun x hx => h x (List.mem_cons_of_mem _ hx)
    have hs := ok_ascii (h z (List.mem_cons_self ..))
    refine ⟨?_, ?_⟩
    · simp only [List.map_cons, PyData.canLayAll0, PyData.canLay0, hs, a, Bool.and_self]
    · simpa [PyData.depthAll, PyData.depth] using b
theorem lay_ints : ∀ zs : List Int, PyData.canLayAll0 (zs.map PyData.int) = true ∧ PyData.depthAll (zs.map PyData.int) = 0
  | [] => ⟨rfl, rfl⟩
  | z :: r => by
    obtain ⟨a, b⟩ := lay_ints r
    refine ⟨?_, ?_⟩
    · simp only [List.map_cons, PyData.canLayAll0, PyData.canLay0, a, Bool.and_self]
    · simpa [PyData.depthAll, PyData.depth] using b
theorem shaped_strs (zs : List Str) (h : ∀ z ∈ zs, ascii z) : SeqAt.shaped (.list (zs.map PyData.str)) = true := by
  obtain ⟨a, b⟩ := lay_strs zs h
  unfold SeqAt.shaped
  simp [PyData.canLay0, PyData.depth, a, b]
theorem shaped_ints (zs : List Int) : SeqAt.shaped (.list (zs.map PyData.int)) = true := by
  obtain ⟨a, b⟩ := lay_ints zs
  unfold SeqAt.shaped
  simp [PyData.canLay0, PyData.depth, a, b]
theorem mul_cps (x : Str) (n : Int) : (∀ c ∈ (PySem.Txt.mul x n).cps.toList, c ∈ x.cps.toList) ∧ (PySem.Txt.mul x n).length ≤ x.length * n.toNat := by
  unfold PySem.Txt.mul
  by_cases h1 : n < 1
  · rw [if_pos h1]
    exact ⟨(by intro c hc; exact absurd hc (by simp [PySem.Str.empty])), Nat.zero_le _⟩
  · rw [if_neg h1]
    by_cases h2 : (n == 1 || x.length == 0) = true
    · rw [if_pos h2]
      refine ⟨fun c hc => hc, ?_⟩
      have : 1 ≤ n.toNat := by omega
      exact Nat.le_mul_of_pos_right _ this
    · rw [if_neg h2]
      have key : ∀ (k : Nat) (acc : Array Nat), (∀ c ∈ acc.toList, c ∈ x.cps.toList) → (∀ c ∈ ((List.replicate k x.cps).foldl (· ++ ·) acc).toList, c ∈ x.cps.toList) ∧ ((List.replicate k x.cps).foldl (· ++ ·) acc).size = acc.size + k * x.cps.size := by
        intro k
        induction k with
        | zero => intro acc h; exact ⟨h, by simp⟩
        | succ k ih =>
          intro acc h
          rw [List.replicate_succ, List.foldl_cons]
          obtain ⟨a, b⟩ := ih (acc ++ x.cps) (fun c hc => by
            rw [Array.toList_append] at hc
            rcases List.mem_append.mp hc with q | q
            · exact h c q
            · exact q)
          refine ⟨a, ?_⟩
          rw [b, Array.size_append, Nat.succ_mul]
          omega
      obtain ⟨a, b⟩ := key n.toNat #[] (fun c hc => by cases hc)
      refine ⟨a, ?_⟩
      show ((List.replicate n.toNat x.cps).foldl (· ++ ·) #[]).size ≤ x.cps.size * n.toNat
      rw [b, Nat.mul_comm]
      simp
theorem seqIndex_nat {j n : Nat} (h : j < n) : seqIndex? (j : Int) n = some j := by
  unfold seqIndex?
  have h1 : ¬ ((j : Int) < 0) := by omega
  simp only [h1, if_false]
  rw [if_pos (by simp only [Bool.and_eq_true, decide_eq_true_eq]; omega)]
  simp
theorem app_inj {a b c : Str} (h : a ++ b = a ++ c) : b = c := by
  have e : (a ++ b).cps.toList = (a ++ c).cps.toList := by rw [h]
  rw [PySem.Str.cps_append, PySem.Str.cps_append, Array.toList_append, Array.toList_append] at e
  have e2 := List.append_cancel_left e
  cases b
  cases c
  congr 1
  exact Array.toList_inj.mp e2
theorem app_mem {a b : Str} {c : Nat} (h : c ∈ (a ++ b).cps.toList) : c ∈ a.cps.toList ∨ c ∈ b.cps.toList := by
  rw [PySem.Str.cps_append, Array.toList_append] at h
  exact List.mem_append.mp h
def lets (z : Str) : Prop := ∀ c ∈ z.cps.toList, isLet c = true
theorem lets_ascii {z : Str} (h : lets z) : ascii z := fun c hc => by
  have h1 : c ∈ LET.cps.toList := of_decide_eq_true (h c hc)
  exact (by decide : ∀ c ∈ LET.cps.toList, c < 128) c h1
theorem isNm_of {z : Str} (h : lets z) (h1 : 1 ≤ z.length) (h8 : z.length ≤ 8) : isNm z = true := by
  unfold isNm
  rw [decide_eq_true h1, decide_eq_true h8, List.all_eq_true.mpr h]
  rfl
end VW
namespace VW
theorem erase_perm {α : Type} : ∀ (l : List α) (i : Nat) (h : i < l.length), (l[i] :: l.eraseIdx i).Perm l
  | [], _, h => by cases h
  | a :: r, 0, _ => List.Perm.refl _
  | a :: r, i + 1, h => by
    have h' : i < r.length := Nat.lt_of_succ_lt_succ h
    have ih := erase_perm r i h'
    show (r[i] :: a :: r.eraseIdx i).Perm (a :: r)
    exact (List.Perm.swap a r[i] _).trans (ih.cons a)
theorem map_erase {α β : Type} (f : α → β) : ∀ (l : List α) (i : Nat), (l.map f).eraseIdx i = (l.eraseIdx i).map f
  | [], _ => rfl
  | a :: r, 0 => rfl
  | a :: r, i + 1 => by
    show f a :: (r.map f).eraseIdx i = f a :: (r.eraseIdx i).map f
    rw [map_erase f r i]
theorem nodup_map {α β : Type} {f : α → β} (hf : ∀ a b, f a = f b → a = b) : ∀ {l : List α}, l.Nodup → (l.map f).Nodup
  | [], _ => List.nodup_nil
  | a :: r, h => by
    rw [List.nodup_cons] at h
    rw [List.map_cons, List.nodup_cons]
    refine ⟨fun hm => ?_, nodup_map hf h.2⟩
    obtain ⟨b, hb, e⟩ := List.mem_map.mp hm
    exact h.1 (hf b a e ▸ hb)
end VW
namespace VW
open PySem PySem.Spec PyProof.Rows L2
theorem hu_in {k : Nat} {A : Around} (r : Room k A) : A.units + 65 < cLine := by
  have := r.un
  omega
theorem dpAll_of {K : PySem.W.Frag} {H : Hp} : ∀ (vs : List V) (ds : List PyData), vs.length = ds.length → (∀ (j : Nat) (v : V) (d : PyData), vs[j]? = some v → ds[j]? = some d → Dp K H v d) → DpAll K H vs ds
  | [], [], _, _ => .nil
  | [], _ :: _, h, _ => by cases h
  | _ :: _, [], h, _ => by cases h
  | v :: vs, d :: ds, h, k => .cons (k 0 v d rfl rfl) (dpAll_of vs ds (Nat.succ.inj h) fun j v d hv hd => k (j + 1) v d hv hd)
theorem layAll_of : ∀ (ds : List PyData) (n : Nat), (∀ d ∈ ds, PyData.canLay0 d = true ∧ PyData.depth d ≤ n) → PyData.canLayAll0 ds = true ∧ PyData.depthAll ds ≤ n
  | [], _, _ => ⟨rfl, Nat.zero_le _⟩
  | d :: r, n, h => by
    obtain ⟨a, b⟩ := layAll_of r n fun x hx => h x (List.mem_cons_of_mem _ hx)
    obtain ⟨c, e⟩ := h d (List.mem_cons_self ..)
    refine ⟨?_, ?_⟩
    · simp only [PyData.canLayAll0, c, a, Bool.and_self]
    · simp only [PyData.depthAll]
      omega
theorem shapedL {ds : List PyData} (h : ∀ d ∈ ds, PyData.canLay0 d = true ∧ PyData.depth d ≤ 60) : SeqAt.shaped (.list ds) = true := by
  obtain ⟨a, b⟩ := layAll_of ds 60 h
  unfold SeqAt.shaped
  simp only [PyData.canLay0, PyData.depth, a, Bool.true_and]
  exact decide_eq_true (by omega)
theorem shapedT {ds : List PyData} (h : ∀ d ∈ ds, PyData.canLay0 d = true ∧ PyData.depth d ≤ 60) : SeqAt.shaped (.tuple ds) = true := by
  obtain ⟨a, b⟩ := layAll_of ds 60 h
  unfold SeqAt.shaped
  simp only [PyData.canLay0, PyData.depth, a, Bool.true_and]
  exact decide_eq_true (by omega)
/-- a cell as data -/
def cellD (nm : Str) (a : Int) : PyData := .tuple [.str nm, .int a]
theorem cellD_lay {nm : Str} (h : ascii nm) (a : Int) : PyData.canLay0 (cellD nm a) = true ∧ PyData.depth (cellD nm a) ≤ 60 := by
  refine ⟨?_, ?_⟩
  · simp only [cellD, PyData.canLay0, PyData.canLayAll0, ok_ascii h, Bool.and_self]
  · simp [cellD, PyData.depth, PyData.depthAll]
theorem cellD_shaped {nm : Str} (h : ascii nm) (a : Int) : SeqAt.shaped (cellD nm a) = true := by
  obtain ⟨x, y⟩ := cellD_lay h a
  unfold SeqAt.shaped
  rw [x, Bool.true_and, decide_eq_true_eq]
  omega
theorem cellD_eqv (nm : Str) (a b : Int) : PyData.eqv (cellD nm a) (cellD nm b) = decide (a = b) := by
  simp [cellD, PyData.eqv, PyData.eqvAll]
  by_cases h : a = b <;> simp [h]
/-- the distances that are found -/
def distL (st f g : Int) : List Int := if (f - g) % st = 0 then [(f - g) / st] else []
theorem dist_meet {st f g i j : Int} (h : 1 ≤ st) (e : st * j + g = st * i + f) : (f - g) % st = 0 ∧ (f - g) / st = j - i := by
  have e2 : f - g = st * (j - i) := by rw [Int.mul_sub]; omega
  rw [e2]
  exact ⟨Int.mul_emod_right _ _, Int.mul_ediv_cancel_left _ (by omega)⟩
theorem dist_there {st f g i : Int} (h : 1 ≤ st) (d : (f - g) % st = 0) : st * (i + (f - g) / st) + g = st * i + f := by
  have e := Int.mul_ediv_cancel' (Int.dvd_of_emod_eq_zero d)
  rw [Int.mul_add, e]
  omega
theorem dist_small {st f g : Int} (h : 1 ≤ st) (f0 : -9 ≤ f) (f1 : f ≤ 9) (g0 : -9 ≤ g) (g1 : g ≤ 9) : -18 ≤ (f - g) / st ∧ (f - g) / st ≤ 18 := by
  constructor
  · refine Int.le_ediv_of_mul_le (by omega) ?_
    omega
  · refine Int.le_trans (Int.ediv_le_ediv (by omega) (show f - g ≤ 18 by omega)) ?_
    exact Int.ediv_le_self _ (by omega)
end VW
namespace VW
open PySem PySem.Spec PyProof.Rows L2
theorem inV_ints (x : Int) : ∀ fs : List Int, inV (V.int x) (fs.map V.int) = decide (x ∈ fs)
  | [] => rfl
  | a :: r => by
    have ih := inV_ints x r
    unfold inV at ih ⊢
    rw [List.map_cons, List.any_cons, ih]
    have e : eqV (V.int a) (V.int x) = decide (a = x) := by
      first | rfl | simp [eqV]
    rw [e]
    by_cases h : a = x
    · subst h
      simp
    · have h' : ¬ x = a := fun z => h z.symm
      simp [h, h']
end VW

/-! ==, !=, len, in, [..] of instances by their classes' own defs -/
namespace PySem.W
open PySem PySem.Calls PyProof.Rows
section
variable {prog : Program} {w : World} {A : Around} {E : Value → Shared → Prop} {s : Shared} {K : Frag} {x C L f : Addr} {h₀ : Heap} {m : Str → Option Value} {ox : Obj} {od : Option Obj} {b tb : Value}
theorem vw_bound_builtin {M : Model} {name : Str} {id : String} {args : List Value} {Q : Option Value → Shared → Prop} (X : K.In s.heap) (I : InstAt s.heap x ox C od) (hs : findIn K (.ref C) name = some (some (.builtin id)))
    (hb : ∀ v, bindSpecial (.builtin id) v = pure (.builtin id, [v])) (h : wpAny M A (call (.builtin id) (.ref x :: args)) (fun v => Q (some v)) E s) : wpAny M A (callSpecialIfBound? (.ref x) name args) Q E s := by
  simp only [callSpecialIfBound?, bindSpecialIfBound?]
  refine wpAny_holding (wpAny_bind (wpAny_bind (wpAny_bind (I.type.here ((looks_findIn X hs).here ?_)))))
  simp only [hb]
  refine wpAny_bind (wpAny_askSetting (wpAny_ite ?_))
  have fin : wpAny M A (call (.builtin id) ([.ref x] ++ args) >>= fun v => pure (some v)) Q E s := wpAny_bind (wpAny_mono h (fun v s' h' => wpAny_pure h') fun _ _ h' => h')
  split
  · exact wpAny_bind (wpAny_pure (wpAny_pure (by exact fin)))
  · exact wpAny_tryCatch (wpAny_bind (wpAny_pure (wpAny_pure (by exact fin))))
theorem vw_ne_entry {Q : Fin → Shared → Prop} (X : K.In s.heap) (I : InstAt s.heap x ox C od) (hs : findIn K (.ref C) "__eq__" = some (some (.ref f))) (hf : isFn K (.ref f) = true) (hu : A.units < cLine)
    (hcall : wpAny (model prog w) A (call (.ref f) [.ref x, b]) (fun v s' => ∃ c, v = .bool c ∧ Q (.done (.ret (.bool (!c)))) s') E s) :
    wpAny (model prog w) A (Builtin.«object.__ne__» ⟨[.ref x, b], []⟩) Q E s := by
  have one : wpAny (model prog w) A (callSpecialIfBound? (.ref x) (Str.ofString "__eq__") [b]) (fun r s' => ∃ c, r = some (.bool c) ∧ Q (.done (.ret (.bool (!c)))) s') E s :=
    ifBound_K X I hs hf (wpAny_mono hcall (fun v s' ⟨c, e, q⟩ => ⟨c, by rw [e], q⟩) fun _ _ e => e)
  obtain ⟨hp, g, d, t, os⟩ := s
  unfold Builtin.«object.__ne__»
  repeat (first
    | with_reducible refine wpAny_cRoomFor hu ?_
    | (refine wpAny_bind (m := callSpecialIfBound? (.ref x) (Str.ofString "__eq__") [b]) (wpAny_mono one (fun r s' hr => by
          obtain ⟨c, rfl, hq⟩ := hr
          repeat (first | exact hq | exact wpAny_pure hq | exact wpAny_truthy_bool hq | (refine wpAny_bind (m := truthy (.bool _)) (wpAny_truthy_bool ?_)) | wp_step)) fun _ _ e => e))
    | wp_step)
theorem vw_ne_K {Q : Value → Shared → Prop} (hu : A.units + 1 < cLine) (F : Fr h₀ L s.heap m) (X₀ : K.In h₀) (I : InstAt s.heap x ox C od) (hb : Looks (model prog w) s.heap (typeOf b) tb) (hn : notFirst K C tb = true)
    (hne : findIn K (.ref C) "__ne__" = some (some (.builtin "object.__ne__"))) (hob : mroIn K C (.type "object") = some true) (hs : findIn K (.ref C) "__eq__" = some (some (.ref f))) (hf : isFn K (.ref f) = true)
    (h : wpAny (model prog w) A.in1 (call (.ref f) [.ref x, b]) (fun v s' => ∃ c, v = .bool c ∧ Q (.bool (!c)) s') E s) : wpAny (model prog w) A (richCompare .NotEq (.ref x) b) Q E s := by
  have X := X₀.keeps F.keep
  have one : wpAny (model prog w) A (tryCompare (.ref x) (cmpInfo .NotEq).2.1 b) (fun r s' => ∃ v, r = some v ∧ Q v s') E s := by
    unfold tryCompare
    refine wpAny_bind (vw_bound_builtin X I hne (fun v => PySem.F.cmp_object.ne.bind v) (wpAny_call (codeAny_call_builtin PySem.F.cmp_object.ne.plain PySem.F.cmpEntry_ne
      (check_slot PySem.F.cmpKind_ne PySem.F.cmpSplit_ne (I.type.andThen (looks_mroIn X hob)) (PySem.F.cmpArgs_ne _ _) (vw_ne_entry (A := A.in1) X I hs hf hu (wpAny_mono h (fun v s' hv => ?_) fun _ _ e => e))))))
    obtain ⟨c, rfl, hq⟩ := hv
    first | exact ⟨c, rfl, wpAny_pure ⟨_, rfl, hq⟩⟩ | exact ⟨c, rfl, wpAny_pure (wpAny_pure ⟨_, rfl, hq⟩)⟩
  unfold richCompare
  simp only [oneThing_ref]
  refine wpAny_holding (wpAny_bind (wpAny_cRoomFor (Nat.lt_of_succ_lt hu) ?_))
  refine wpAny_bind (I.type.here (wpAny_bind (hb.here ?_)))
  split
  · rename_i q
    have e : subIn K tb (.ref C) = some false := by
      rcases Bool.or_eq_true_iff.mp hn with e | e
      · rw [beq_iff_eq.mp e] at q; simp at q
      · exact beq_iff_eq.mp e
    refine wpAny_bind ((looks_subIn X e).here ?_)
    simp only [Bool.false_eq_true, if_false]
    refine wpAny_bind (wpAny_mono one (fun r s' z => ?_) fun _ _ e => e)
    obtain ⟨v, rfl, hq⟩ := z
    exact wpAny_pure hq
  · refine wpAny_bind (wpAny_pure ?_)
    simp only [Bool.false_eq_true, if_false]
    refine wpAny_bind (wpAny_mono one (fun r s' z => ?_) fun _ _ e => e)
    obtain ⟨v, rfl, hq⟩ := z
    exact wpAny_pure hq
end
end PySem.W
namespace VW
open PySem PySem.Spec PyProof.Rows L2
section
variable {X : Cx} {CX : CXT} {k : Nat} {f C : Addr} {fd : FuncData} {ps : List Str} {sp : Sp} {E : XK}
/-- the callee runs one deeper -/
theorem run_in1 {pins : List (Addr × Obj)} {σ : L2.St} {H : Hp} {s : Shared} {Q : VK} {us : List Value} {vs : List V} (F : FnOk X.prog X.w X.K X.mg X.base CX k f fd ps sp) (hr : Room (k + 1) X.A) (hb : Binds X.K fd ps []) (hx : Passes CX X E)
    (I : Inv X pins σ H s) (r : Vals vs us) (h : sp vs H Q E) : wpAny (model X.prog X.w) X.A.in1 (call (.ref f) us) (EP X pins σ Q) X.xe s := by
  have hl : us.length = ps.length := by rw [← r.length]; exact F.len _ _ _ _ h
  have hb' := hb s us I.kIn (by rw [List.append_nil]; exact hl)
  rw [List.append_nil] at hb'
  refine wpAny_call (codeAny_mono (F.run X.A.in1 X.stack s H ⟨us, []⟩ us vs Q E hr.in1 I.env0.in1 hb' r h) fun r s' hq => ?_)
  cases r with
  | error e => exact hx pins σ H s e s' I hq
  | ok fl =>
    cases fl with
    | ret u => exact I.after hq
    | next => exact False.elim hq
    | brk => exact False.elim hq
    | cont => exact False.elim hq
/-- the class's own __eq__ -/
structure EqC (K : PySem.W.Frag) (C f : Addr) : Prop where
  eq : PySem.W.findIn K (.ref C) "__eq__" = some (some (.ref f))
  fn : PySem.W.isFn K (.ref f) = true
  ne : PySem.W.findIn K (.ref C) "__ne__" = some (some (.builtin "object.__ne__"))
  ob : PySem.W.mroIn K C (.type "object") = some true
/-- y's type does not go first -/
def NotFst (K : PySem.W.Frag) (C : Addr) (H : Hp) (y : V) : Prop := (∃ b dx fs, y = .ref b ∧ H b = some (.ins C dx fs)) ∨ ∃ t, TyX K H y t ∧ PySem.W.notFirst K C t = true
theorem notFst_at {pins : List (Addr × Obj)} {σ : L2.St} {H : Hp} {s : Shared} {y : V} {u : Value} (I : Inv X pins σ H s) (ry : RelV y u) (h : NotFst X.K C H y) : ∃ t, PySem.W.Looks (model X.prog X.w) s.heap (typeOf u) t ∧ PySem.W.notFirst X.K C t = true := by
  rcases h with ⟨b, dx, fs, rfl, eb⟩ | ⟨t, ty, hn⟩
  · cases (show u = Value.ref b from ry)
    obtain ⟨ox, od, J⟩ := ins_at I eb
    exact ⟨.ref C, J.type, by unfold PySem.W.notFirst; simp⟩
  · obtain ⟨P, Z, p, _⟩ := kit_of I ry ty
    exact ⟨t, Z.ty _ _ I.kIn p, hn⟩
def rEqO (K : PySem.W.Frag) (C : Addr) (sp : Sp) (E : XK) : R2 := fun x y H Q => ∃ a dx fs, x = .ref a ∧ H a = some (.ins C dx fs) ∧ NotFst K C H y ∧ sp [x, y] H Q E
theorem op_eqO (B : EqC X.K C f) (F : FnOk X.prog X.w X.K X.mg X.base CX k f fd ps sp) (hr : Room k X.A) (hb : Binds X.K fd ps []) (hx : Passes CX X E) : OpR X (compareOp .Eq) (rEqO X.K C sp E) := by
  intro pins s σ H x y v u Q I rx ry h
  obtain ⟨a, dx, fs, rfl, ea, hn, q⟩ := h
  cases (show v = Value.ref a from rx)
  obtain ⟨ox, od, J⟩ := ins_at I ea
  obtain ⟨t, ht, hn'⟩ := notFst_at I ry hn
  obtain ⟨m, hF⟩ := I.fr
  show wpAny _ _ (richCompare .Eq (.ref a) u) _ _ _
  refine PySem.W.cmp_K (op := .Eq) hr.units0 hF I.ok.mod.kin J ht hn' B.eq B.fn ?_
  refine wpAny_mono (run_fn (us := [.ref a, u]) (vs := [.ref a, y]) F hr hb .nil hx I (.cons rfl (.cons ry .nil)) q) (fun w s' z => ?_) fun _ _ x => x
  obtain ⟨z', H', I', rz, qz⟩ := z
  exact SlX.cmpback rz ⟨z', H', I', rz, qz⟩
def rNeO (K : PySem.W.Frag) (C : Addr) (sp : Sp) (E : XK) : R2 := fun x y H Q => ∃ a dx fs, x = .ref a ∧ H a = some (.ins C dx fs) ∧ NotFst K C H y ∧ sp [x, y] H (fun v H' => ∃ c, v = .bl c ∧ Q (.bl (!c)) H') E
theorem op_neO (B : EqC X.K C f) (F : FnOk X.prog X.w X.K X.mg X.base CX k f fd ps sp) (hr : Room (k + 1) X.A) (hb : Binds X.K fd ps []) (hx : Passes CX X E) : OpR X (compareOp .NotEq) (rNeO X.K C sp E) := by
  intro pins s σ H x y v u Q I rx ry h
  obtain ⟨a, dx, fs, rfl, ea, hn, q⟩ := h
  cases (show v = Value.ref a from rx)
  obtain ⟨ox, od, J⟩ := ins_at I ea
  obtain ⟨t, ht, hn'⟩ := notFst_at I ry hn
  obtain ⟨m, hF⟩ := I.fr
  show wpAny _ _ (richCompare .NotEq (.ref a) u) _ _ _
  refine PySem.W.vw_ne_K (hu_of hr) hF I.ok.mod.kin J ht hn' B.ne B.ob B.eq B.fn ?_
  refine wpAny_mono (run_in1 (us := [.ref a, u]) (vs := [.ref a, y]) F hr hb hx I (.cons rfl (.cons ry .nil)) q) (fun w s' z => ?_) fun _ _ x => x
  obtain ⟨z', H', I', rz, c, rfl, qz⟩ := z
  cases (show w = Value.bool c from rz)
  exact ⟨c, rfl, .bl (!c), H', I', rfl, qz⟩
/-- len(x) by __len__ -/
structure SpC (K : PySem.W.Frag) (C f : Addr) (m : Str) : Prop where
  at_ : PySem.W.findIn K (.ref C) m = some (some (.ref f))
  fn : PySem.W.isFn K (.ref f) = true
theorem call_lenO (B : SpC X.K C f "__len__") (F : FnOk X.prog X.w X.K X.mg X.base CX k f fd ps sp) (hr : Room (k + 1) X.A) (hb : Binds X.K fd ps []) (hx : Passes CX X E) :
    CallR X (.builtin "len") (fun xs H Q => ∃ a dx fs, xs = [.ref a] ∧ H a = some (.ins C dx fs) ∧ sp [.ref a] H (fun v H' => ∃ n : Nat, v = .int n ∧ n ≤ 1000000 ∧ Q (.int n) H') E) := by
  intro pins s σ H xs us Q I r h
  obtain ⟨a, dx, fs, rfl, ea, q⟩ := h
  obtain ⟨u, rfl, ru⟩ := vals1 r
  cases (show u = Value.ref a from ru)
  obtain ⟨ox, od, J⟩ := ins_at I ea
  obtain ⟨m, hF⟩ := I.fr
  refine PySem.W.len_K hF I.ok.mod.kin J B.at_ B.fn ?_
  refine wpAny_mono (run_in1 (us := [.ref a]) (vs := [.ref a]) F hr hb hx I (.cons rfl .nil) q) (fun w s' z => ?_) fun _ _ x => x
  obtain ⟨z', H', I', rz, n, rfl, hn, qz⟩ := z
  obtain ⟨t, rfl⟩ := (show ∃ t, w = Value.int n t from rz)
  exact ⟨⟨by omega, by omega⟩, .int n, H', I'.tok _, ⟨_, rfl⟩, qz⟩
/-- y in x, y not in x by __contains__ -/
theorem op_inO (B : SpC X.K C f "__contains__") (F : FnOk X.prog X.w X.K X.mg X.base CX k f fd ps sp) (hr : Room k X.A) (hb : Binds X.K fd ps []) (hx : Passes CX X E) :
    OpR X (compareOp .In) (fun y x H Q => ∃ a dx fs, x = .ref a ∧ H a = some (.ins C dx fs) ∧ sp [x, y] H (fun v H' => ∃ c, v = .bl c ∧ Q (.bl c) H') E) := by
  intro pins s σ H y x u v Q I ry rx h
  obtain ⟨a, dx, fs, rfl, ea, q⟩ := h
  cases (show v = Value.ref a from rx)
  obtain ⟨ox, od, J⟩ := ins_at I ea
  obtain ⟨m, hF⟩ := I.fr
  refine PySem.W.in_K hF I.ok.mod.kin J B.at_ B.fn ?_
  refine wpAny_mono (run_fn (us := [.ref a, u]) (vs := [.ref a, y]) F hr hb .nil hx I (.cons rfl (.cons ry .nil)) q) (fun w s' z => ?_) fun _ _ x => x
  obtain ⟨z', H', I', rz, c, rfl, qz⟩ := z
  cases (show w = Value.bool c from rz)
  exact wpAny_truthy_bool ⟨.bl c, H', I', rfl, qz⟩
theorem op_notInO (B : SpC X.K C f "__contains__") (F : FnOk X.prog X.w X.K X.mg X.base CX k f fd ps sp) (hr : Room k X.A) (hb : Binds X.K fd ps []) (hx : Passes CX X E) :
    OpR X (compareOp .NotIn) (fun y x H Q => ∃ a dx fs, x = .ref a ∧ H a = some (.ins C dx fs) ∧ sp [x, y] H (fun v H' => ∃ c, v = .bl c ∧ Q (.bl (!c)) H') E) := by
  intro pins s σ H y x u v Q I ry rx h
  obtain ⟨a, dx, fs, rfl, ea, q⟩ := h
  cases (show v = Value.ref a from rx)
  obtain ⟨ox, od, J⟩ := ins_at I ea
  obtain ⟨m, hF⟩ := I.fr
  refine PySem.W.notIn_K hF I.ok.mod.kin J B.at_ B.fn ?_
  refine wpAny_mono (run_fn (us := [.ref a, u]) (vs := [.ref a, y]) F hr hb .nil hx I (.cons rfl (.cons ry .nil)) q) (fun w s' z => ?_) fun _ _ x => x
  obtain ⟨z', H', I', rz, c, rfl, qz⟩ := z
  cases (show w = Value.bool c from rz)
  exact wpAny_truthy_bool ⟨.bl (!c), H', I', rfl, qz⟩
end
end VW

/-! data that stays; a def with a default and a star; making with a star -/
namespace VW
open PySem PySem.Spec PyProof.Rows L2 StX
mutual
theorem dp_same {K : PySem.W.Frag} {H H' : Hp} (e : Same H H') : ∀ (d : PyData) (v : V), Dp K H v d → Dp K H' v d
  | .none, _, h => by cases h; exact .non
  | .bool b, _, h => by cases h; exact .bl b
  | .int i, _, h => by cases h; exact .int i
  | .str x, _, h => by cases h; exact .str x
  | .list ds, _, h => by
    cases h with
    | lst h1 h2 => exact .lst (e.seq h1) (dpAll_same e ds _ h2)
  | .tuple ds, _, h => by
    cases h with
    | tup h1 h2 => exact .tup (same_t e h1) (dpAll_same e ds _ h2)
  | .dict _, _, h => by cases h
theorem dpAll_same {K : PySem.W.Frag} {H H' : Hp} (e : Same H H') : ∀ (ds : List PyData) (vs : List V), DpAll K H vs ds → DpAll K H' vs ds
  | [], _, h => by cases h; exact .nil
  | d :: ds, _, h => by
    cases h with
    | cons h1 h2 => exact .cons (dp_same e d _ h1) (dpAll_same e ds _ h2)
end
mutual
/-- no list within -/
def noL : PyData → Bool
  | .none | .bool _ | .int _ | .str _ => true
  | .list _ => false
  | .tuple ds => noLs ds
  | .dict _ => false
def noLs : List PyData → Bool
  | [] => true
  | d :: r => noL d && noLs r
end
mutual
theorem dp_kp {K : PySem.W.Frag} {s L : Addr} {H H' : Hp} (e : Kp s H H') (S : Src H s L) : ∀ (d : PyData) (v : V), noL d = true → Dp K H v d → Dp K H' v d
  | .none, _, _, h => by cases h; exact .non
  | .bool b, _, _, h => by cases h; exact .bl b
  | .int i, _, _, h => by cases h; exact .int i
  | .str x, _, _, h => by cases h; exact .str x
  | .list ds, _, n, _ => by simp [noL] at n
  | .tuple ds, _, n, h => by
    cases h with
    | tup h1 h2 => exact .tup (e.t S h1) (dpAll_kp e S ds _ (by simpa [noL] using n) h2)
  | .dict _, _, _, h => by cases h
theorem dpAll_kp {K : PySem.W.Frag} {s L : Addr} {H H' : Hp} (e : Kp s H H') (S : Src H s L) : ∀ (ds : List PyData) (vs : List V), noLs ds = true → DpAll K H vs ds → DpAll K H' vs ds
  | [], _, _, h => by cases h; exact .nil
  | d :: ds, _, n, h => by
    have n' : noL d = true ∧ noLs ds = true := by simpa [noLs] using n
    cases h with
    | cons h1 h2 => exact .cons (dp_kp e S d _ n'.1 h1) (dpAll_kp e S ds _ n'.2 h2)
end
mutual
/-- an instance p is being filled: what holds no list stays -/
theorem dp_ins {K : PySem.W.Frag} {p C dx : Addr} {fs : List (Str × V)} {H H' : Hp} (e : Kp p H H') (hp : H p = some (.ins C dx fs)) : ∀ (d : PyData) (v : V), Dp K H v d → Dp K H' v d
  | .none, _, h => by cases h; exact .non
  | .bool b, _, h => by cases h; exact .bl b
  | .int i, _, h => by cases h; exact .int i
  | .str x, _, h => by cases h; exact .str x
  | .list ds, _, h => by
    cases h with
    | lst h1 h2 =>
      refine .lst ?_ (dpAll_ins e hp ds _ h2)
      rcases h1 with (h | ⟨o, h⟩) | h
      · exact .inl (.inl (e _ _ h (ne_of h hp (by intro z; cases z))))
      · exact .inl (.inr ⟨o, e _ _ h (ne_of h hp (by intro z; cases z))⟩)
      · exact .inr h
  | .tuple ds, _, h => by
    cases h with
    | tup h1 h2 =>
      refine .tup ?_ (dpAll_ins e hp ds _ h2)
      rcases h1 with (h | ⟨o, h⟩) | h
      · exact .inl (.inl (e _ _ h (ne_of h hp (by intro z; cases z))))
      · exact .inl (.inr ⟨o, e _ _ h (ne_of h hp (by intro z; cases z))⟩)
      · exact .inr h
  | .dict _, _, h => by cases h
theorem dpAll_ins {K : PySem.W.Frag} {p C dx : Addr} {fs : List (Str × V)} {H H' : Hp} (e : Kp p H H') (hp : H p = some (.ins C dx fs)) : ∀ (ds : List PyData) (vs : List V), DpAll K H vs ds → DpAll K H' vs ds
  | [], _, h => by cases h; exact .nil
  | d :: ds, _, h => by
    cases h with
    | cons h1 h2 => exact .cons (dp_ins e hp d _ h1) (dpAll_ins e hp ds _ h2)
end
mutual
/-- a list at s is changed: what holds no list stays -/
theorem dp_kpl {K : PySem.W.Frag} {s : Addr} {xs : List V} {H H' : Hp} (e : Kp s H H') (hs : H s = some (.lst xs)) : ∀ (d : PyData) (v : V), noL d = true → Dp K H v d → Dp K H' v d
  | .none, _, _, h => by cases h; exact .non
  | .bool b, _, _, h => by cases h; exact .bl b
  | .int i, _, _, h => by cases h; exact .int i
  | .str x, _, _, h => by cases h; exact .str x
  | .list ds, _, n, _ => by simp [noL] at n
  | .tuple ds, _, n, h => by
    cases h with
    | tup h1 h2 =>
      refine .tup ?_ (dpAll_kpl e hs ds _ (by simpa [noL] using n) h2)
      rcases h1 with (h | ⟨o, h⟩) | h
      · exact .inl (.inl (e _ _ h (ne_of h hs (by intro z; cases z))))
      · exact .inl (.inr ⟨o, e _ _ h (ne_of h hs (by intro z; cases z))⟩)
      · exact .inr h
  | .dict _, _, _, h => by cases h
theorem dpAll_kpl {K : PySem.W.Frag} {s : Addr} {xs : List V} {H H' : Hp} (e : Kp s H H') (hs : H s = some (.lst xs)) : ∀ (ds : List PyData) (vs : List V), noLs ds = true → DpAll K H vs ds → DpAll K H' vs ds
  | [], _, _, h => by cases h; exact .nil
  | d :: ds, _, n, h => by
    have n' : noL d = true ∧ noLs ds = true := by simpa [noLs] using n
    cases h with
    | cons h1 h2 => exact .cons (dp_kpl e hs d _ n'.1 h1) (dpAll_kpl e hs ds _ n'.2 h2)
end
theorem dpAll_len {K : PySem.W.Frag} {H : Hp} : ∀ {vs : List V} {ds : List PyData}, DpAll K H vs ds → vs.length = ds.length
  | _, _, .nil => rfl
  | _, _, .cons _ t => congrArg Nat.succ (dpAll_len t)
theorem dpAll_get {K : PySem.W.Frag} {H : Hp} : ∀ {vs : List V} {ds : List PyData} {i : Nat} {v : V}, DpAll K H vs ds → vs[i]? = some v → ∃ d, ds[i]? = some d ∧ Dp K H v d
  | _, _, _, _, .nil, e => by cases e
  | _, _, 0, _, .cons h _, e => by cases e; exact ⟨_, rfl, h⟩
  | _, _, i + 1, _, .cons _ t, e => by
    obtain ⟨d, h1, h2⟩ := dpAll_get (i := i) t e
    exact ⟨d, h1, h2⟩
theorem dpAll_app {K : PySem.W.Frag} {H : Hp} : ∀ {vs ws : List V} {ds es : List PyData}, DpAll K H vs ds → DpAll K H ws es → DpAll K H (vs ++ ws) (ds ++ es)
  | _, _, _, _, .nil, h => h
  | _, _, _, _, .cons a t, h => .cons a (dpAll_app t h)
/-! ### refs as data -/
abbrev Rf := Str × Int
def refD (r : Rf) : PyData := cellD r.1 r.2
def tgD : Option Rf → PyData
  | none => .none
  | some r => refD r
theorem refD_noL (r : Rf) : noL (refD r) = true := rfl
theorem tgD_noL : ∀ t : Option Rf, noL (tgD t) = true
  | none => rfl
  | some _ => rfl
theorem refs_noL : ∀ so : List Rf, noLs (so.map refD) = true
  | [] => rfl
  | _ :: r => by
    show (true && noLs (r.map refD)) = true
    rw [refs_noL r]
    rfl
theorem refD_eqv (a b : Rf) : PyData.eqv (refD a) (refD b) = decide (a = b) := by
  obtain ⟨x, i⟩ := a
  obtain ⟨y, j⟩ := b
  simp only [refD, cellD, PyData.eqv, PyData.eqvAll, Bool.and_true, Prod.mk.injEq]
  by_cases h1 : x = y <;> by_cases h2 : i = j <;> simp [h1, h2]
theorem tgD_eqv : ∀ a b : Option Rf, PyData.eqv (tgD a) (tgD b) = decide (a = b)
  | none, none => rfl
  | none, some b => by simp [tgD, refD, cellD, PyData.eqv]
  | some a, none => by simp [tgD, refD, cellD, PyData.eqv]
  | some a, some b => by
    show PyData.eqv (refD a) (refD b) = _
    rw [refD_eqv]
    simp
theorem refs_eqv : ∀ a b : List Rf, PyData.eqvAll (a.map refD) (b.map refD) = decide (a = b)
  | [], [] => rfl
  | [], _ :: _ => rfl
  | _ :: _, [] => rfl
  | x :: a, y :: b => by
    show (PyData.eqv (refD x) (refD y) && PyData.eqvAll (a.map refD) (b.map refD)) = _
    rw [refD_eqv, refs_eqv a b]
    by_cases h1 : x = y <;> by_cases h2 : a = b <;> simp [h1, h2]
def okRf (r : Rf) : Prop := ascii r.1
theorem tgD_lay {t : Option Rf} (h : ∀ r, t = some r → okRf r) : PyData.canLay0 (tgD t) = true ∧ PyData.depth (tgD t) ≤ 60 := by
  cases t with
  | none => exact ⟨rfl, Nat.zero_le _⟩
  | some r => exact cellD_lay (h r rfl) _
theorem shaped_of {d : PyData} (h : PyData.canLay0 d = true ∧ PyData.depth d ≤ 60) : SeqAt.shaped d = true := by
  unfold SeqAt.shaped
  rw [h.1, Bool.true_and]
  exact decide_eq_true (by omega)
theorem refs_lay {so : List Rf} (h : ∀ r ∈ so, okRf r) : ∀ d ∈ so.map refD, PyData.canLay0 d = true ∧ PyData.depth d ≤ 60 := fun d hd => by
  obtain ⟨r, hr, rfl⟩ := List.mem_map.mp hd
  exact cellD_lay (h r hr) _
/-- a ref as a value -/
theorem ref_val {K : PySem.W.Frag} {H : Hp} {v : V} {r : Rf} (h : Dp K H v (refD r)) : ∃ t, v = .ref t ∧ SqT K H t [.str r.1, .int r.2] := by
  unfold refD cellD at h
  cases h with
  | tup h1 h2 =>
    cases h2 with
    | cons a b =>
      cases a
      cases b with
      | cons c d =>
        cases c
        cases d
        exact ⟨_, rfl, h1⟩
def goodRf (r : Rf) : Prop := isNm r.1 = true ∧ -9 ≤ r.2 ∧ r.2 ≤ 9
theorem ref_is {K : PySem.W.Frag} {H : Hp} {v : V} {r : Rf} (h : Dp K H v (refD r)) (hz : r.1.length ≤ sizeLine) (b : Bool) (hb : (isNm r.1 && (decide (-9 ≤ r.2) && decide (r.2 ≤ 9))) = b) : RefIs K H v b := by
  obtain ⟨t, rfl, ht⟩ := ref_val h
  subst hb
  exact .two ht (.str hz) (.int _)
theorem ref_good {K : PySem.W.Frag} {H : Hp} {v : V} {r : Rf} (h : Dp K H v (refD r)) (g : goodRf r) : RefIs K H v true := by
  refine ref_is h ?_ true ?_
  · have h8 := g.1
    unfold isNm at h8
    simp only [Bool.and_eq_true, decide_eq_true_eq] at h8
    exact sz_of (by omega)
  · rw [g.1, decide_eq_true g.2.1, decide_eq_true g.2.2]
    rfl
/-! ### a def with one default (None), a star behind it -/
section
variable {CX : CXT} {P : Program} {w : World} {K : PySem.W.Frag} {mg : Str → Option Value} {base : Heap} {k : Nat} {f T : Addr} {name qual : Str} {params : Arguments} {body : List Stmt} {scope : Scope} {kV doc pm cdv ct oc : Value} {an od : Option Addr}
  {osl : Array (Option Value)} {N : List Str} {sp : Sp} {p1 p2 p3 pv : Str} {oT : Obj} {nT : Nat}
theorem fn_starD (lk : K.lookup f = some ⟨oc, od, .func (PySem.W.fnOf name qual params body scope (.ref T) kV doc pm an cdv ct), osl⟩) (hcd : PySem.W.codeIn K cdv qual = true) (lT : K.lookup T = some oT) (dT : oT.data = .seq #[Value.none] nT)
    (S : FnScope N [p1, p2, p3, pv] scope) (hCX : CXUp CX)
    (hb3 : ∀ (a b c : Value) (rest : List Value), ∃ kk, bindArgs (PySem.W.fnOf name qual params body scope (.ref T) kV doc pm an cdv ct) ⟨a :: b :: c :: rest, []⟩ = seqItems? (.ref T) >>= kk ∧ kk (some #[Value.none]) = (newTuple rest >>= fun t => pure [(p1, a), (p2, b), (p3, c), (pv, t)]))
    (hb2 : ∀ (a b : Value), ∃ kk, bindArgs (PySem.W.fnOf name qual params body scope (.ref T) kV doc pm an cdv ct) ⟨[a, b], []⟩ = seqItems? (.ref T) >>= kk ∧ kk (some #[Value.none]) = (newTuple [] >>= fun t => pure [(p1, a), (p2, b), (p3, .none), (pv, t)]))
    (hbody : ∀ (A : Around) (outer : List Env) (s : Shared) (H : Hp) (vs : List V) (Q : VK) (E : XK), Room k (A.deeper (envOfC qual scope s.heap.objs.size f cdv)) → sp vs H Q E →
      ∃ t, PSs (cxOf CX P w K mg base N qual scope f cdv A outer s H E) body t ∧ t { nx := fun _ H' => Q .non H', rt := Q } (start N vs) H) :
    FnR P w K mg base CX (k + 1) f (fun vs H Q E => (∃ a b c rest, vs = a :: b :: c :: rest ∧ rest.length ≤ sizeLine ∧ ∀ p, H p = none → sp [a, b, c, .ref p] (upd H p (.tup rest)) Q E) ∨
      ∃ a b, vs = [a, b] ∧ ∀ p, H p = none → sp [a, b, .non, .ref p] (upd H p (.tup [])) Q E) := by
  intro A outer s H us vs Q E hr e0 r hsp
  have hn : H s.heap.objs.size = none := e0.hok.fresh (Nat.le_refl _)
  have KX : K.In s.heap := e0.mod.kin.keeps fun b o e => (e0.bs b o e).1
  have go : ∀ (a b c : V) (ua ub uc : Value) (rest : List V) (ur : List Value) (args : Args), RelV a ua → RelV b ub → RelV c uc → Vals rest ur → rest.length ≤ sizeLine → (∀ p, H p = none → sp [a, b, c, .ref p] (upd H p (.tup rest)) Q E) →
      (∃ kk, bindArgs (PySem.W.fnOf name qual params body scope (.ref T) kV doc pm an cdv ct) args = seqItems? (.ref T) >>= kk ∧ kk (some #[Value.none]) = (newTuple ur >>= fun t => pure [(p1, ua), (p2, ub), (p3, uc), (pv, t)])) →
      codeAny (model P w) A (.call (.ref f) args) (CR CX outer P w H s Q E) s := by
    intro a b c ua ub uc rest ur args ra rb rc rr hz hq hbind
    obtain ⟨kk, e1, e2⟩ := hbind
    have hl2 : ur.length ≤ sizeLine := by rw [← rr.length]; exact hz
    refine run_bnd lk hcd S hr e0 (G := fun xs H2 => ∃ p, H p = none ∧ xs = [a, b, c, V.ref p] ∧ H2 = upd H p (.tup rest)) (fun A' Ex Q' h => ?_) fun s2 H2 xs ⟨p, hp, ex, eH⟩ hr' => ?_
    · rw [e1]
      refine wpAny_bind (wpAny_seqItems (KX _ _ lT) dT ?_)
      rw [e2]
      refine wpAny_bind (wpAny_newTuple (wpAny_pure ?_) hl2)
      have new : ObjOk P w (upd H s.heap.objs.size (.tup rest)) (s.heap.push ({ cls := .type "tuple", data := .seq ur.toArray } : Obj)) s.heap.objs.size (.tup rest) := ⟨hz, ur, rr, ⟨_, Heap.get?_push_size _ rfl, rfl, _, rfl⟩⟩
      have un := un_laid (fs := frs outer) (s := s) (o := ({ cls := .type "tuple", data := .seq ur.toArray } : Obj)) (u := .tup rest) hn
      exact h _ _ [a, b, c, V.ref s.heap.objs.size] [ua, ub, uc, Value.ref s.heap.objs.size] (env0_laid e0 new) un rfl (fun e s' => hCX outer s H _ _ E e s' un (fun b o q => Heap.get?_push_of_some _ q) rfl) (.cons ra (.cons rb (.cons rc (.cons rfl .nil)))) rfl ⟨_, hn, rfl, rfl⟩
    · subst ex eH
      exact hbody A outer s2 _ _ Q E hr' (hq p hp)
  rcases hsp with ⟨a, b, c, rest, rfl, hz, hq⟩ | ⟨a, b, rfl, hq⟩
  · cases r with
    | cons ra r =>
      cases r with
      | cons rb r =>
        cases r with
        | cons rc rr => exact go a b c _ _ _ rest _ _ ra rb rc rr hz hq (hb3 _ _ _ _)
  · cases r with
    | cons ra r =>
      cases r with
      | cons rb rr =>
        cases rr
        exact go a b .non _ _ .none [] [] _ ra rb rfl .nil (Nat.zero_le _) hq (hb2 _ _)
end
section
variable {X : Cx} {CX : CXT} {k : Nat} {f C : Addr} {sp : Sp} {E : XK} {x : Str} {e : Expr} {es : List Expr} {t : TA} {p pos : Pos}
/-- C(e, .., *y) -/
theorem pe_makeS (M : Mk X.K C f) (F : FnR X.prog X.w X.K X.mg X.base CX k f sp) (hr : Room (k + 1) X.A) (hg : Gl X x) (hm : X.mg x = some (.ref C)) (hx : Passes CX X E) (ha : PA X (e :: es) t) (hdb : (x == ("__debug__" : Str)) = false := by decide)
    (he : starEach (e :: es) X.env = (false, eval e X.env) :: starEach es X.env := by rfl) (hst : (backTo pos (starEach es X.env)).any (·.1) = true := by rfl) : PE X (.Call (.Name x p) (e :: es) [] pos) (tMakeR C sp E t) := by
  refine ⟨fun pins s σ H Q I h => ?_⟩
  refine wpAny_Call_Name_kw (ld_glob I hg hm ?_ hdb)
  refine PySem.W.callWith_S2 (h₀ := X.base) I.ok.mod.kin M.kp (thn (ha.run pos pins s σ H _ I h) fun us s1 ⟨vs, H1, I1, r, q⟩ => ⟨I1.kIn, ?_⟩) he hst
  exact run_makeR M F hr hx I1 r q
end
end VW

/-! isinstance of a caught own error that has a field -/
namespace PySem.W
open PySem PySem.Spec PySem.Calls PyProof.Rows
section
variable {prog : Program} {w : World} {A : Around} {E : Value → Shared → Prop} {s : Shared} {K : Frag} {x D : Addr} {ox : Obj} {od : Option Obj}
theorem vw_findObj {C : Addr} {name : Str} {a g : Value} (hc : (clsIn K C).isSome = true) (ha : findIn K (.ref C) name = some (some a)) (hg : specialIn K a "__get__" = some (some g)) (ht : takesIn K a = some true) : findObj K C od name = some (.bind g a) := by
  obtain ⟨cd, hc⟩ := Option.isSome_iff_exists.mp hc
  unfold findObj
  rw [hc, Option.bind_some, ha, Option.bind_some]
  simp [hg, ht]
theorem vw_classE {Q : Option Value → Shared → Prop} (hga : findIn K (.ref D) "__getattribute__" = some (some (.builtin "BaseException.__getattribute__"))) (hgt : findIn K (.ref D) "__getattr__" = some none) (hsub : subIn K (.ref D) (.type "BaseException") = some true)
    (hdct : hasDictIn K D = true) (ha : findIn K (.ref D) "__class__" = some (some (.builtin "object.__class__")))
    (hn : specialIn K (.builtin "object.__class__") "__get__" = some (some (.builtin "getset_descriptor.__get__"))) (htk : takesIn K (.builtin "object.__class__") = some true) (hm : mroIn K D (.type "object") = some true)
    (X : K.In s.heap) (I : InstAt s.heap x ox D od) (h : Q (some (.ref D)) { s with toks := s.toks + 1 }) : wpAny (model prog w) A (getAttr? (.ref x) "__class__") Q E s := by
  have hf : findObj K D od "__class__" = some (.bind (.builtin "getset_descriptor.__get__") (.builtin "object.__class__")) := vw_findObj (by obtain ⟨cd, hc, _⟩ := any_some hdct; rw [hc]; rfl) ha hn htk
  obtain ⟨hp, g, d, t, os⟩ := s
  have L0 := I.type (M := model prog w)
  have L1 := looks_findIn (M := model prog w) X hga
  have L2 := looks_findIn (M := model prog w) X hgt
  have L3 := looks_find (M := model prog w) X I hf
  have sub : Looks (model prog w) hp (isInstance (.ref x) (.type "BaseException")) true := L0.andThen (looks_subIn X hsub)
  have hx0 : (false && onTheHeap (Value.builtin "BaseException.__getattribute__")) = false := rfl
  have hx2 : (Value.builtin "BaseException.__getattribute__" == Value.builtin "object.__getattribute__") = false := by decide +kernel
  have hx1 : (onTheHeap (Value.ref D) && Value.builtin "BaseException.__getattribute__" == Value.builtin "object.__getattribute__") = false := by rw [hx2]; rfl
  unfold getAttr? getAttrBy? getAttrBy
  refine wpAny_bind (wpAny_mkText (wpAny_bind (wpAny_attempt (wpAny_holding (wpAny_bind (L0.at (wpAny_bind (L1.at ?_))))))))
  show wpAny _ _ (if (onTheHeap (Value.ref D) && Value.builtin "BaseException.__getattribute__" == Value.builtin "object.__getattribute__") = true then _ else _) _ _ _
  rw [hx1, if_neg Bool.false_ne_true]
  unfold getAttrByItsOwn hookBefore
  refine wpAny_bind ?_
  rw [if_pos (show onTheHeap (Value.ref D) = true from rfl)]
  refine L2.at ?_
  refine wpAny_bind (wpAny_attempt (wpAny_holding ?_))
  unfold callGetattribute
  rw [hx0, if_neg Bool.false_ne_true]
  unfold boundAndCalled
  rw [PySem.F.excAttr_ValueError.ga.bind (.ref x)]
  refine wpAny_bind (wpAny_pure ?_)
  show wpAny _ _ (call (.builtin "BaseException.__getattribute__") [.ref x, .str "__class__" t]) _ _ _
  refine wpAny_call (codeAny_call_builtin PySem.F.excAttr_ValueError.ga.plain PySem.F.entry_bexc_ga ?_)
  refine @check_slot (model prog w) _ _ ⟨hp, g, d, t + 1, os⟩ "BaseException.__getattribute__" "BaseException" "__getattribute__" (.ref x) [.str "__class__" t] [] _ (by decide +kernel) (by decide +kernel) sub (PySem.F.args_bexc_ga (.ref x) (.str "__class__" t)) ?_
  unfold Builtin.«object.__getattribute__»
  refine wpAny_bind (wpAny_of_eq (a := ((Value.ref x : Value), [Value.str "__class__" t])) (by first | rfl | (simp only [slotArgs]; rfl)) ?_)
  refine wpAny_bind (wpAny_pure (wpAny_bind (L0.at (wpAny_bind (L3.at ?_)))))
  show wpAny _ _ (holding [Value.builtin "object.__class__"] (call (.builtin "getset_descriptor.__get__") [.builtin "object.__class__", .ref x, .ref D]) >>= ret) _ _ _
  refine wpAny_bind (wpAny_holding (wpAny_call (class_get (s := ⟨hp, g, d, t + 1, os⟩) (ox := ox) (od := od) X I hm ?_)))
  refine wpAny_pure ?_
  show wpAny _ _ (handedOut (.ref D)) _ _ _
  rw [handedOut_of (v := .ref D) rfl]
  first
    | exact wpAny_pure (wpAny_pure h)
    | exact wpAny_pure h
    | exact wpAny_pure (wpAny_bind (wpAny_pure (wpAny_pure h)))
theorem vw_kitx (hga : findIn K (.ref D) "__getattribute__" = some (some (.builtin "BaseException.__getattribute__"))) (hgt : findIn K (.ref D) "__getattr__" = some none) (hsub : subIn K (.ref D) (.type "BaseException") = some true) (hdct : hasDictIn K D = true) (ha : findIn K (.ref D) "__class__" = some (some (.builtin "object.__class__")))
    (hn : specialIn K (.builtin "object.__class__") "__get__" = some (some (.builtin "getset_descriptor.__get__"))) (htk : takesIn K (.builtin "object.__class__") = some true) (hm : mroIn K D (.type "object") = some true) :
    KitX K (.ref x) (.ref D) (fun h => InstAt h x ox D od) where
  ty := fun _ _ _ I => I.type
  it := fun _ _ X _ => by
    obtain ⟨cdD, hcD, _⟩ := any_some hdct
    unfold clsIn at hcD
    split at hcD
    · rename_i c' d' cd' sl' ho
      intro A' Q' E' s' k q
      unfold isType loadHead
      exact wpAny_bind (wpAny_loadPart (k _ _ (X _ _ ho)) (wpAny_pure q))
    · cases hcD
  ne := fun h tp dd its n sl X htp => by
    obtain ⟨cdD, hcD, _⟩ := any_some hdct
    refine Bool.eq_false_iff.mpr fun q => ?_
    have e : D = tp := Value.ref.inj (beq_iff_eq.mp q)
    subst e
    unfold clsIn at hcD
    split at hcD
    · rename_i c' d' cd' sl' ho
      have z := (X _ _ ho).symm.trans htp
      cases z
    · cases hcD
  ca := fun X I k => vw_classE hga hgt hsub hdct ha hn htk hm X I k
end
end PySem.W
namespace VW
open PySem PySem.Spec PyProof.Rows L2
/-- isinstance(e, c), e the exception that the suite holds, of the class D, with the dict dd -/
def rIsD (K : PySem.W.Frag) (D a : Addr) (cls : Value) (d : Option Addr) : List V → Hp → VK → Prop := fun xs H Q => ∃ (c : V) (cv : Value) (b : Bool) (dd : Addr) (fs : List (Str × V)), xs = [.ref a, c] ∧ cls = .ref D ∧ d = some dd ∧ H dd = some (.xd fs) ∧ ClsV c cv ∧ PySem.W.kitOne K (.ref D) cv = some b ∧ Q (.bl b) H
theorem call_isD {X : Cx} {a D : Addr} {oe : Obj} {cls : Value} {d : Option Addr} {pn : List (Addr × Obj)} (C : ExcC X.K D) (hz : Zc cls d oe) (hf : ∃ vs, oe.data = .fields vs) : CallR (X.suite a ((a, oe) :: pn)) (.builtin "isinstance") (rIsD X.K D a cls d) := by
  intro pins s σ H xs us Q I r h
  obtain ⟨c, cv, b, dd, fs, rfl, ec, ed, hd, k, e, q⟩ := h
  subst ec
  subst ed
  obtain ⟨u1, u2, rfl, rx, rt⟩ := vals2 r
  cases (show u1 = Value.ref a from rx)
  have e2 := k.eq rt
  subst e2
  obtain ⟨hget, _⟩ := I.pin (a, oe) (List.mem_append.mpr (.inl List.mem_cons_self))
  obtain ⟨vs, hv⟩ := hf
  obtain ⟨mA, hns, hr⟩ := (show ObjOk X.prog X.w H s.heap dd (.xd fs) from I.hok dd _ hd)
  obtain ⟨od, ho, hl⟩ := lookIn_ns hns
  have J : PySem.W.InstAt s.heap a oe D (some od) := ⟨hget, hz.1, by unfold PySem.W.notCls; rw [hv] <;> rfl, by rw [hz.2]; exact ho⟩
  exact PySem.W.kia_one (PySem.W.vw_kitx C.hg C.hk C.hs C.hd C.ha C.hn C.ht C.hm) I.kIn J e (fun z => nomatch z) fun tk => ⟨.bl b, H, I.kept (t' := tk) fun _ _ z => z, rfl, q⟩
end VW

/-! what is shown of lists and tuples: promises for calls under no guard -/
namespace VW
open PySem PySem.Spec PyProof.Rows L2
section
variable {P : Program} {w : World} {K : PySem.W.Frag} {mg : Str → Option Value} {base : Heap} {CX : CXT} {k : Nat} {f : Addr} {fd : FuncData} {ps : List Str} {sp : Sp}
/-- a promise that holds where no repr is under way -/
structure FnG (P : Program) (w : World) (K : PySem.W.Frag) (mg : Str → Option Value) (base : Heap) (CX : CXT) (k : Nat) (f : Addr) (fd : FuncData) (ps : List Str) (sp : Sp) : Prop where
  len : ∀ vs H Q E, sp vs H Q E → vs.length = ps.length
  run : ∀ (A : Around) (outer : List Env) (s : Shared) (H : Hp) (args : Args) (us : List Value) (vs : List V) (Q : VK) (E : XK), A.guards = some [] → Room k A → Env0 P w K mg base A outer s H → BindsTo s fd args (ps.zip us) → Vals vs us → sp vs H Q E →
    codeAny (model P w) A (.call (.ref f) args) (CR CX outer P w H s Q E) s
theorem okG {x qual : Str} {st : Stmt} {N : List Str} (F : Fun K x qual st f fd) (S : FnScope N ps (defScope st)) (len : ∀ vs H Q E, sp vs H Q E → vs.length = ps.length)
    (hbody : ∀ (cdv : Value) (A : Around) (outer : List Env) (s : Shared) (H : Hp) (vs : List V) (Q : VK) (E : XK), A.guards = some [] → Room k (A.deeper (envOfC qual (defScope st) s.heap.objs.size f cdv)) → sp vs H Q E →
      ∃ t, PSs (cxOf CX0 P w K mg base N qual (defScope st) f cdv A outer s H E).nox (defBody st) t ∧ t { nx := fun _ H' => Q .non H', rt := Q } (start N vs) H) : FnG P w K mg base CX0 (k + 1) f fd ps sp := by
  obtain ⟨oc, od, kV, doc, pm, an, cdv, ct, osl, rfl, lk, hcd⟩ := F.ex
  refine ⟨len, fun A outer s H args us vs Q E hg hr e0 hb r hsp => ?_⟩
  refine StX.run_bnd lk hcd S hr e0 (G := fun xs H2 => xs = vs ∧ H2 = H ∧ True) (fun A' Ex Q' h => hb _ _ _ _ (h s H vs us e0 (Un.refl ..) rfl (fun _ _ z => z) r (len _ _ _ _ hsp) ⟨rfl, rfl, trivial⟩)) fun s2 H2 xs hG hr' => ?_
  obtain ⟨rfl, rfl, _⟩ := hG
  obtain ⟨t, h1, h2⟩ := hbody cdv A outer s2 _ _ Q E hg hr' hsp
  exact ⟨t, h1.nox, h2⟩
end
section
variable {X : Cx} {CX : CXT} {k : Nat} {f : Addr} {fd : FuncData} {ps : List Str} {sp : Sp} {E : XK} {x : Str} {e : Expr} {es : List Expr} {t : TA} {p pos : Pos}
theorem run_fnG {pins : List (Addr × Obj)} {σ : L2.St} {H : Hp} {s : Shared} {Q : VK} {us : List Value} {vs : List V} (hgd : X.A.guards = some []) (F : FnG X.prog X.w X.K X.mg X.base CX k f fd ps sp) (hr : Room k X.A) (hb : Binds X.K fd ps []) (hx : Passes CX X E)
    (I : Inv X pins σ H s) (r : Vals vs us) (h : sp vs H Q E) : wpAny (model X.prog X.w) X.A (call (.ref f) us) (EP X pins σ Q) X.xe s := by
  have hl : us.length = ps.length := by rw [← r.length]; exact F.len _ _ _ _ h
  have hb' := hb s us I.kIn (by rw [List.append_nil]; exact hl)
  rw [List.append_nil] at hb'
  refine wpAny_call (codeAny_mono (F.run X.A X.stack s H ⟨us, []⟩ us vs Q E hgd hr I.env0 hb' r h) fun r s' hq => ?_)
  cases r with
  | error e => exact hx pins σ H s e s' I hq
  | ok fl =>
    cases fl with
    | ret u => exact I.after hq
    | next => exact False.elim hq
    | brk => exact False.elim hq
    | cont => exact False.elim hq
theorem pe_callG (hgd : X.A.guards = some []) (F : FnG X.prog X.w X.K X.mg X.base CX k f fd ps sp) (hr : Room k X.A) (hg : Gl X x) (hm : X.mg x = some (.ref f)) (hk : PySem.W.keepIn X.K (.ref f) = true) (hb : Binds X.K fd ps []) (hx : Passes CX X E)
    (ha : PA X (e :: es) t) (hdb : (x == ("__debug__" : Str)) = false := by decide) (he : starEach (e :: es) X.env = (false, eval e X.env) :: starEach es X.env := by rfl) (hpl : (backTo pos (starEach es X.env)).any (·.1) = false := by rfl) :
    PE X (.Call (.Name x p) (e :: es) [] pos) (fun σ H Q => t σ H fun vs H1 => sp vs H1 Q E) := by
  refine ⟨fun pins s σ H Q I h => ?_⟩
  refine wpAny_Call_Name_kw (ld_glob I hg hm ?_ hdb)
  refine PySem.W.callWith_K (h₀ := X.base) I.ok.mod.kin hk (thn (ha.run pos pins s σ H _ I h) fun us s1 ⟨vs, H1, I1, r, q⟩ => ⟨I1.kIn, ?_⟩) he hpl
  exact run_fnG hgd F hr hb hx I1 r q
/-- the text that repr gives: scalars, or data of lists and tuples -/
inductive ReprD (K : PySem.W.Frag) (H : Hp) : V → Str → Prop
  | sc {v : V} {z : Str} (h : ReprIs v z) : ReprD K H v z
  | dt {a : Addr} {d : PyData} (h : Dp K H (.ref a) d) (h1 : d.showable = true) (h2 : d.hasDict = false) (h3 : d.depth ≤ 60) (h4 : d.shown.length ≤ sizeLine) : ReprD K H (.ref a) d.shown
theorem call_reprG (hgd : X.A.guards = some []) (hu : X.A.units + 64 < cLine) : CallR X (.builtin "repr") (fun xs H Q => ∃ v z, xs = [v] ∧ ReprD X.K H v z ∧ Q (.str z) H) := by
  intro pins s σ H xs us Q I r h
  obtain ⟨v, z, rfl, hz, q⟩ := h
  cases hz with
  | sc hz => exact call_reprF pins s σ H _ us Q I r ⟨v, z, rfl, hz, q⟩
  | dt hd h1 h2 h3 h4 =>
    rename_i a d
    obtain ⟨u, rfl, ru⟩ := vals1 r
    cases (show u = Value.ref a from ru)
    obtain ⟨as, rd⟩ := Dp.reads I d _ _ hd ru
    exact PySem.repr_of_reads' rd h1 (fun e => by rw [h2] at e; cases e) hgd (by omega) (fun _ _ z => z) (fun h' u tk hk => ⟨.str _, H, I.kept (t' := tk) hk, ⟨_, rfl⟩, q⟩) h4
end
/-! ### the head -/
theorem law_callG {P : Program} {w : World} {K : PySem.W.Frag} {mg mb : Str → Option Value} {CX : CXT} {k : Nat} {fa a : Addr} {fd : FuncData} {x : Str} {sp : Sp} {s₁ : Shared} {vs : List Value} {ns : List Int}
    (KX : K.In s₁.heap) (hns : s₁.heap.Ns mainGlobals mg) (hb : s₁.heap.Ns builtinsNs mb) (hbb : ∀ x : Str, x ≠ "__name__" → mb x = bootBuiltins x) (hlim : s₁.heap.NoLimit) (hg : s₁.gens = #[])
    (ha : s₁.heap.get? a = some { cls := .type "list", data := .seq vs.toArray }) (hi : IntsAre vs ns) (hl : ns.length ≤ sizeLine) (hr : Room k callerA)
    (F : ∀ base : Heap, K.In base → base.Ns mainGlobals mg → FnG P w K mg base CX k fa fd [x] sp) (hbind : ∀ (s : Shared) (u : Value), BindsTo s fd ⟨[u], []⟩ [(x, u)])
    (hsp : ∀ H : Hp, Only H → SqL K H a (ns.map V.int) → sp [.ref a] H (fun v _ => v = .bl true) fun _ _ _ => False)
    (hCX : ∀ H e s', CX [] H s₁ (fun _ _ _ => False) e s' → False) :
    codeAny (model P w) callerA (.call (.ref fa) ⟨[.ref a], []⟩) (fun r s' => r = .ok (.ret (.bool true)) ∧ OldK s₁.heap s'.heap ∧ s'.os = s₁.os ∧ AllBare s'.gens) s₁ := by
  -- what is tracked at the start: the script, if it is not the module's own
  obtain ⟨H, hO, hS, hok, own⟩ : ∃ H : Hp, Only H ∧ SqL K H a (ns.map V.int) ∧ HOk P w H s₁.heap ∧ ∀ b, H b ≠ none → b = a ∧ K.lookup b = none := by
    have rv := vals_ints hi
    cases hk : K.lookup a with
    | some o =>
      have e := KX a o hk
      rw [ha] at e
      cases e
      refine ⟨fun _ => none, fun _ => .inl rfl, .inr ⟨_, vs.toArray, _, hk, rfl, rfl, rfl, ?_, by simpa using rv⟩, fun b u z => ?_, fun b z => absurd rfl z⟩
      · rw [List.size_toArray, hi.length]
        exact hl
      · exact absurd (show (none : Option HO) = some u from z) (by simp)
    | none =>
      have other : ∀ b, b ≠ a → (upd (fun _ => none) a (.frz { cls := .type "list", data := .seq vs.toArray } (.lst (ns.map V.int))) : Hp) b = none := fun b n => upd_ne n
      refine ⟨upd (fun _ => none) a (.frz { cls := .type "list", data := .seq vs.toArray } (.lst (ns.map V.int))), fun b => ?_, .inl (.inr ⟨_, upd_same⟩), fun b u z => ?_, fun b z => ?_⟩
      · by_cases c : b = a
        · rw [c]
          exact .inr ⟨_, _, upd_same⟩
        · exact .inl (other b c)
      · by_cases c : b = a
        · subst c
          rw [upd_same] at z
          cases z
          exact ⟨ha, by rw [List.length_map]; exact hl, vs, _, rv, ha⟩
        · rw [other b c] at z
          cases z
      · by_cases c : b = a
        · rw [c]
          exact ⟨rfl, hk⟩
        · exact absurd (other b c) z
  have free : ∀ b o, s₁.heap.get? b = some o → (∀ xs n, o.data ≠ .seq xs n) → H b = none := fun b o e d => by
    cases q : H b with
    | none => rfl
    | some u =>
      obtain ⟨e', _⟩ := own b (by rw [q]; simp)
      rw [e', ha] at e
      cases e
      exact absurd rfl (d _ _)
  have ns' : ∀ {b : Addr} {m : Str → Option Value}, s₁.heap.Ns b m → (hidT s₁.heap H).Ns b m := fun {b m} ⟨o, es, ep, e, d, r⟩ => ⟨o, es, ep, hidT_get e (free b o e fun xs n z => by rw [d] at z; cases z), d, r⟩
  have kin : K.In (hidT s₁.heap H) := fun b o e => hidT_get (KX b o e) (by
    cases q : H b with
    | none => rfl
    | some u =>
      obtain ⟨_, e'⟩ := own b (by rw [q]; simp)
      rw [e'] at e
      cases e)
  have e0 : Env0 P w K mg (hidT s₁.heap H) callerA [] s₁ H := { frames := rfl, mod := ⟨kin, ns' hns, ⟨mb, ns' hb, hbb⟩, let ⟨mc, h1, h2⟩ := hlim; ⟨mc, ns' h1, h2⟩⟩, bs := fun b o e => of_hidT e, bsz := Nat.le_of_eq (hidT_size _ _), funs := trivial, frf := fun b hb => (by cases hb), hok := hok, bare := .of_eq hg }
  refine codeAny_mono ((F _ kin (ns' hns)).run callerA [] s₁ H ⟨[.ref a], []⟩ [.ref a] [.ref a] _ _ rfl hr e0 (hbind s₁ (.ref a)) (.cons rfl .nil) (hsp H hO hS)) fun r s' h => ?_
  cases r with
  | error e => exact (hCX H e s' h).elim
  | ok fl =>
    cases fl with
    | next => exact False.elim h
    | brk => exact False.elim h
    | cont => exact False.elim h
    | ret u =>
      obtain ⟨v, H', os, bare, un, hok', r', q⟩ := h
      cases (show v = .bl true from q)
      cases (show u = Value.bool true from r')
      refine ⟨rfl, OldK.of_keep fun b o e => ?_, os, bare⟩
      rcases hO b with z | ⟨ob, xs, z⟩
      · exact un.keep b o e z (fun z => by cases z) (by simp)
      · have e1 := (hok b _ z).1
        rw [e] at e1
        cases e1
        exact (hok' b _ (un.frzs b _ _ z)).1
theorem walk_ofG {l : PySem.W.OpenLaw} {n k : Nat} {q : Program} {loose : List Str} {XP : (Str → Option Value) → Heap → Prop} {YP : World → Heap → Prop} {d : DefRec} {K : Params → PySem.W.Frag} {CX : World → CXT} {sp : World → Sp} {x : Str}
    (hn : l.most = some n) (hn2 : n ≤ sizeLine) (hdf : d.params.defaults = []) (hr : Room k callerA)
    (hY : ∀ (w : World) (h : Heap), YP w h → (K w.params).In h)
    (F : ∀ (w : World) (mg : Str → Option Value) (fa : Addr) (h : Heap), (K w.params).In h → h.Ns mainGlobals mg → mg d.name = some (.ref fa) →
      ∃ fd : FuncData, (∀ (s : Shared) (u : Value), BindsTo s fd ⟨[u], []⟩ [(x, u)]) ∧
        ∀ base : Heap, (K w.params).In base → base.Ns mainGlobals mg → FnG l.prog w (K w.params) mg base (CX w) k fa fd [x] (sp w))
    (hsp : ∀ (w : World) (H : Hp) (a : Addr) (ns : List Int), ns.length ≤ n → Only H → SqL (K w.params) H a (ns.map V.int) → sp w [.ref a] H (fun v _ => v = .bl true) fun _ _ _ => False)
    (hCX : ∀ (w : World) (H : Hp) (s : Shared) (e : Value) (s' : Shared), CX w [] H s (fun _ _ _ => False) e s' → False) :
    PySem.W.WalkO q loose XP YP l.row.toRowW d [] (fun f vs => PySem.call f vs) := by
  refine Att.attach_call hn hdf fun w s₀ s₁ mg mb fa o pm cd doc a vs ns G Y ho hd hcd hmg hobj hints hlen hg => ?_
  have KX := hY w _ Y
  obtain ⟨fd, hb, hF⟩ := F w mg fa _ KX G.T.g hmg
  exact law_callG KX G.T.g G.T.b G.T.builtins G.T.nolimit hg hobj hints (Nat.le_trans hlen hn2) hr hF hb (fun H hO hS => hsp w H a ns hlen hO hS) fun H e s' => hCX w H s₁ e s'
end VW

/-! o[i] by the class's own __getitem__ -/
namespace VW
open PySem PySem.Spec PyProof.Rows L2
section
variable {X : Cx} {CX : CXT} {k : Nat} {f C : Addr} {fd : FuncData} {ps : List Str} {sp : Sp} {E : XK} {a b : Expr} {ta tb : TE} {pos : Pos}
def tIxO (C : Addr) (sp : Sp) (E : XK) (ta tb : TE) : TE := fun σ H Q => ta σ H fun x H1 => tb σ H1 fun y H2 => ∃ p dx fs, x = .ref p ∧ H2 p = some (.ins C dx fs) ∧ sp [x, y] H2 Q E
theorem pe_ixO (B : SpC X.K C f "__getitem__") (hfn : PySem.W.fnIn X.K f = true) (F : FnOk X.prog X.w X.K X.mg X.base CX k f fd ps sp) (hr : Room (k + 1) X.A) (hbd : Binds X.K fd ps []) (hx : Passes CX X E) (ha : PE X a ta) (hb : PE X b tb)
    (hsl : ∀ (x : Addr) (i : Value), subscripted b true (.ref x) i = runValue (.builtin "lifetime.subscript" ⟨[.ref x, i], []⟩)) : PE X (.Subscript a b pos) (tIxO C sp E ta tb) := by
  refine ⟨fun pins s σ H Q I h => ?_⟩
  refine Subscript_ (binT ha hb I (R := fun x y H2 => ∃ p dx fs, x = V.ref p ∧ H2 p = some (.ins C dx fs) ∧ sp [x, y] H2 Q E) h fun v u s2 x y H2 I2 rx ry q => ?_)
  obtain ⟨p, dx, fs, rfl, ea, q⟩ := q
  cases (show v = Value.ref p from rx)
  obtain ⟨ox, od, J⟩ := ins_at I2 ea
  obtain ⟨m, hF⟩ := I2.fr
  refine PySem.W.sub_K hF I2.ok.mod.kin J B.at_ hfn B.fn ?_ (hsl p u)
  exact run_in1 (us := [.ref p, u]) (vs := [.ref p, y]) F hr hbd hx I2 (.cons rfl (.cons ry .nil)) q
end
/-- a dict comprehension over what is walked: Pv by the turn and the heap (the new dict at D within) -/
theorem dc_it {J : It} {n : Nat} {G : Hp → Prop} {Y : Nat → Hp → V → Hp → Prop} (w : Walk J n G Y) {g : TG} {tt : TT} {tk tv : TE} {vs : List Nat} {σ : L2.St} {H1 : Hp} {D : Addr} {Qd : Hp → Prop} (Pv : Nat → Hp → Prop) (h0 : Pv 0 (upd H1 D (.dK []))) (hG : ∀ i H, i ≤ n → Pv i H → G H)
    (hs : ∀ i x H H', i < n → Pv i H → Y i H x H' → g x (wipe σ vs) H' fun σ2 H2 => wipe σ2 vs = wipe σ vs ∧ tt σ2 H2 fun b H3 =>
      if b = true then tk σ2 H3 fun y H4 => tv σ2 H4 fun z H5 => ∃ kvs k, y = kV k ∧ H5 D = some (.dK kvs) ∧ kvs.length < sizeLine ∧ Pv (i + 1) (upd H5 D (.dK (putK kvs k z))) else Pv (i + 1) H3) (hd : ∀ H, Pv n H → Qd H) :
    ∃ W : Nat → Nat → Hp → Prop, (∃ m, W 0 m (upd H1 D (.dK []))) ∧ ∀ i m H, W i m H →
      (J.stop i H ∧ Qd H) ∨ (J.go i H ∧ ∃ Nx : Hp → Prop, (∀ H', Nx H' → ∃ m', m' < m ∧ W (i + 1) m' H') ∧ ∀ x H', J.yld i H x H' → g x (wipe σ vs) H' fun σ2 H2 => wipe σ2 vs = wipe σ vs ∧ tt σ2 H2 fun b H3 =>
        if b = true then tk σ2 H3 fun y H4 => tv σ2 H4 fun z H5 => ∃ kvs k, y = kV k ∧ H5 D = some (.dK kvs) ∧ kvs.length < sizeLine ∧ Nx (upd H5 D (.dK (putK kvs k z))) else Nx H3) := by
  refine ⟨fun i m H => m = n - i ∧ i ≤ n ∧ Pv i H, ⟨n, by simp, Nat.zero_le _, h0⟩, fun i m H h => ?_⟩
  obtain ⟨rfl, hi, p⟩ := h
  have q := hG i H hi p
  rcases Nat.lt_or_eq_of_le hi with hlt | e
  · exact .inr ⟨w.goes i H hlt q, Pv (i + 1), fun H' p' => ⟨n - (i + 1), by omega, rfl, hlt, p'⟩, fun x H' y => hs i x H H' hlt p (w.yields i H x H' hlt q y)⟩
  · subst e
    exact .inl ⟨w.stops H q, hd H p⟩
/-- what was locked is given back -/
theorem unlock_same {H H' : Hp} {d : Addr} {x u : HO} (e : Same (upd H d x) H') (h : H d = some u) : Same H (upd H' d u) := fun b o hb => by
  by_cases c : b = d
  · subst c
    rw [h] at hb
    cases hb
    exact upd_same
  · rw [upd_ne c]
    exact e b o (by rw [upd_ne c]; exact hb)
end VW

/-! dicts compared, whatever comes of it; two instances and an own operator -/
namespace VW
open PySem PySem.Spec PyProof.Rows L2
def eqKV (ks ls : List (L2.Key × V)) : Bool := ks.all fun p => match valV ls p.1 with
  | none => false
  | some u => eqV p.2 u
theorem hits_flat {A : Around} {s : Shared} {kvs : List (L2.Key × V)} {vb : List (L2.Key × Value)} (rb : KV kvs vb) (fb : ∀ k u, valV kvs k = some u → flatV u = true) {ks : List (L2.Key × V)} {va : List (L2.Key × Value)} (ra : KV ks va) :
    (∀ p ∈ ks, flatV p.2 = true) → PySem.W.KeqHits A s vb va (eqKV ks kvs) := by
  unfold KV at ra
  induction ra with
  | nil => intro _; exact .nil
  | @cons p q ps qs h t ih =>
    intro hp
    obtain ⟨h1, h2⟩ := h
    have f := hp p List.mem_cons_self
    obtain ⟨k, v⟩ := q
    have h1' : p.1 = k := h1
    have ih' := ih fun p' hm => hp p' (List.mem_cons_of_mem _ hm)
    have rr := rb.val p.1
    show PySem.W.KeqHits A s vb ((k, v) :: qs) ((match valV kvs p.1 with | none => false | some u => eqV p.2 u) && eqKV ps kvs)
    cases hv : valV kvs p.1 with
    | none =>
      rw [hv] at rr
      have hn : valueAt vb k = none := by
        rw [← h1']
        cases hq : valueAt vb p.1 with
        | none => rfl
        | some y => rw [hq] at rr; exact False.elim rr
      exact .miss hn
    | some u =>
      rw [hv] at rr
      obtain ⟨y, hy, ry⟩ := rr.some_of
      rw [h1'] at hy
      exact .hit hy (eqAt_V h2 ry f (fb _ _ hv)) ih'
section
variable {X : Cx}
def rEqDB (neg : Bool) : R2 := fun x y H Q => ∃ a b ks ls, x = .ref a ∧ y = .ref b ∧ H a = some (.dK ks) ∧ H b = some (.dK ls) ∧ (∀ p ∈ ks, flatV p.2 = true) ∧ (∀ k u, valV ls k = some u → flatV u = true) ∧ Q (.bl (neg ^^ (ks.length == ls.length && eqKV ks ls))) H
theorem op_eq_dictB (hu : X.A.units < cLine) : OpR X (compareOp .Eq) (rEqDB false) := by
  intro pins s σ H x y v u Q I rx ry h
  obtain ⟨a, b, ks, ls, rfl, rfl, ea, eb, fa, fb, q⟩ := h
  obtain rfl : v = Value.ref a := rx
  obtain rfl : u = Value.ref b := ry
  obtain ⟨_, ya, va, ra, da⟩ := (show ObjOk X.prog X.w H s.heap a (.dK ks) from I.hok a _ ea)
  obtain ⟨_, yb, vb, rb, db⟩ := (show ObjOk X.prog X.w H s.heap b (.dK ls) from I.hok b _ eb)
  refine PySem.W.keq_eq (knd := mixKind X.prog X.w) (r := eqKV ks ls) ya yb da db hu (fun _ => hits_flat rb fb ra fa) (fin_bl I q ?_)
  rw [← ra.length, ← rb.length]
  simp
theorem op_ne_dictB (hu : X.A.units < cLine) : OpR X (compareOp .NotEq) (rEqDB true) := by
  intro pins s σ H x y v u Q I rx ry h
  obtain ⟨a, b, ks, ls, rfl, rfl, ea, eb, fa, fb, q⟩ := h
  obtain rfl : v = Value.ref a := rx
  obtain rfl : u = Value.ref b := ry
  obtain ⟨_, ya, va, ra, da⟩ := (show ObjOk X.prog X.w H s.heap a (.dK ks) from I.hok a _ ea)
  obtain ⟨_, yb, vb, rb, db⟩ := (show ObjOk X.prog X.w H s.heap b (.dK ls) from I.hok b _ eb)
  refine PySem.W.keq_ne (knd := mixKind X.prog X.w) (r := eqKV ks ls) ya yb da db hu (fun _ => hits_flat rb fb ra fa) (fin_bl I q ?_)
  rw [← ra.length, ← rb.length]
  simp
end
section
variable {X : Cx} {CX : CXT} {k : Nat} {f C : Addr} {fd : FuncData} {ps : List Str} {sp : Sp} {E : XK}
/-- x op y, two instances of the class -/
structure BinO (K : PySem.W.Frag) (C f : Addr) (op : Operator) : Prop where
  sf : PySem.W.selfFirst K C = true
  at_ : PySem.W.findIn K (.ref C) (PySem.dunder op.info.2) = some (some (.ref f))
  fn : PySem.W.isFn K (.ref f) = true
def rBinO (C : Addr) (sp : Sp) (E : XK) : R2 := fun x y H Q => ∃ a dx fs b dy gs, x = .ref a ∧ y = .ref b ∧ H a = some (.ins C dx fs) ∧ H b = some (.ins C dy gs) ∧ sp [x, y] H Q E
theorem op_binO {op : Operator} (B : BinO X.K C f op) (F : FnOk X.prog X.w X.K X.mg X.base CX k f fd ps sp) (hr : Room k X.A) (hb : Binds X.K fd ps []) (hx : Passes CX X E) : OpR X (binaryOp op) (rBinO C sp E) := by
  intro pins s σ H x y v u Q I rx ry h
  obtain ⟨a, dx, fs, b, dy, gs, rfl, rfl, ea, eb, q⟩ := h
  cases (show v = Value.ref a from rx)
  cases (show u = Value.ref b from ry)
  obtain ⟨ox, od, J⟩ := ins_at I ea
  obtain ⟨ox2, od2, J2⟩ := ins_at I eb
  obtain ⟨m, hF⟩ := I.fr
  refine PySem.W.binop_K hF I.ok.mod.kin J J2.type B.sf B.at_ B.fn ?_
  refine wpAny_mono (run_fn (us := [.ref a, .ref b]) (vs := [.ref a, .ref b]) F hr hb .nil hx I (.cons rfl (.cons rfl .nil)) q) (fun w s' z => ?_) fun _ _ x => x
  obtain ⟨z', H', I', rz, qz⟩ := z
  exact SlX.cmpback rz ⟨z', H', I', rz, qz⟩
end
end VW

namespace Mi.Q
open PySem PySem.SeqAt
open AutoSeq1 (wpAny_loadPart')
open MeetsSeq MeetsSeq2 MeetsSeq3 SeqRoads2
open GQ (FinOf call_here)
section
variable {prog : Program} {w : World} {A : Around} {R : Result → Shared → Prop}
/-- at each turn both lists are read anew; the i-th items are equal just if e i -/
def LstB (prog : Program) (w : World) (A : Around) (E : Value → Shared → Prop) (l b : Addr) (N M : Nat) (e : Nat → Bool) (I : Nat → Shared → Prop) : Prop :=
  ∀ i s, I i s → ∃ (its its2 : Array Value) (n n2 : Nat), s.heap.get? l = some { cls := .type "list", data := .seq its n } ∧ s.heap.get? b = some { cls := .type "list", data := .seq its2 n2 } ∧ its.size = N ∧ its2.size = M ∧
    ∀ (h1 : i < its.size) (h2 : i < its2.size), N = M → (∀ j, j < i → e j = true) → wpAny (model prog w) A.in1 (eqBool its[i] its2[i]) (fun r s' => r = e i ∧ I (i + 1) s') E s
theorem loopB (l b : Addr) (N : Nat) (e : Nat → Bool) (I : Nat → Shared → Prop) (hl : LstB prog w A (fun e s' => R (.error e) s') l b N N e I)
    (fin : ∀ r s i, I i s → i ≤ N → (r = true ↔ ∀ j, j < N → e j = true) → R (.ok (.ret (.bool r))) s) (k : Nat) :
    ∀ i : Nat, N - i = k → i ≤ N → (∀ j, j < i → e j = true) → ∀ s, I i s →
      wpAny (model prog w) A.in1 (Builtin.«list.__eq__.loop» ⟨[.ref l, .ref b, rawInt i, rawInt 2], []⟩) (FinOf prog w A R) (fun e s' => R (.error e) s') s := by
  induction k with
  | zero =>
    intro i hk hi hj s h
    obtain ⟨its, its2, n, n2, hl1, hb1, hs1, hs2, _⟩ := hl _ _ h
    have hi' : i = N := by omega
    have hR : R (.ok (.ret (.bool true))) s := fin true s i h hi ⟨fun _ j hjN => hj j (by omega), fun _ => rfl⟩
    obtain ⟨hp, g, d, tk, os⟩ := s
    wp_walk using wpAny_loadPart' hl1, wpAny_loadPart' hb1
    have hi1 : its[((i : Nat) : Int).toNat]? = none := by simp; omega
    have hi2 : its2[((i : Nat) : Int).toNat]? = none := by simp; omega
    rw [hi1, hi2]
    wp_walk using wpAny_loadPart' hl1, wpAny_loadPart' hb1
    show R (.ok (.ret (.bool (its.size == its2.size)))) _
    rw [hs1, hs2]
    simpa using hR
  | succ k ih =>
    intro i hk hi hj s h
    obtain ⟨its, its2, n, n2, hl1, hb1, hs1, hs2, turn⟩ := hl _ _ h
    have hlt : i < its.size := by omega
    have hlt2 : i < its2.size := by omega
    have ht := turn hlt hlt2 rfl hj
    obtain ⟨hp, g, d, tk, os⟩ := s
    wp_walk using wpAny_loadPart' hl1, wpAny_loadPart' hb1
    have hi1 : its[((i : Nat) : Int).toNat]? = some its[i] := by simp [hlt]
    have hi2 : its2[((i : Nat) : Int).toNat]? = some its2[i] := by simp [hlt2]
    have hc : ((i : Int) + 1) = ((i + 1 : Nat) : Int) := by omega
    rw [hi1, hi2]
    refine wpAny_bind (wpAny_mono ht (fun r s2 h2 => ?_) fun _ _ x => x)
    obtain ⟨hr, h2⟩ := h2
    cases hb : e i with
    | true =>
      rw [hb] at hr
      subst hr
      have hrec := ih (i + 1) (by omega) (by omega) (fun j hj' => by
        by_cases e : j = i
        · rw [e]; exact hb
        · exact hj j (by omega)) s2 h2
      obtain ⟨hp2, g2, d2, tk2, os2⟩ := s2
      wp_walk
      rw [hc]
      exact ⟨plainId_quiet plain_eq_loop _, codeAny_builtin entry_eq_loop (by
        rw [Around.under_plainId plain_eq_loop _]
        exact hrec)⟩
    | false =>
      rw [hb] at hr
      subst hr
      have hR : R (.ok (.ret (.bool false))) s2 := fin false s2 (i + 1) h2 (by omega) ⟨fun z => by (cases z), fun z => by
        have := z i (by omega)
        rw [hb] at this
        cases this⟩
      obtain ⟨its3, its4, n3, n4, hl3, hb3, hs3, hs4, _⟩ := hl _ _ h2
      obtain ⟨hp2, g2, d2, tk2, os2⟩ := s2
      wp_walk using wpAny_loadPart' hl3, wpAny_loadPart' hb3
      have hi3 : its3[((i : Nat) : Int).toNat]? = some its3[i] := by simp [show i < its3.size by omega]
      have hi4 : its4[((i : Nat) : Int).toNat]? = some its4[i] := by simp [show i < its4.size by omega]
      rw [hi3, hi4]
      wp_walk
      exact hR
theorem listB (l b : Addr) (N M : Nat) (e : Nat → Bool) (I : Nat → Shared → Prop) (hl : LstB prog w A (fun e s' => R (.error e) s') l b N M e I)
    (fin : ∀ r s i, I i s → (r = true ↔ N = M ∧ ∀ j, j < N → e j = true) → R (.ok (.ret (.bool r))) s) {s : Shared} (h : I 0 s) :
    wpAny (model prog w) A.in1 (Builtin.«list.__eq__» ⟨[.ref l, .ref b], []⟩) (FinOf prog w A R) (fun e s' => R (.error e) s') s := by
  obtain ⟨its, its2, n, n2, hl1, hb1, hs1, hs2, _⟩ := hl _ _ h
  have f3 := AutoSeq1.sub_list_list
  by_cases hNM : N = M
  · subst hNM
    have hrec := loopB (A := A) (R := R) l b N e I hl (fun r s i q _ z => fin r s i q ⟨fun y => ⟨rfl, z.mp y⟩, fun y => z.mpr y.2⟩) _ 0 rfl (Nat.zero_le _) (fun j hj => absurd hj (Nat.not_lt_zero _)) s h
    obtain ⟨hp, g, d, tk, os⟩ := s
    have hne : ¬ (its.size != its2.size) = true := by simp [hs1, hs2]
    wp_walk using wpAny_loadPart' hl1, wpAny_loadPart' hb1
    exact ⟨plainId_quiet plain_eq_loop _, codeAny_builtin entry_eq_loop (by
      rw [Around.under_plainId plain_eq_loop _]
      exact hrec)⟩
  · have hR : R (.ok (.ret (.bool false))) s := fin false s 0 h ⟨fun z => by (cases z), fun z => absurd z.1 hNM⟩
    obtain ⟨hp, g, d, tk, os⟩ := s
    have hne : (its.size != its2.size) = true := by simp [hs1, hs2, hNM]
    wp_walk using wpAny_loadPart' hl1, wpAny_loadPart' hb1
    exact hR
theorem tupB (l b : Addr) (its its2 : Array Value) (n n2 : Nat) (dd dd2 : Option Addr) (sl sl2 : Array (Option Value)) (e : Nat → Bool) (I : Nat → Shared → Prop)
    (turn : ∀ i (h1 : i < its.size) (h2 : i < its2.size) s, (∀ j, j < i → e j = true) → I i s → wpAny (model prog w) A.in1 (eqBool its[i] its2[i]) (fun r s' => r = e i ∧ I (i + 1) s') (fun e s' => R (.error e) s') s)
    (fin : ∀ r s i, I i s → (r = true ↔ its.size = its2.size ∧ ∀ j, j < its.size → e j = true) → R (.ok (.ret (.bool r))) s) {s : Shared} (hl1 : s.heap.get? l = some { cls := .type "tuple", dict := dd, data := .seq its n, slots := sl }) (hb1 : s.heap.get? b = some { cls := .type "tuple", dict := dd2, data := .seq its2 n2, slots := sl2 }) (h : I 0 s) :
    wpAny (model prog w) A.in1 (Builtin.«tuple.__eq__» ⟨[.ref l, .ref b], []⟩) (FinOf prog w A R) (fun e s' => R (.error e) s') s := by
  have f2 := AutoSeq1.sub_tuple_tuple
  have hZ : (its.toList.zip its2.toList).length = min its.size its2.size := by simp
  have h0 := h
  obtain ⟨hp, g, d, tk, os⟩ := s
  wp_walk using wpAny_loadPart' hl1, wpAny_loadPart' hb1, wpAny_forIn_list _ (fun rest b s' => (b.1 = none ∧ ∃ i, rest = (its.toList.zip its2.toList).drop i ∧ i ≤ min its.size its2.size ∧ (∀ j, j < i → e j = true) ∧ I i s')) _
  case turn =>
    rintro ⟨y, x⟩ rest b s' ⟨hb', i, hz, hi, hj, hI⟩
    have hlt : i < (its.toList.zip its2.toList).length := by
      rcases Nat.lt_or_ge i (its.toList.zip its2.toList).length with h' | h'
      · exact h'
      · rw [List.drop_of_length_le h'] at hz; cases hz
    have h1 : i < its.size := by omega
    have h2 : i < its2.size := by omega
    rw [List.drop_eq_getElem_cons hlt] at hz
    injection hz with hyx hrest
    have hy : y = its[i] := by have := congrArg Prod.fst hyx; simpa using this
    have hx : x = its2[i] := by have := congrArg Prod.snd hyx; simpa using this
    subst hy hx
    refine wpAny_bind (wpAny_mono (turn i h1 h2 s' hj hI) (fun r s2 q2 => ?_) fun _ _ x => x)
    obtain ⟨hr, q2⟩ := q2
    cases hb : e i with
    | true =>
      rw [hb] at hr
      subst hr
      wp_walk
      exact ⟨rfl, i + 1, hrest, by omega, fun j hj' => by
        by_cases e' : j = i
        · rw [e']; exact hb
        · exact hj j (by omega), q2⟩
    | false =>
      rw [hb] at hr
      subst hr
      wp_walk
      exact fin false s2 (i + 1) q2 ⟨fun z => by (cases z), fun z => by
        have := z.2 i h1
        rw [hb] at this
        cases this⟩
  case fin =>
    rintro ⟨b1, b2⟩ s' ⟨hb', i, hz, hi, hj, hI⟩
    simp only at hb'
    subst hb'
    have hge : min its.size its2.size ≤ i := by
      rcases Nat.lt_or_ge i (its.toList.zip its2.toList).length with h' | h'
      · rw [List.drop_eq_getElem_cons h'] at hz; cases hz
      · omega
    wp_walk
    show R (.ok (.ret (.bool (its.size == its2.size)))) s'
    refine fin _ s' i hI ⟨fun z => ?_, fun z => ?_⟩
    · have := eq_of_beq z
      exact ⟨this, fun j hj' => hj j (by omega)⟩
    · exact beq_iff_eq.mpr z.1
  case h =>
    exact ⟨rfl, 0, rfl, Nat.zero_le _, fun j hj => absurd hj (Nat.not_lt_zero _), h0⟩
theorem loopN (l b : Addr) (N : Nat) (e : Nat → Bool) (I : Nat → Shared → Prop) (hl : LstB prog w A (fun e s' => R (.error e) s') l b N N e I)
    (fin : ∀ r s i, I i s → i ≤ N → (r = true ↔ ∀ j, j < N → e j = true) → R (.ok (.ret (.bool (!r)))) s) (k : Nat) :
    ∀ i : Nat, N - i = k → i ≤ N → (∀ j, j < i → e j = true) → ∀ s, I i s →
      wpAny (model prog w) A.in1 (Builtin.«list.__eq__.loop» ⟨[.ref l, .ref b, rawInt i, rawInt 3], []⟩) (FinOf prog w A R) (fun e s' => R (.error e) s') s := by
  induction k with
  | zero =>
    intro i hk hi hj s h
    obtain ⟨its, its2, n, n2, hl1, hb1, hs1, hs2, _⟩ := hl _ _ h
    have hi' : i = N := by omega
    have hR : R (.ok (.ret (.bool false))) s := fin true s i h hi ⟨fun _ j hjN => hj j (by omega), fun _ => rfl⟩
    obtain ⟨hp, g, d, tk, os⟩ := s
    wp_walk using wpAny_loadPart' hl1, wpAny_loadPart' hb1
    have hi1 : its[((i : Nat) : Int).toNat]? = none := by simp; omega
    have hi2 : its2[((i : Nat) : Int).toNat]? = none := by simp; omega
    rw [hi1, hi2]
    wp_walk using wpAny_loadPart' hl1, wpAny_loadPart' hb1
    show R (.ok (.ret (.bool (its.size != its2.size)))) _
    rw [hs1, hs2]
    simpa using hR
  | succ k ih =>
    intro i hk hi hj s h
    obtain ⟨its, its2, n, n2, hl1, hb1, hs1, hs2, turn⟩ := hl _ _ h
    have hlt : i < its.size := by omega
    have hlt2 : i < its2.size := by omega
    have ht := turn hlt hlt2 rfl hj
    obtain ⟨hp, g, d, tk, os⟩ := s
    wp_walk using wpAny_loadPart' hl1, wpAny_loadPart' hb1
    have hi1 : its[((i : Nat) : Int).toNat]? = some its[i] := by simp [hlt]
    have hi2 : its2[((i : Nat) : Int).toNat]? = some its2[i] := by simp [hlt2]
    have hc : ((i : Int) + 1) = ((i + 1 : Nat) : Int) := by omega
    rw [hi1, hi2]
    refine wpAny_bind (wpAny_mono ht (fun r s2 h2 => ?_) fun _ _ x => x)
    obtain ⟨hr, h2⟩ := h2
    cases hb : e i with
    | true =>
      rw [hb] at hr
      subst hr
      have hrec := ih (i + 1) (by omega) (by omega) (fun j hj' => by
        by_cases e : j = i
        · rw [e]; exact hb
        · exact hj j (by omega)) s2 h2
      obtain ⟨hp2, g2, d2, tk2, os2⟩ := s2
      wp_walk
      rw [hc]
      exact ⟨plainId_quiet plain_eq_loop _, codeAny_builtin entry_eq_loop (by
        rw [Around.under_plainId plain_eq_loop _]
        exact hrec)⟩
    | false =>
      rw [hb] at hr
      subst hr
      have hR : R (.ok (.ret (.bool true))) s2 := fin false s2 (i + 1) h2 (by omega) ⟨fun z => by (cases z), fun z => by
        have := z i (by omega)
        rw [hb] at this
        cases this⟩
      obtain ⟨its3, its4, n3, n4, hl3, hb3, hs3, hs4, _⟩ := hl _ _ h2
      obtain ⟨hp2, g2, d2, tk2, os2⟩ := s2
      wp_walk using wpAny_loadPart' hl3, wpAny_loadPart' hb3
      have hi3 : its3[((i : Nat) : Int).toNat]? = some its3[i] := by simp [show i < its3.size by omega]
      have hi4 : its4[((i : Nat) : Int).toNat]? = some its4[i] := by simp [show i < its4.size by omega]
      rw [hi3, hi4]
      wp_walk
      exact hR
theorem listN (l b : Addr) (N M : Nat) (e : Nat → Bool) (I : Nat → Shared → Prop) (hl : LstB prog w A (fun e s' => R (.error e) s') l b N M e I)
    (fin : ∀ r s i, I i s → (r = true ↔ N = M ∧ ∀ j, j < N → e j = true) → R (.ok (.ret (.bool (!r)))) s) {s : Shared} (h : I 0 s) :
    wpAny (model prog w) A.in1 (Builtin.«list.__ne__» ⟨[.ref l, .ref b], []⟩) (FinOf prog w A R) (fun e s' => R (.error e) s') s := by
  obtain ⟨its, its2, n, n2, hl1, hb1, hs1, hs2, _⟩ := hl _ _ h
  have f3 := AutoSeq1.sub_list_list
  by_cases hNM : N = M
  · subst hNM
    have hrec := loopN (A := A) (R := R) l b N e I hl (fun r s i q _ z => fin r s i q ⟨fun y => ⟨rfl, z.mp y⟩, fun y => z.mpr y.2⟩) _ 0 rfl (Nat.zero_le _) (fun j hj => absurd hj (Nat.not_lt_zero _)) s h
    obtain ⟨hp, g, d, tk, os⟩ := s
    have hne : ¬ (its.size != its2.size) = true := by simp [hs1, hs2]
    wp_walk using wpAny_loadPart' hl1, wpAny_loadPart' hb1
    exact ⟨plainId_quiet plain_eq_loop _, codeAny_builtin entry_eq_loop (by
      rw [Around.under_plainId plain_eq_loop _]
      exact hrec)⟩
  · have hR : R (.ok (.ret (.bool true))) s := fin false s 0 h ⟨fun z => by (cases z), fun z => absurd z.1 hNM⟩
    obtain ⟨hp, g, d, tk, os⟩ := s
    have hne : (its.size != its2.size) = true := by simp [hs1, hs2, hNM]
    wp_walk using wpAny_loadPart' hl1, wpAny_loadPart' hb1
    exact hR
theorem tupN (l b : Addr) (its its2 : Array Value) (n n2 : Nat) (dd dd2 : Option Addr) (sl sl2 : Array (Option Value)) (e : Nat → Bool) (I : Nat → Shared → Prop)
    (turn : ∀ i (h1 : i < its.size) (h2 : i < its2.size) s, (∀ j, j < i → e j = true) → I i s → wpAny (model prog w) A.in1 (eqBool its[i] its2[i]) (fun r s' => r = e i ∧ I (i + 1) s') (fun e s' => R (.error e) s') s)
    (fin : ∀ r s i, I i s → (r = true ↔ its.size = its2.size ∧ ∀ j, j < its.size → e j = true) → R (.ok (.ret (.bool (!r)))) s) {s : Shared} (hl1 : s.heap.get? l = some { cls := .type "tuple", dict := dd, data := .seq its n, slots := sl }) (hb1 : s.heap.get? b = some { cls := .type "tuple", dict := dd2, data := .seq its2 n2, slots := sl2 }) (h : I 0 s) :
    wpAny (model prog w) A.in1 (Builtin.«tuple.__ne__» ⟨[.ref l, .ref b], []⟩) (FinOf prog w A R) (fun e s' => R (.error e) s') s := by
  have f2 := AutoSeq1.sub_tuple_tuple
  have hZ : (its.toList.zip its2.toList).length = min its.size its2.size := by simp
  have h0 := h
  obtain ⟨hp, g, d, tk, os⟩ := s
  wp_walk using wpAny_loadPart' hl1, wpAny_loadPart' hb1, wpAny_forIn_list _ (fun rest b s' => (b.1 = none ∧ ∃ i, rest = (its.toList.zip its2.toList).drop i ∧ i ≤ min its.size its2.size ∧ (∀ j, j < i → e j = true) ∧ I i s')) _
  case turn =>
    rintro ⟨y, x⟩ rest b s' ⟨hb', i, hz, hi, hj, hI⟩
    have hlt : i < (its.toList.zip its2.toList).length := by
      rcases Nat.lt_or_ge i (its.toList.zip its2.toList).length with h' | h'
      · exact h'
      · rw [List.drop_of_length_le h'] at hz; cases hz
    have h1 : i < its.size := by omega
    have h2 : i < its2.size := by omega
    rw [List.drop_eq_getElem_cons hlt] at hz
    injection hz with hyx hrest
    have hy : y = its[i] := by have := congrArg Prod.fst hyx; simpa using this
    have hx : x = its2[i] := by have := congrArg Prod.snd hyx; simpa using this
    subst hy hx
    refine wpAny_bind (wpAny_mono (turn i h1 h2 s' hj hI) (fun r s2 q2 => ?_) fun _ _ x => x)
    obtain ⟨hr, q2⟩ := q2
    cases hb : e i with
    | true =>
      rw [hb] at hr
      subst hr
      wp_walk
      exact ⟨rfl, i + 1, hrest, by omega, fun j hj' => by
        by_cases e' : j = i
        · rw [e']; exact hb
        · exact hj j (by omega), q2⟩
    | false =>
      rw [hb] at hr
      subst hr
      wp_walk
      exact fin false s2 (i + 1) q2 ⟨fun z => by (cases z), fun z => by
        have := z.2 i h1
        rw [hb] at this
        cases this⟩
  case fin =>
    rintro ⟨b1, b2⟩ s' ⟨hb', i, hz, hi, hj, hI⟩
    simp only at hb'
    subst hb'
    have hge : min its.size its2.size ≤ i := by
      rcases Nat.lt_or_ge i (its.toList.zip its2.toList).length with h' | h'
      · rw [List.drop_eq_getElem_cons h'] at hz; cases hz
      · omega
    wp_walk
    show R (.ok (.ret (.bool (!(its.size == its2.size))))) s'
    refine fin _ s' i hI ⟨fun z => ?_, fun z => ?_⟩
    · have := eq_of_beq z
      exact ⟨this, fun j hj' => hj j (by omega)⟩
    · exact beq_iff_eq.mpr z.1
  case h =>
    exact ⟨rfl, 0, rfl, Nat.zero_le _, fun j hj => absurd hj (Nat.not_lt_zero _), h0⟩
end
section
variable {prog : Program} {w : World} {A : Around} {E : Value → Shared → Prop} {s : Shared}
theorem rcListB {l b : Addr} {N M : Nat} {e : Nat → Bool} {Q : Value → Shared → Prop} (hu : A.units < cLine) (I : Nat → Shared → Prop) (hl : LstB prog w A E l b N M e I)
    (fin : ∀ r s i, I i s → (r = true ↔ N = M ∧ ∀ j, j < N → e j = true) → Q (.bool r) s) (h : I 0 s) : wpAny (model prog w) A (richCompare .Eq (.ref l) (.ref b)) Q E s := by
  obtain ⟨its, its2, n, n2, hl1, hb1, _, _, _⟩ := hl _ _ h
  refine wpAny_richCompare_same_room (op := .Eq) ⟨_, hl1, rfl⟩ ⟨_, hb1, rfl⟩ F.slot_list_eq (call_here F.slot_list_eq ⟨_, hl1, rfl⟩ F.entry_list_eq (F.args_list_eq_2 _ _) ?_) hu
  exact listB (R := wants (fun v s' => v ≠ .notImplemented ∧ Q v s') E) l b N M e I hl (fun r s' i q z => ⟨(fun x => nomatch x), fin r s' i q z⟩) h
theorem rcTupB {l b : Addr} {its its2 : Array Value} {e : Nat → Bool} {Q : Value → Shared → Prop} (hu : A.units < cLine) (I : Nat → Shared → Prop) (hl : s.heap.IsTuple l its) (hb : s.heap.IsTuple b its2)
    (turn : ∀ i (h1 : i < its.size) (h2 : i < its2.size) s, (∀ j, j < i → e j = true) → I i s → wpAny (model prog w) A.in1 (eqBool its[i] its2[i]) (fun r s' => r = e i ∧ I (i + 1) s') E s)
    (fin : ∀ r s i, I i s → (r = true ↔ its.size = its2.size ∧ ∀ j, j < its.size → e j = true) → Q (.bool r) s) (h : I 0 s) : wpAny (model prog w) A (richCompare .Eq (.ref l) (.ref b)) Q E s := by
  obtain ⟨⟨cls, dd, data, sl⟩, ho, hc, n, hd⟩ := id hl
  obtain ⟨⟨cls2, dd2, data2, sl2⟩, ho2, hc2, n2, hd2⟩ := id hb
  simp only at hc hd hc2 hd2
  subst hc hd hc2 hd2
  refine wpAny_richCompare_same_room (op := .Eq) ⟨_, ho, rfl⟩ ⟨_, ho2, rfl⟩ F.slot_tuple_eq (call_here F.slot_tuple_eq ⟨_, ho, rfl⟩ F.entry_tuple_eq (F.args_tuple_eq_2 _ _) ?_) hu
  exact tupB (R := wants (fun v s' => v ≠ .notImplemented ∧ Q v s') E) l b its its2 n n2 dd dd2 sl sl2 e I turn (fun r s' i q z => ⟨(fun x => nomatch x), fin r s' i q z⟩) ho ho2 h
theorem rcListN {l b : Addr} {N M : Nat} {e : Nat → Bool} {Q : Value → Shared → Prop} (hu : A.units < cLine) (I : Nat → Shared → Prop) (hl : LstB prog w A E l b N M e I)
    (fin : ∀ r s i, I i s → (r = true ↔ N = M ∧ ∀ j, j < N → e j = true) → Q (.bool (!r)) s) (h : I 0 s) : wpAny (model prog w) A (richCompare .NotEq (.ref l) (.ref b)) Q E s := by
  obtain ⟨its, its2, n, n2, hl1, hb1, _, _, _⟩ := hl _ _ h
  refine wpAny_richCompare_same_room (op := .NotEq) ⟨_, hl1, rfl⟩ ⟨_, hb1, rfl⟩ F.slot_list_ne (call_here F.slot_list_ne ⟨_, hl1, rfl⟩ F.entry_list_ne (F.args_list_ne_2 _ _) ?_) hu
  exact listN (R := wants (fun v s' => v ≠ .notImplemented ∧ Q v s') E) l b N M e I hl (fun r s' i q z => ⟨(fun x => nomatch x), fin r s' i q z⟩) h
theorem rcTupN {l b : Addr} {its its2 : Array Value} {e : Nat → Bool} {Q : Value → Shared → Prop} (hu : A.units < cLine) (I : Nat → Shared → Prop) (hl : s.heap.IsTuple l its) (hb : s.heap.IsTuple b its2)
    (turn : ∀ i (h1 : i < its.size) (h2 : i < its2.size) s, (∀ j, j < i → e j = true) → I i s → wpAny (model prog w) A.in1 (eqBool its[i] its2[i]) (fun r s' => r = e i ∧ I (i + 1) s') E s)
    (fin : ∀ r s i, I i s → (r = true ↔ its.size = its2.size ∧ ∀ j, j < its.size → e j = true) → Q (.bool (!r)) s) (h : I 0 s) : wpAny (model prog w) A (richCompare .NotEq (.ref l) (.ref b)) Q E s := by
  obtain ⟨⟨cls, dd, data, sl⟩, ho, hc, n, hd⟩ := id hl
  obtain ⟨⟨cls2, dd2, data2, sl2⟩, ho2, hc2, n2, hd2⟩ := id hb
  simp only at hc hd hc2 hd2
  subst hc hd hc2 hd2
  refine wpAny_richCompare_same_room (op := .NotEq) ⟨_, ho, rfl⟩ ⟨_, ho2, rfl⟩ F.slot_tuple_ne (call_here F.slot_tuple_ne ⟨_, ho, rfl⟩ F.entry_tuple_ne (F.args_tuple_ne_2 _ _) ?_) hu
  exact tupN (R := wants (fun v s' => v ≠ .notImplemented ∧ Q v s') E) l b its its2 n n2 dd dd2 sl sl2 e I turn (fun r s' i q z => ⟨(fun x => nomatch x), fin r s' i q z⟩) ho ho2 h
end
end Mi.Q

/-! lists of dicts compared, all of them equal -/
namespace VW
open PySem PySem.Spec PyProof.Rows L2
theorem ps_dead {X : Cx} {st : Stmt} : PS X st (fun _ _ _ => False) := ⟨fun _ _ _ _ _ _ h => h.elim⟩
theorem hitsP {prog : Program} {w : World} {A : Around} {s : Shared} {vb va : List (L2.Key × Value)} {b : Bool} (h : PySem.W.KeqHits A s vb va b) : PySem.W.KeqHitsP prog w A s vb va b := by
  induction h with
  | nil => exact .nil
  | miss h => exact .miss h
  | hit h1 h2 _ ih => exact .hit h1 h2.eqP ih
section
variable {X : Cx}
/-- two lists of dicts of flat values; all pairs are equal -/
def rNeLD : R2 := fun x y H Q => ∃ (a b : Addr) (ds es : List Addr), x = .ref a ∧ y = .ref b ∧ H a = some (.lst (ds.map V.ref)) ∧ H b = some (.lst (es.map V.ref)) ∧ ds.length = es.length ∧
  (∀ (i : Nat) (d e : Addr), ds[i]? = some d → es[i]? = some e → d ≠ e ∧ ∃ ks ls, H d = some (.dK ks) ∧ H e = some (.dK ls) ∧ (∀ p ∈ ks, flatV p.2 = true) ∧ (∀ k u, valV ls k = some u → flatV u = true) ∧ ks.length = ls.length ∧ eqKV ks ls = true) ∧ Q (.bl false) H
theorem vals_refs {ds : List Addr} {its : List Value} (h : Vals (ds.map V.ref) its) : its = ds.map Value.ref := by
  induction ds generalizing its with
  | nil => cases h; rfl
  | cons d r ih =>
    cases h with
    | cons h1 h2 =>
      rw [List.map_cons, ← ih h2, (show _ = Value.ref d from h1)]
theorem op_neLD (hu : X.A.units + 1 < cLine) : OpR X (compareOp .NotEq) rNeLD := by
  intro pins s σ H x y v u Q I rx ry h
  obtain ⟨a, b, ds, es, rfl, rfl, ha, hb, hl, hp, q⟩ := h
  obtain rfl : v = Value.ref a := rx
  obtain rfl : u = Value.ref b := ry
  obtain ⟨_, ia, n1, va, g1⟩ := I.hok a _ ha
  obtain ⟨_, ib, n2, vb, g2⟩ := I.hok b _ hb
  have ea := vals_refs va
  have eb := vals_refs vb
  subst ea eb
  have hu0 : X.A.units < cLine := Nat.lt_of_succ_lt hu
  refine Mi.Q.rcListN (N := ds.length) (M := es.length) (e := fun _ => true) hu0 (fun _ s' => s' = s) ?_ (fun r s' i hs hr => ?_) rfl
  · rintro i s' rfl
    refine ⟨_, _, _, _, g1, g2, by simp, by simp, fun h1 h2 _ _ => ?_⟩
    have hi1 : i < ds.length := by simpa using h1
    have hi2 : i < es.length := by simpa using h2
    obtain ⟨ne, ks, ls, ed, ee, fa, fb, hlen, hk⟩ := hp i ds[i] es[i] (List.getElem?_eq_getElem hi1) (List.getElem?_eq_getElem hi2)
    obtain ⟨_, yd, wd, rd, dd⟩ := (show ObjOk X.prog X.w H s'.heap ds[i] (.dK ks) from I.hok _ _ ed)
    obtain ⟨_, ye, we, re, de⟩ := (show ObjOk X.prog X.w H s'.heap es[i] (.dK ls) from I.hok _ _ ee)
    have eq1 : (List.map Value.ref ds).toArray[i] = Value.ref ds[i] := by simp
    have eq2 : (List.map Value.ref es).toArray[i] = Value.ref es[i] := by simp
    rw [eq1, eq2]
    refine SeqAt.eqP_refs ne (fun E Q hq => PySem.W.rcP_dicts (knd := mixKind X.prog X.w) (r := true) yd ye dd de hu (fun _ => hitsP (by rw [← hk]; exact hits_flat re fb rd fa)) E Q (by rw [← rd.length, ← re.length, hlen]; simpa using hq)) _ _ ⟨rfl, rfl⟩
  · subst hs
    have : r = true := hr.mpr ⟨hl, fun _ _ => rfl⟩
    subst this
    exact fin_bl I q rfl
end
end VW

namespace Law
open PySem L2 VW
abbrev PRG : Program := PySem.Challenge.pw_vectorwidths_k48_forms_compared
def top (i : Nat) : Stmt := PySem.Challenge.pw_vectorwidths_k48_forms_compared.main.body.getD i (.Pass ⟨0, 0, 0, 0⟩)
abbrev s_is_integer : Stmt := top 5
abbrev N_is_integer : List Str := ["value"]
theorem sc_is_integer : FnScope N_is_integer ["value"] (defScope s_is_integer) := ⟨rfl, rfl, rfl, by decide +kernel, rfl, by decide +kernel, by decide +kernel⟩
abbrev s_is_count : Stmt := top 6
abbrev N_is_count : List Str := ["value"]
theorem sc_is_count : FnScope N_is_count ["value"] (defScope s_is_count) := ⟨rfl, rfl, rfl, by decide +kernel, rfl, by decide +kernel, by decide +kernel⟩
abbrev s_is_width : Stmt := top 8
abbrev N_is_width : List Str := ["value"]
theorem sc_is_width : FnScope N_is_width ["value"] (defScope s_is_width) := ⟨rfl, rfl, rfl, by decide +kernel, rfl, by decide +kernel, by decide +kernel⟩
abbrev s_is_lesser : Stmt := top 9
abbrev N_is_lesser : List Str := ["one", "other"]
theorem sc_is_lesser : FnScope N_is_lesser ["one", "other"] (defScope s_is_lesser) := ⟨rfl, rfl, rfl, by decide +kernel, rfl, by decide +kernel, by decide +kernel⟩
abbrev s_lesser : Stmt := top 10
abbrev N_lesser : List Str := ["one", "other"]
theorem sc_lesser : FnScope N_lesser ["one", "other"] (defScope s_lesser) := ⟨rfl, rfl, rfl, by decide +kernel, rfl, by decide +kernel, by decide +kernel⟩
abbrev s_Form___init__ : Stmt := inClass (top 11) 0
abbrev N_Form___init__ : List Str := ["self", "values", "shift", "number"]
theorem sc_Form___init__ : FnScope N_Form___init__ ["self", "values"] (defScope s_Form___init__) := ⟨rfl, rfl, rfl, by decide +kernel, rfl, by decide +kernel, by decide +kernel⟩
abbrev s_Form_shifts : Stmt := inClass (top 11) 1
abbrev N_Form_shifts : List Str := ["self"]
theorem sc_Form_shifts : FnScope N_Form_shifts ["self"] (defScope s_Form_shifts) := ⟨rfl, rfl, rfl, by decide +kernel, rfl, by decide +kernel, by decide +kernel⟩
abbrev s_Form___contains__ : Stmt := inClass (top 11) 3
abbrev N_Form___contains__ : List Str := ["self", "shift"]
theorem sc_Form___contains__ : FnScope N_Form___contains__ ["self", "shift"] (defScope s_Form___contains__) := ⟨rfl, rfl, rfl, by decide +kernel, rfl, by decide +kernel, by decide +kernel⟩
abbrev s_Form___getitem__ : Stmt := inClass (top 11) 4
abbrev N_Form___getitem__ : List Str := ["self", "shift"]
theorem sc_Form___getitem__ : FnScope N_Form___getitem__ ["self", "shift"] (defScope s_Form___getitem__) := ⟨rfl, rfl, rfl, by decide +kernel, rfl, by decide +kernel, by decide +kernel⟩
abbrev s_Form___eq__ : Stmt := inClass (top 11) 6
abbrev N_Form___eq__ : List Str := ["self", "other"]
theorem sc_Form___eq__ : FnScope N_Form___eq__ ["self", "other"] (defScope s_Form___eq__) := ⟨rfl, rfl, rfl, by decide +kernel, rfl, by decide +kernel, by decide +kernel⟩
abbrev s_Form___and__ : Stmt := inClass (top 11) 7
abbrev N_Form___and__ : List Str := ["self", "other", "common", "shift"]
theorem sc_Form___and__ : FnScope N_Form___and__ ["self", "other"] (defScope s_Form___and__) := ⟨rfl, rfl, rfl, by decide +kernel, rfl, by decide +kernel, by decide +kernel⟩
abbrev s_Form_is_under : Stmt := inClass (top 11) 8
abbrev N_Form_is_under : List Str := ["self", "other", "shift"]
theorem sc_Form_is_under : FnScope N_Form_is_under ["self", "other"] (defScope s_Form_is_under) := ⟨rfl, rfl, rfl, by decide +kernel, rfl, by decide +kernel, by decide +kernel⟩
abbrev s__law_pool : Stmt := top 13
abbrev N__law_pool : List Str := ["script", "k", "cell", "great", "seed"]
theorem sc__law_pool : FnScope N__law_pool ["script", "k"] (defScope s__law_pool) := ⟨rfl, rfl, rfl, by decide +kernel, rfl, by decide +kernel, by decide +kernel⟩
abbrev s__law_draw : Stmt := top 14
abbrev N__law_draw : List Str := ["pool", "many", "digit"]
theorem sc__law_draw : FnScope N__law_draw ["pool", "many"] (defScope s__law_draw) := ⟨rfl, rfl, rfl, by decide +kernel, rfl, by decide +kernel, by decide +kernel⟩
abbrev s__law_width : Stmt := top 16
abbrev N__law_width : List Str := ["pool"]
theorem sc__law_width : FnScope N__law_width ["pool"] (defScope s__law_width) := ⟨rfl, rfl, rfl, by decide +kernel, rfl, by decide +kernel, by decide +kernel⟩
abbrev s__law_widths_by : Stmt := top 17
abbrev N__law_widths_by : List Str := ["pool", "turn"]
theorem sc__law_widths_by : FnScope N__law_widths_by ["pool"] (defScope s__law_widths_by) := ⟨rfl, rfl, rfl, by decide +kernel, rfl, by decide +kernel, by decide +kernel⟩
abbrev s__law_at_most : Stmt := top 18
abbrev N__law_at_most : List Str := ["one", "other"]
theorem sc__law_at_most : FnScope N__law_at_most ["one", "other"] (defScope s__law_at_most) := ⟨rfl, rfl, rfl, by decide +kernel, rfl, by decide +kernel, by decide +kernel⟩
abbrev s__law_lesser : Stmt := top 19
abbrev N__law_lesser : List Str := ["one", "other", "found", "shift"]
theorem sc__law_lesser : FnScope N__law_lesser ["one", "other"] (defScope s__law_lesser) := ⟨rfl, rfl, rfl, by decide +kernel, rfl, by decide +kernel, by decide +kernel⟩
abbrev s__law_under : Stmt := top 20
abbrev N__law_under : List Str := ["one", "other", "shift"]
theorem sc__law_under : FnScope N__law_under ["one", "other"] (defScope s__law_under) := ⟨rfl, rfl, rfl, by decide +kernel, rfl, by decide +kernel, by decide +kernel⟩
abbrev s__law_read : Stmt := top 21
abbrev N__law_read : List Str := ["form", "shift"]
theorem sc__law_read : FnScope N__law_read ["form"] (defScope s__law_read) := ⟨rfl, rfl, rfl, by decide +kernel, rfl, by decide +kernel, by decide +kernel⟩
abbrev s__law_pair_right : Stmt := top 22
abbrev N__law_pair_right : List Str := ["one", "other", "mine", "yours", "both"]
theorem sc__law_pair_right : FnScope N__law_pair_right ["one", "other", "mine", "yours"] (defScope s__law_pair_right) := ⟨rfl, rfl, rfl, by decide +kernel, rfl, by decide +kernel, by decide +kernel⟩
abbrev s_law : Stmt := top 23
abbrev N_law : List Str := ["script", "k", "pool", "rows", "turn", "shift", "forms", "row", "at", "other", "one", "two", "three", "form"]
theorem sc_law : FnScope N_law ["script"] (defScope s_law) := ⟨rfl, rfl, rfl, by decide +kernel, rfl, by decide +kernel, by decide +kernel⟩
structure Ad where
  C_InvalidNumber : Addr
  i_InvalidNumber : Addr
  C_Form : Addr
  a_is_integer : Addr
  fd_is_integer : FuncData
  a_is_count : Addr
  fd_is_count : FuncData
  a_is_width : Addr
  fd_is_width : FuncData
  a_is_lesser : Addr
  fd_is_lesser : FuncData
  a_lesser : Addr
  fd_lesser : FuncData
  a_Form___init__ : Addr
  fd_Form___init__ : FuncData
  a_Form_shifts : Addr
  fd_Form_shifts : FuncData
  a_Form___contains__ : Addr
  fd_Form___contains__ : FuncData
  a_Form___getitem__ : Addr
  fd_Form___getitem__ : FuncData
  a_Form___eq__ : Addr
  fd_Form___eq__ : FuncData
  a_Form___and__ : Addr
  fd_Form___and__ : FuncData
  a_Form_is_under : Addr
  fd_Form_is_under : FuncData
  a__law_pool : Addr
  fd__law_pool : FuncData
  a__law_draw : Addr
  fd__law_draw : FuncData
  a__law_width : Addr
  fd__law_width : FuncData
  a__law_widths_by : Addr
  fd__law_widths_by : FuncData
  a__law_at_most : Addr
  fd__law_at_most : FuncData
  a__law_lesser : Addr
  fd__law_lesser : FuncData
  a__law_under : Addr
  fd__law_under : FuncData
  a__law_read : Addr
  fd__law_read : FuncData
  a__law_pair_right : Addr
  fd__law_pair_right : FuncData
  a_law : Addr
  fd_law : FuncData
structure Tx (P : Program) (A : Ad) (K : PySem.W.Frag) (mg : Str → Option Value) : Prop where
  er_InvalidNumber : ErTxt P K mg "InvalidNumber" "value" A.C_InvalidNumber A.i_InvalidNumber
  g_Form : mg "Form" = some (.ref A.C_Form)
  cl_Form : Cls K A.C_Form
  n_Form_kept_values : NoAttr K A.C_Form "kept_values"
  M_Form : Mk K A.C_Form A.a_Form___init__
  oc_Form : OwnC K A.C_Form
  eq_Form : EqC K A.C_Form A.a_Form___eq__
  sp_Form___contains__ : SpC K A.C_Form A.a_Form___contains__ "__contains__"
  fn_Form___contains__ : PySem.W.fnIn K A.a_Form___contains__ = true
  sp_Form___getitem__ : SpC K A.C_Form A.a_Form___getitem__ "__getitem__"
  fn_Form___getitem__ : PySem.W.fnIn K A.a_Form___getitem__ = true
  binO_Form___and__ : BinO K A.C_Form A.a_Form___and__ .BitAnd
  F_is_integer : Fun K "is_integer" "is_integer" s_is_integer A.a_is_integer A.fd_is_integer
  b_is_integer : Binds K A.fd_is_integer ["value"] []
  g_is_integer : mg "is_integer" = some (.ref A.a_is_integer)
  F_is_count : Fun K "is_count" "is_count" s_is_count A.a_is_count A.fd_is_count
  b_is_count : Binds K A.fd_is_count ["value"] []
  g_is_count : mg "is_count" = some (.ref A.a_is_count)
  F_is_width : Fun K "is_width" "is_width" s_is_width A.a_is_width A.fd_is_width
  b_is_width : Binds K A.fd_is_width ["value"] []
  g_is_width : mg "is_width" = some (.ref A.a_is_width)
  F_is_lesser : Fun K "is_lesser" "is_lesser" s_is_lesser A.a_is_lesser A.fd_is_lesser
  b_is_lesser : Binds K A.fd_is_lesser ["one", "other"] []
  g_is_lesser : mg "is_lesser" = some (.ref A.a_is_lesser)
  F_lesser : Fun K "lesser" "lesser" s_lesser A.a_lesser A.fd_lesser
  b_lesser : Binds K A.fd_lesser ["one", "other"] []
  g_lesser : mg "lesser" = some (.ref A.a_lesser)
  F_Form___init__ : Fun K "__init__" "Form.__init__" s_Form___init__ A.a_Form___init__ A.fd_Form___init__
  b_Form___init__ : Binds K A.fd_Form___init__ ["self", "values"] []
  me_Form___init__ : Meth K A.C_Form "__init__" A.a_Form___init__
  F_Form_shifts : Fun K "shifts" "Form.shifts" s_Form_shifts A.a_Form_shifts A.fd_Form_shifts
  b_Form_shifts : Binds K A.fd_Form_shifts ["self"] []
  me_Form_shifts : Meth K A.C_Form "shifts" A.a_Form_shifts
  F_Form___contains__ : Fun K "__contains__" "Form.__contains__" s_Form___contains__ A.a_Form___contains__ A.fd_Form___contains__
  b_Form___contains__ : Binds K A.fd_Form___contains__ ["self", "shift"] []
  me_Form___contains__ : Meth K A.C_Form "__contains__" A.a_Form___contains__
  F_Form___getitem__ : Fun K "__getitem__" "Form.__getitem__" s_Form___getitem__ A.a_Form___getitem__ A.fd_Form___getitem__
  b_Form___getitem__ : Binds K A.fd_Form___getitem__ ["self", "shift"] []
  me_Form___getitem__ : Meth K A.C_Form "__getitem__" A.a_Form___getitem__
  F_Form___eq__ : Fun K "__eq__" "Form.__eq__" s_Form___eq__ A.a_Form___eq__ A.fd_Form___eq__
  b_Form___eq__ : Binds K A.fd_Form___eq__ ["self", "other"] []
  me_Form___eq__ : Meth K A.C_Form "__eq__" A.a_Form___eq__
  F_Form___and__ : Fun K "__and__" "Form.__and__" s_Form___and__ A.a_Form___and__ A.fd_Form___and__
  b_Form___and__ : Binds K A.fd_Form___and__ ["self", "other"] []
  me_Form___and__ : Meth K A.C_Form "__and__" A.a_Form___and__
  F_Form_is_under : Fun K "is_under" "Form.is_under" s_Form_is_under A.a_Form_is_under A.fd_Form_is_under
  b_Form_is_under : Binds K A.fd_Form_is_under ["self", "other"] []
  me_Form_is_under : Meth K A.C_Form "is_under" A.a_Form_is_under
  F__law_pool : Fun K "_law_pool" "_law_pool" s__law_pool A.a__law_pool A.fd__law_pool
  b__law_pool : Binds K A.fd__law_pool ["script", "k"] []
  g__law_pool : mg "_law_pool" = some (.ref A.a__law_pool)
  F__law_draw : Fun K "_law_draw" "_law_draw" s__law_draw A.a__law_draw A.fd__law_draw
  b__law_draw : Binds K A.fd__law_draw ["pool", "many"] []
  g__law_draw : mg "_law_draw" = some (.ref A.a__law_draw)
  F__law_width : Fun K "_law_width" "_law_width" s__law_width A.a__law_width A.fd__law_width
  b__law_width : Binds K A.fd__law_width ["pool"] []
  g__law_width : mg "_law_width" = some (.ref A.a__law_width)
  F__law_widths_by : Fun K "_law_widths_by" "_law_widths_by" s__law_widths_by A.a__law_widths_by A.fd__law_widths_by
  b__law_widths_by : Binds K A.fd__law_widths_by ["pool"] []
  g__law_widths_by : mg "_law_widths_by" = some (.ref A.a__law_widths_by)
  F__law_at_most : Fun K "_law_at_most" "_law_at_most" s__law_at_most A.a__law_at_most A.fd__law_at_most
  b__law_at_most : Binds K A.fd__law_at_most ["one", "other"] []
  g__law_at_most : mg "_law_at_most" = some (.ref A.a__law_at_most)
  F__law_lesser : Fun K "_law_lesser" "_law_lesser" s__law_lesser A.a__law_lesser A.fd__law_lesser
  b__law_lesser : Binds K A.fd__law_lesser ["one", "other"] []
  g__law_lesser : mg "_law_lesser" = some (.ref A.a__law_lesser)
  F__law_under : Fun K "_law_under" "_law_under" s__law_under A.a__law_under A.fd__law_under
  b__law_under : Binds K A.fd__law_under ["one", "other"] []
  g__law_under : mg "_law_under" = some (.ref A.a__law_under)
  F__law_read : Fun K "_law_read" "_law_read" s__law_read A.a__law_read A.fd__law_read
  b__law_read : Binds K A.fd__law_read ["form"] []
  g__law_read : mg "_law_read" = some (.ref A.a__law_read)
  F__law_pair_right : Fun K "_law_pair_right" "_law_pair_right" s__law_pair_right A.a__law_pair_right A.fd__law_pair_right
  b__law_pair_right : Binds K A.fd__law_pair_right ["one", "other", "mine", "yours"] []
  g__law_pair_right : mg "_law_pair_right" = some (.ref A.a__law_pair_right)
  F_law : Fun K "law" "law" s_law A.a_law A.fd_law
  b_law : Binds K A.fd_law ["script"] []
  g_law : mg "law" = some (.ref A.a_law)
  m_all : mg "all" = none
  m_bool : mg "bool" = none
  m_dict : mg "dict" = none
  m_int : mg "int" = none
  m_isinstance : mg "isinstance" = none
  m_len : mg "len" = none
  m_list : mg "list" = none
  m_max : mg "max" = none
  m_min : mg "min" = none
  m_range : mg "range" = none
  m_sorted : mg "sorted" = none
section
variable {P : Program} {w : World} {K : PySem.W.Frag} {mg : Str → Option Value} {base : Heap} {A : Ad}
/-- an error of the class at C with the value v is let out -/
def Rz (E : XK) (C : Addr) (H : Hp) (v : V) : Prop := ∀ (d : Addr) (H' : Hp), Same H H' → H d = none → H' d = some (.xd [(("value" : Str), v)]) → E (.ref C) (some d) H'
theorem Rz.go {E : XK} {C d : Addr} {H H1 : Hp} {v : V} (h : Rz E C H v) (s : Same H H1) (n : H1 d = none) : E (.ref C) (some d) (upd H1 d (.xd [(("value" : Str), v)])) :=
  h d _ (s.trans (Same.new n)) (s.free n) upd_same
theorem _root_.VW.Src.kpx {H H' : Hp} {s L p : Addr} (h : Src H s L) (n : p ≠ s ∧ p ≠ L) (k : Kp p H H') : Src H' s L := by
  obtain ⟨i, q, z, ns, h1, h2, r⟩ := h
  exact ⟨i, q, z, ns, k _ _ h1 n.1.symm, k _ _ h2 n.2.symm, r⟩
/-- widths: None or a number -/
abbrev Wd := Option Int
def wV : Wd → V
  | none => .non
  | some i => .int i
/-- a dict of widths: its keys, what stands there -/
def DictW (ks : List Int) (f : Int → Wd) : List (L2.Key × V) := ks.map fun k => (Sum.inl k, wV (f k))
theorem dw_val (ks : List Int) (f : Int → Wd) (k : Int) : valV (DictW ks f) (Sum.inl k) = if k ∈ ks then some (wV (f k)) else none := by
  induction ks with
  | nil => rfl
  | cons a r ih =>
    unfold valV DictW at ih ⊢
    rw [List.map_cons, List.find?_cons]
    by_cases h : a = k
    · subst h
      simp
    · have e : decide ((Sum.inl a : L2.Key) = Sum.inl k) = false := decide_eq_false fun z => h (Sum.inl.inj z)
      simp only [e]
      rw [ih]
      have h' : k ≠ a := fun z => h z.symm
      simp [h']
theorem dw_get (ks : List Int) (f : Int → Wd) {k : Int} (h : k ∈ ks) : valV (DictW ks f) (Sum.inl k) = some (wV (f k)) := by
  rw [dw_val, if_pos h]
theorem dw_any (ks : List Int) (f : Int → Wd) (k : Int) : ((DictW ks f).any fun kv => decide (kv.1 = Sum.inl k)) = decide (k ∈ ks) := by
  induction ks with
  | nil => rfl
  | cons a r ih =>
    unfold DictW at ih ⊢
    rw [List.map_cons, List.any_cons, ih]
    by_cases h : a = k
    · subst h
      simp
    · have h' : k ≠ a := fun z => h z.symm
      simp [h, h']
theorem dw_put_new {ks : List Int} {f : Int → Wd} {k : Int} (h : k ∉ ks) (z : V) : putK (DictW ks f) (Sum.inl k) z = DictW ks f ++ [(Sum.inl k, z)] := by
  unfold putK
  rw [if_neg (by rw [dw_any, decide_eq_false h]; simp)]
theorem dw_snoc {ks : List Int} {f : Int → Wd} {k : Int} (h : k ∉ ks) : putK (DictW ks f) (Sum.inl k) (wV (f k)) = DictW (ks ++ [k]) f := by
  rw [dw_put_new h]
  unfold DictW
  rw [List.map_append]
  rfl
def setW (f : Int → Wd) (k : Int) (w : Wd) : Int → Wd := fun j => if j = k then w else f j
theorem dw_ext {ks : List Int} {f g : Int → Wd} (h : ∀ k ∈ ks, f k = g k) : DictW ks f = DictW ks g := List.map_congr_left fun k hk => by rw [h k hk]
theorem dw_put (ks : List Int) (f : Int → Wd) (k : Int) (w : Wd) : putK (DictW ks f) (Sum.inl k) (wV w) = DictW (if k ∈ ks then ks else ks ++ [k]) (setW f k w) := by
  by_cases h : k ∈ ks
  · rw [if_pos h]
    unfold putK
    rw [if_pos (by rw [dw_any]; exact decide_eq_true h)]
    unfold DictW
    rw [List.map_map]
    refine List.map_congr_left fun j _ => ?_
    show (if (Sum.inl j : L2.Key) = Sum.inl k then ((Sum.inl j : L2.Key), wV w) else (Sum.inl j, wV (f j))) = (Sum.inl j, wV (setW f k w j))
    unfold setW
    by_cases c : j = k
    · subst c
      simp
    · rw [if_neg (fun z => c (Sum.inl.inj z)), if_neg c]
  · rw [if_neg h]
    have e : DictW ks f = DictW ks (setW f k w) := dw_ext fun j hj => by
      unfold setW
      rw [if_neg (fun z => h (by rw [← z]; exact hj))]
    have e2 : wV w = wV (setW f k w k) := by
      unfold setW
      rw [if_pos rfl]
    rw [e, e2]
    exact dw_snoc h
theorem sorted_one : ∀ {a b : List Int}, a.Perm b → a.Pairwise (· ≤ ·) → b.Pairwise (· ≤ ·) → a = b
  | [], b, p, _, _ => (List.nil_perm.mp p).symm
  | x :: a, [], p, _, _ => absurd p.length_eq (by simp)
  | x :: a, y :: b, p, ha, hb => by
    have ha' := List.pairwise_cons.mp ha
    have hb' := List.pairwise_cons.mp hb
    have h1 : x ≤ y := by
      rcases List.mem_cons.mp (p.mem_iff.mpr (List.mem_cons_self ..) : y ∈ x :: a) with h | h
      · omega
      · exact ha'.1 y h
    have h2 : y ≤ x := by
      rcases List.mem_cons.mp (p.mem_iff.mp (List.mem_cons_self ..) : x ∈ y :: b) with h | h
      · omega
      · exact hb'.1 x h
    have e : x = y := by omega
    subst e
    rw [sorted_one ((List.perm_cons x).mp p) ha'.2 hb'.2]
/-- at p a form of these widths -/
def FormAt (A : Ad) (H : Hp) (p : Addr) (ks : List Int) (f : Int → Wd) : Prop := ∃ dx d, H p = some (.ins A.C_Form dx [("kept_values", .ref d)]) ∧ H d = some (.dK (DictW ks f))
theorem FormAt.same {A : Ad} {H H' : Hp} {p : Addr} {ks : List Int} {f : Int → Wd} (e : Same H H') (h : FormAt A H p ks f) : FormAt A H' p ks f := by
  obtain ⟨dx, d, h1, h2⟩ := h
  exact ⟨dx, d, e _ _ h1, e _ _ h2⟩
theorem ff_look (d : V) : List.lookup ("kept_values" : Str) [(("kept_values" : Str), d)] = some d := by first | rfl | kernel_rfl
theorem ff_made (d : V) : putF "kept_values" d [] = [(("kept_values" : Str), d)] := by first | rfl | kernel_rfl
/-- the drawn pool -/
def PoolAt (H : Hp) (p : Addr) : Prop := ∃ g s : Int, H p = some (.lst [.int g, .int s]) ∧ 0 ≤ g ∧ 0 ≤ s ∧ s < 2147483647
theorem PoolAt.same {H H' : Hp} {p : Addr} (e : Same H H') (h : PoolAt H p) : PoolAt H' p := by
  obtain ⟨g, s, h, r⟩ := h
  exact ⟨g, s, e _ _ h, r⟩
theorem PoolAt.fresh {H : Hp} {p q : Addr} (h : PoolAt H p) (n : H q = none) : q ≠ p := by
  obtain ⟨g, s, h, r⟩ := h
  exact (ne_of_none h n).symm
theorem FormAt.kp {A : Ad} {H H' : Hp} {p q : Addr} {ks : List Int} {f : Int → Wd} (e : Kp q H H') (hq : PoolAt H q) (h : FormAt A H p ks f) : FormAt A H' p ks f := by
  obtain ⟨dx, d, h1, h2⟩ := h
  obtain ⟨g, s, hp, _⟩ := hq
  exact ⟨dx, d, e _ _ h1 (ne_of h1 hp (by intro z; cases z)), e _ _ h2 (ne_of h2 hp (by intro z; cases z))⟩
theorem _root_.VW.Kp.freeP {s p : Addr} {H H' : Hp} (e : Kp s H H') (S : PoolAt H' s) (n : H' p = none) : H p = none := by
  cases q : H p with
  | none => rfl
  | some o => exact absurd n (by rw [e _ _ q (S.fresh n)]; simp)
/-- one ≤ other, None the greatest -/
def lesW : Wd → Wd → Bool
  | _, none => true
  | none, some _ => false
  | some i, some j => decide (i ≤ j)
def okW : Wd → Prop
  | none => True
  | some i => 0 ≤ i
theorem lesW_refl (a : Wd) : lesW a a = true := by cases a <;> simp [lesW]
theorem lesW_trans {a b c : Wd} (h1 : lesW a b = true) (h2 : lesW b c = true) : lesW a c = true := by
  cases a <;> cases b <;> cases c <;> simp_all [lesW]
  omega
theorem lesW_anti {a b : Wd} (h1 : lesW a b = true) (h2 : lesW b a = true) : a = b := by
  cases a <;> cases b <;> simp_all [lesW]
  omega
theorem lesW_total {a b : Wd} (h : lesW a b = false) : lesW b a = true := by
  cases a <;> cases b <;> simp_all [lesW]
  omega
def minW (a b : Wd) : Wd := if lesW a b = true then a else b
theorem minW_iff (x a b : Wd) : lesW x (minW a b) = true ↔ lesW x a = true ∧ lesW x b = true := by
  unfold minW
  cases h : lesW a b with
  | true => rw [if_pos rfl]; exact ⟨fun z => ⟨z, lesW_trans z h⟩, fun z => z.1⟩
  | false => rw [if_neg (by simp)]; exact ⟨fun z => ⟨lesW_trans z (lesW_total h), z⟩, fun z => z.2⟩
theorem les_ext {a b : Wd} (h : ∀ x, lesW x a = true ↔ lesW x b = true) : a = b := lesW_anti ((h a).mp (lesW_refl a)) ((h b).mpr (lesW_refl b))
theorem minW_comm (a b : Wd) : minW a b = minW b a := les_ext fun x => by rw [minW_iff, minW_iff]; exact And.comm
theorem minW_assoc (a b c : Wd) : minW (minW a b) c = minW a (minW b c) := les_ext fun x => by rw [minW_iff, minW_iff, minW_iff, minW_iff]; exact and_assoc
theorem minW_self (a : Wd) : minW a a = a := les_ext fun x => by rw [minW_iff]; exact and_self_iff
theorem minW_l (a b : Wd) : lesW (minW a b) a = true := ((minW_iff _ a b).mp (lesW_refl _)).1
theorem minW_r (a b : Wd) : lesW (minW a b) b = true := ((minW_iff _ a b).mp (lesW_refl _)).2
theorem minW_eq (a b : Wd) : minW a b = a ↔ lesW a b = true := by
  constructor
  · intro h
    have := minW_r a b
    rwa [h] at this
  · intro h
    unfold minW
    rw [if_pos h]
theorem okW_min {a b : Wd} (h1 : okW a) (h2 : okW b) : okW (minW a b) := by
  unfold minW
  split
  · exact h1
  · exact h2
def andK (ks ls : List Int) : List Int := ks.filter fun k => decide (k ∈ ls)
def minF (f g : Int → Wd) : Int → Wd := fun k => minW (f k) (g k)
theorem andK_mem {ks ls : List Int} {k : Int} : k ∈ andK ks ls ↔ k ∈ ks ∧ k ∈ ls := by
  unfold andK
  rw [List.mem_filter]
  simp
def undW (ks : List Int) (f : Int → Wd) (ls : List Int) (g : Int → Wd) : Bool := ks.all fun k => decide (k ∈ ls) && lesW (f k) (g k)
theorem undW_iff {ks ls : List Int} {f g : Int → Wd} : undW ks f ls g = true ↔ ∀ k, k ∈ ks → k ∈ ls ∧ lesW (f k) (g k) = true := by
  unfold undW
  rw [List.all_eq_true]
  simp
def eqW (ks : List Int) (f : Int → Wd) (ls : List Int) (g : Int → Wd) : Bool := (ks.length == ls.length) && ks.all fun k => decide (k ∈ ls) && decide (f k = g k)
theorem nd_same : ∀ {ks ls : List Int}, ks.Nodup → ls.Nodup → ks.length = ls.length → (∀ k ∈ ks, k ∈ ls) → ∀ k ∈ ls, k ∈ ks
  | [], [], _, _, _, _ => fun k hk => hk
  | [], _ :: _, _, _, hl, _ => by cases hl
  | x :: r, ls, nk, nl, hl, h => fun k hk => by
    have hx := h x (List.mem_cons_self ..)
    have nk' := List.nodup_cons.mp nk
    by_cases c : k = x
    · rw [c]
      exact List.mem_cons_self ..
    · refine List.mem_cons_of_mem _ (nd_same (ls := ls.erase x) nk'.2 (nl.erase x) ?_ (fun y hy => ?_) k ?_)
      · rw [List.length_erase_of_mem hx, ← hl]
        rfl
      · exact (List.mem_erase_of_ne (fun z => nk'.1 (by rw [← z]; exact hy))).mpr (h y (List.mem_cons_of_mem _ hy))
      · exact (List.mem_erase_of_ne c).mpr hk
theorem eqW_iff {ks ls : List Int} {f g : Int → Wd} (nk : ks.Nodup) (nl : ls.Nodup) : eqW ks f ls g = true ↔ (∀ k, k ∈ ks ↔ k ∈ ls) ∧ ∀ k, k ∈ ks → f k = g k := by
  unfold eqW
  rw [Bool.and_eq_true, List.all_eq_true, beq_iff_eq]
  constructor
  · rintro ⟨hl, h⟩
    have h' : ∀ k ∈ ks, k ∈ ls ∧ f k = g k := fun k hk => by simpa using h k hk
    exact ⟨fun k => ⟨fun hk => (h' k hk).1, nd_same nk nl hl (fun k hk => (h' k hk).1) k⟩, fun k hk => (h' k hk).2⟩
  · rintro ⟨h1, h2⟩
    refine ⟨((List.perm_ext_iff_of_nodup nk nl).mpr h1).length_eq, fun k hk => ?_⟩
    simp [(h1 k).mp hk, h2 k hk]
theorem eqV_wV (a b : Wd) : eqV (wV a) (wV b) = decide (a = b) := by
  cases a <;> cases b <;> first | rfl | (rw [Bool.eq_iff_iff]; simp [wV, eqV])
theorem dw_eq (ks ls : List Int) (f g : Int → Wd) : ((DictW ks f).length == (DictW ls g).length && eqKV (DictW ks f) (DictW ls g)) = eqW ks f ls g := by
  unfold eqW
  have e1 : (DictW ks f).length = ks.length := List.length_map ..
  have e2 : (DictW ls g).length = ls.length := List.length_map ..
  rw [e1, e2]
  congr 1
  unfold eqKV
  conv => lhs; unfold DictW
  rw [List.all_map]
  congr 1
  funext k
  show (match valV (DictW ls g) (Sum.inl k) with | none => false | some u => eqV (wV (f k)) u) = _
  rw [dw_val]
  by_cases c : k ∈ ls
  · simp [c, eqV_wV]
  · simp [c]
theorem wV_flat (x : Wd) : flatV (wV x) = true := by cases x <;> rfl
theorem dw_flat (ks : List Int) (f : Int → Wd) : ∀ p ∈ DictW ks f, flatV p.2 = true := fun p hp => by
  obtain ⟨k, _, rfl⟩ := List.mem_map.mp hp
  exact wV_flat _
theorem dw_flat2 (ks : List Int) (f : Int → Wd) : ∀ k u, valV (DictW ks f) k = some u → flatV u = true := fun k u h => by
  unfold valV at h
  cases hf : (DictW ks f).find? (fun kv => decide (kv.1 = k)) with
  | none => simp [hf] at h
  | some p =>
    simp [hf] at h
    subst h
    exact dw_flat ks f p (List.mem_of_find?_eq_some hf)
theorem lt_nd {ks : List Int} (h : ks.Pairwise (· < ·)) : ks.Nodup := h.imp fun h => by omega
theorem lt_le {ks : List Int} (h : ks.Pairwise (· < ·)) : ks.Pairwise (· ≤ ·) := h.imp fun h => by omega
theorem le_lt {ks : List Int} (h : ks.Pairwise (· ≤ ·)) (nd : ks.Nodup) : ks.Pairwise (· < ·) := by
  have := h.and nd
  exact this.imp fun ⟨h1, h2⟩ => by omega
theorem andK_lt {ks ls : List Int} (h : ks.Pairwise (· < ·)) : (andK ks ls).Pairwise (· < ·) := h.sublist List.filter_sublist
theorem andK_len (ks ls : List Int) : (andK ks ls).length ≤ ks.length := List.length_filter_le ..
theorem andK_nd {ks ls : List Int} (h : ks.Nodup) : (andK ks ls).Nodup := h.sublist List.filter_sublist
theorem rd_keep {H H' : Hp} {d e : Addr} {od : Obj} {x y : HO} (h : H e = some x) (he : H d = some y) (s : Same (upd H d (.frz od y)) H') : Rd H' e x := by
  by_cases c : e = d
  · subst c
    rw [h] at he
    cases he
    exact .inr ⟨od, s _ _ upd_same⟩
  · exact .inl (s _ _ (by rw [upd_ne c]; exact h))
theorem nd_take {ns : List Int} {i : Nat} {j : Int} (hnd : ns.Nodup) (hw : ns[i]? = some j) : j ∉ ns.take i := fun z => by
  obtain ⟨n, hn⟩ := List.getElem?_of_mem z
  rw [List.getElem?_take] at hn
  by_cases c : n < i
  · rw [if_pos c] at hn
    have e1 := (List.getElem?_eq_some_iff.mp hw).2
    have e2 := (List.getElem?_eq_some_iff.mp hn).2
    have := (List.getElem_inj hnd).mp (e2.trans e1.symm)
    omega
  · rw [if_neg c] at hn
    cases hn
theorem kit_self {K : PySem.W.Frag} (C : Addr) : PySem.W.kitOne K (.ref C) (.ref C) = some true := by
  unfold PySem.W.kitOne
  rw [if_pos (beq_self_eq_true _)]
theorem merge_more {f : Int → Wd} : ∀ (r ks : List Int), (ks ++ r).Nodup → mergeK (DictW ks f) (DictW r f) = DictW (ks ++ r) f
  | [], ks, _ => by rw [List.append_nil]; rfl
  | k :: r, ks, nd => by
    have hni : k ∉ ks := fun z => (List.nodup_append.mp nd).2.2 k z k (List.mem_cons_self ..) rfl
    have e : ks ++ k :: r = (ks ++ [k]) ++ r := by simp
    rw [e] at nd ⊢
    rw [← merge_more r (ks ++ [k]) nd, ← dw_snoc hni]
    rfl
theorem merge_same {ks : List Int} {f : Int → Wd} (nd : ks.Nodup) : mergeK [] (DictW ks f) = DictW ks f := merge_more ks [] nd
theorem shapedLI (zs : List Int) : SeqAt.shaped (.list (zs.map PyData.int)) = true := shapedL fun d hd => by
  obtain ⟨z, _, rfl⟩ := List.mem_map.mp hd
  exact ⟨rfl, Nat.zero_le _⟩
theorem pairs_of {H2 : Hp} : ∀ (ts : List Addr) (ps : List (Int × Wd)), ts.length = ps.length → (∀ (j : Nat) (t : Addr) (x : Int × Wd), ts[j]? = some t → ps[j]? = some x → H2 t = some (.tup [.int x.1, wV x.2])) → Paired (fun p kv => SqT K H2 p [kV kv.1, kv.2]) ts (ps.map fun p => ((Sum.inl p.1 : L2.Key), wV p.2))
  | [], [], _, _ => .nil
  | [], _ :: _, h, _ => by cases h
  | _ :: _, [], h, _ => by cases h
  | t :: r, a :: b, hl, h => .cons (SqT.of (h 0 t a rfl rfl)) (pairs_of r b (Nat.succ.inj hl) fun j t' x e1 e2 => h (j + 1) t' x e1 e2)

def sp_is_integer (K : PySem.W.Frag) : Sp := fun vs H Q _ => ∃ (v : V) (k : Kd), vs = [v] ∧ Kn K H v k ∧ Q (.bl (decide (k = .int))) H
theorem ok_is_integer (T : Tx P A K mg) : FnOk P w K mg base CX0 1 A.a_is_integer A.fd_is_integer ["value"] (sp_is_integer K) := by
  refine T.F_is_integer.ok sc_is_integer (fun vs H Q E h => ?_) (fun cdv A' outer s H vs Q E hr h => ?_)
  · obtain ⟨v, k, rfl, _⟩ := h
    rfl
  · obtain ⟨v, k, rfl, hk, q⟩ := h
    refine ⟨_, (pss_one (ps_ret (pe_and (pe_callB call_isi (by rfl) T.m_isinstance bb_isinstance (pa_cons (pv 0) (pa_cons (pe_bltn (v := .ty "int") (by rfl) T.m_int bb_int rfl) pa_nil))) (pe_one (pe_not (pe_callB call_isi (by rfl) T.m_isinstance bb_isinstance (pa_cons (pv 0) (pa_cons (pe_bltn (v := .ty "bool") (by rfl) T.m_bool bb_bool rfl) pa_nil)))))))), ?_⟩
    obtain ⟨t, h1, h2⟩ := hk.ty
    refine ⟨_, rfl, _, _, t, _, _, rfl, .ty _, h1, h2 "int" (by decide), _, rfl, ?_⟩
    cases k with
    | int => exact iteT ⟨_, rfl, _, _, t, _, _, rfl, .ty _, h1, h2 "bool" (by decide), _, rfl, q⟩
    | bl => exact iteT ⟨_, rfl, _, _, t, _, _, rfl, .ty _, h1, h2 "bool" (by decide), _, rfl, q⟩
    | _ => exact iteF q

def sp_is_count (K : PySem.W.Frag) : Sp := fun vs H Q _ => ∃ (v : V) (k : Kd), vs = [v] ∧ Kn K H v k ∧ Q (.bl (cntV v)) H
theorem ok_is_count (T : Tx P A K mg) : FnOk P w K mg base CX0 2 A.a_is_count A.fd_is_count ["value"] (sp_is_count K) := by
  refine T.F_is_count.ok sc_is_count (fun vs H Q E h => ?_) (fun cdv A' outer s H vs Q E hr h => ?_)
  · obtain ⟨v, k, rfl, _⟩ := h
    rfl
  · obtain ⟨v, k, rfl, hk, q⟩ := h
    refine ⟨_, (pss_one (ps_ret (pe_and (pe_call (ok_is_integer T) (hr.mono (by decide)) (by rfl) T.g_is_integer T.F_is_integer.kp T.b_is_integer .nil pass0 (pa_cons (pv 0) pa_nil)) (pe_one (pe_cmpR op_ge (pv 0) pe_int (nomark _)))))), ?_⟩
    refine ⟨_, rfl, v, k, rfl, hk, _, rfl, ?_⟩
    by_cases hi' : k = .int
    · subst hi'
      cases hk with
      | int i => exact iteT ⟨_, rfl, _, _, rfl, rfl, q⟩
    · rw [decide_eq_false hi']
      refine iteF ?_
      rw [hk.notCnt hi'] at q
      exact q

/-- None or a count -/
def widV : V → Bool
  | .non => true
  | v => cntV v
def sp_is_width (K : PySem.W.Frag) : Sp := fun vs H Q _ => ∃ (v : V) (k : Kd), vs = [v] ∧ Kn K H v k ∧ Q (.bl (widV v)) H
theorem ok_is_width (T : Tx P A K mg) : FnOk P w K mg base CX0 3 A.a_is_width A.fd_is_width ["value"] (sp_is_width K) := by
  refine T.F_is_width.ok sc_is_width (fun vs H Q E h => ?_) (fun cdv A' outer s H vs Q E hr h => ?_)
  · obtain ⟨v, k, rfl, _⟩ := h
    rfl
  · obtain ⟨v, k, rfl, hk, q⟩ := h
    refine ⟨_, (pss_one (ps_ret (pe_or (pe_cmpR op_isN (pv 0) pe_non (nomark _)) (pe_one (pe_call (ok_is_count T) (hr.mono (by decide)) (by rfl) T.g_is_count T.F_is_count.kp T.b_is_count .nil pass0 (pa_cons (pv 0) pa_nil)))))), ?_⟩
    refine ⟨_, rfl, rfl, _, rfl, ?_⟩
    by_cases c : v = .non
    · subst c
      exact ifT rfl q
    · refine ifF (decide_eq_false c) ?_
      have e : widV v = cntV v := by cases v <;> first | rfl | exact absurd rfl c
      rw [e] at q
      exact ⟨_, rfl, v, k, rfl, hk, q⟩

def sp_is_lesser : Sp := fun vs H Q _ => ∃ (a b : Wd), vs = [wV a, wV b] ∧ Q (.bl (lesW a b)) H
theorem ok_is_lesser (T : Tx P A K mg) : FnOk P w K mg base CX0 1 A.a_is_lesser A.fd_is_lesser ["one", "other"] sp_is_lesser := by
  refine T.F_is_lesser.ok sc_is_lesser (fun vs H Q E h => ?_) (fun cdv A' outer s H vs Q E hr h => ?_)
  · obtain ⟨a, b, rfl, _⟩ := h
    rfl
  · obtain ⟨a, b, rfl, q⟩ := h
    refine ⟨_, (pss_one (ps_ret (pe_or (pe_cmpR op_isN (pv 1) pe_non (nomark _)) (pe_one (pe_and (pe_cmpR op_notN (pv 0) pe_non (nomark _)) (pe_one (pe_cmpR op_le (pv 0) (pv 1) (nomark _)))))))), ?_⟩
    refine ⟨_, rfl, rfl, _, rfl, ?_⟩
    cases b with
    | none =>
      refine ifT rfl ?_
      have e : lesW a none = true := by cases a <;> rfl
      rw [e] at q
      exact q
    | some j =>
      refine ifF rfl ?_
      refine ⟨_, rfl, rfl, _, rfl, ?_⟩
      cases a with
      | none => exact ifF rfl q
      | some i => exact ifT rfl ⟨_, rfl, _, rfl, _, _, rfl, rfl, q⟩

def sp_lesser : Sp := fun vs H Q _ => ∃ (a b : Wd), vs = [wV a, wV b] ∧ Q (wV (minW a b)) H
theorem ok_lesser (T : Tx P A K mg) : FnOk P w K mg base CX0 2 A.a_lesser A.fd_lesser ["one", "other"] sp_lesser := by
  refine T.F_lesser.ok sc_lesser (fun vs H Q E h => ?_) (fun cdv A' outer s H vs Q E hr h => ?_)
  · obtain ⟨a, b, rfl, _⟩ := h
    rfl
  · obtain ⟨a, b, rfl, q⟩ := h
    refine ⟨_, (pss_one (ps_ret (pe_ifExp (pt_val (pe_call (ok_is_lesser T) (hr.mono (by decide)) (by rfl) T.g_is_lesser T.F_is_lesser.kp T.b_is_lesser .nil pass0 (pa_cons (pv 0) (pa_cons (pv 1) pa_nil)))) (pv 0) (pv 1)))), ?_⟩
    refine ⟨_, rfl, _, rfl, a, b, rfl, _, rfl, ?_⟩
    unfold minW at q
    cases c : lesW a b with
    | true =>
      rw [if_pos c] at q
      exact ifT rfl ⟨_, rfl, q⟩
    | false =>
      rw [if_neg (by rw [c]; simp)] at q
      exact ifF rfl ⟨_, rfl, q⟩

theorem wV_kn (x : Wd) (H : Hp) : ∃ k, Kn K H (wV x) k := by
  cases x with
  | none => exact ⟨_, .non⟩
  | some i => exact ⟨_, .int i⟩
theorem wV_wid {x : Wd} (h : okW x) : widV (wV x) = true := by
  cases x with
  | none => rfl
  | some i => exact decide_eq_true (show (0 : Int) ≤ i from h)
theorem dw_at (ks : List Int) (f : Int → Wd) {i : Nat} {k : L2.Key} {v : V} (h : (DictW ks f)[i]? = some (k, v)) : ∃ j, ks[i]? = some j ∧ k = Sum.inl j := by
  unfold DictW at h
  rw [List.getElem?_map] at h
  cases hw : ks[i]? with
  | none => rw [hw] at h; cases h
  | some j =>
    rw [hw] at h
    cases h
    exact ⟨j, rfl, rfl⟩
theorem dw_len (ks : List Int) (f : Int → Wd) : (DictW ks f).length = ks.length := List.length_map ..
def sp_Form___init__ (A : Ad) (K : PySem.W.Frag) : Sp := fun vs H Q _ => ∃ (p dx d : Addr) (ks : List Int) (f : Int → Wd), vs = [.ref p, .ref d] ∧ H p = some (.ins A.C_Form dx []) ∧ H d = some (.dK (DictW ks f)) ∧ ks.Nodup ∧ ks.length ≤ 100 ∧ (∀ k ∈ ks, okW (f k)) ∧
  ∀ (ks' : List Int) H', ks'.Perm ks → ks'.Pairwise (· ≤ ·) → Kp p H H' → FormAt A H' p ks' f → Q .non H'
theorem ok_Form___init__ (T : Tx P A K mg) : FnOk P w K mg base (L2.CX P w) 5 A.a_Form___init__ A.fd_Form___init__ ["self", "values"] (sp_Form___init__ A K) := by
  refine T.F_Form___init__.okX sc_Form___init__ (fun vs H Q E h => ?_) (fun cdv A' outer s H vs Q E hr h => ?_)
  · obtain ⟨p, dx, d, ks, f, rfl, _⟩ := h
    rfl
  · obtain ⟨p, dx, d, ks, f, rfl, hp, hd, nd, hl, ok, q⟩ := h
    refine ⟨_, (pss_cons (ps_if (pt_not (pt_val (pe_callB call_isi (by rfl) T.m_isinstance bb_isinstance (pa_cons (pv 1) (pa_cons (pe_bltn (v := .ty "dict") (by rfl) T.m_dict bb_dict rfl) pa_nil))))) (pss_one (ps_raiseEr (by rfl) T.er_InvalidNumber (hr.mono (Nat.zero_le _)) (takes_of rfl rfl rfl rfl) (pa_cons (pv 1) pa_nil) (by rfl))) pss_nil)
      (pss_cons (ps_if (pt_not (pt_val (pe_callB (cr_all rfl) (by rfl) T.m_all bb_all (pa_cons (pe_lock (pe_lc (own := [("shift", 2)]) (g := gName 2) (tt := tYes) (by rfl) sc_Form___init__.nd (pi_keys (pv 1)) (blkOk_by (own := [("shift", 2)]) (N := N_Form___init__) (sc := defScope s_Form___init__) (by decide +kernel)) (fun _ _ _ _ _ => (pg_name (i := 2) sc_Form___init__.nd rfl (.inl rfl))) (fun _ _ _ _ _ => pts_nil) (fun _ _ _ _ _ => (pe_and (pe_call (ok_is_integer T) (hr.mono (by decide)) (by rfl) T.g_is_integer T.F_is_integer.kp T.b_is_integer .nil pass0 (pa_cons (pv 2) pa_nil)) (pe_one (pe_call (ok_is_width T) (hr.mono (by decide)) (by rfl) T.g_is_width T.F_is_width.kp T.b_is_width .nil pass0 (pa_cons (pe_dget (hu_of hr) (pv 1) (pv 2) (fun _ _ => rfl)) pa_nil))))))) pa_nil)))) (pss_one (ps_raiseEr (by rfl) T.er_InvalidNumber (hr.mono (Nat.zero_le _)) (takes_of rfl rfl rfl rfl) (pa_cons (pv 1) pa_nil) (by rfl))) pss_nil)
      (pss_one (ps_fld (pv 0) (pe_dc (own := [("shift", 2)]) (g := gName 2) (tt := tYes) (by rfl) sc_Form___init__.nd (pi_list (pe_callB cr_sortedI (by rfl) T.m_sorted bb_sorted (pa_cons (pe_lock (pe_lc (own := [("number", 3)]) (g := gName 3) (tt := tYes) (by rfl) sc_Form___init__.nd (pi_keys (pv 1)) (blkOk_by (own := [("number", 3)]) (N := N_Form___init__) (sc := defScope s_Form___init__) (by decide +kernel)) (fun _ _ _ _ _ => (pg_name (i := 3) sc_Form___init__.nd rfl (.inl rfl))) (fun _ _ _ _ _ => pts_nil) (fun _ _ _ _ _ => (pe_callTy call_int1 (by rfl) T.m_int bb_int (pa_cons (pv 3) pa_nil))))) pa_nil))) (blkOk_by (own := [("shift", 2)]) (N := N_Form___init__) (sc := defScope s_Form___init__) (by decide +kernel)) (fun _ _ _ _ _ => (pg_name (i := 2) sc_Form___init__.nd rfl (.inl rfl))) (fun _ _ _ _ _ => pts_nil) (fun _ _ _ _ _ => (pv 2)) (fun _ _ _ _ _ => (pe_dget (hu_of hr) (pv 1) (pv 2) (fun _ _ => rfl)))) rfl)))), ?_⟩
    obtain ⟨t, y1, y2⟩ := (Kn.dct (K := K) hd).ty
    refine ⟨_, rfl, _, _, t, _, _, rfl, .ty _, y1, y2 "dict" (by decide), _, rfl, ?_⟩
    refine iteF ?_
    refine ⟨d, _, hd, trivial, fun od => ⟨_, rfl, d, od, rfl, .inl ⟨_, upd_same, fun D hD => ?_⟩⟩⟩
    refine lc_it (walk_keys (d := d) (o := od) (kvs := DictW ks f)) (fun i H' => Same (upd H d (.frz od (.dK (DictW ks f)))) H' ∧ H' D = some (.lst ((List.replicate i true).map V.bl))) ⟨Same.new hD, upd_same⟩ ?_ ?_ ?_
    · rintro i H' _ ⟨s1, _⟩
      exact s1 _ _ upd_same
    · rintro i x H1 H2 hi ⟨s1, d1⟩ ⟨rfl, k, v, hk, rfl⟩
      obtain ⟨j, hj, rfl⟩ := dw_at ks f hk
      have hm := List.mem_of_getElem? hj
      obtain ⟨kk, hkn⟩ := wV_kn (K := K) (f j) H2
      refine ⟨rfl, _, rfl, _, .int, rfl, .int _, _, rfl, ?_⟩
      refine ifT rfl ?_
      refine ⟨_, rfl, _, rfl, d, wV (f j), rfl, .inl ⟨_, Sum.inl j, .inr ⟨od, s1 _ _ upd_same⟩, rfl, (dw_get ks f hm).symm⟩, _, kk, rfl, hkn, _, d1, ?_, s1.mut hD, ?_⟩
      · rw [List.length_map, List.length_replicate]
        rw [dw_len] at hi
        exact sz_lt (by omega)
      · rw [upd_same, wV_wid (ok j hm), List.replicate_succ', List.map_append]
        rfl
    rintro H1 ⟨s1, d1⟩
    have s2 := unlock_same s1 hd
    refine ⟨s1 _ _ upd_same, D, List.replicate (DictW ks f).length true, rfl, SqL.of ?_, _, rfl, ?_⟩
    · rw [upd_ne (fun z => by rw [z, upd_same] at hD; cases hD)]
      exact d1
    refine ifF (by simp) ?_
    clear d1 hD
    generalize hHc : upd H1 d (.dK (DictW ks f)) = Hc at s2
    have hdc : Hc d = some (.dK (DictW ks f)) := by rw [← hHc]; exact upd_same
    clear hHc s1
    -- {shift: values[shift] for shift in sorted([int(number) for number in values])}
    refine ⟨d, _, hdc, trivial, fun od => ⟨_, rfl, d, od, rfl, .inl ⟨_, upd_same, fun D hD => ?_⟩⟩⟩
    have nDd : D ≠ d := fun z => by rw [z, upd_same] at hD; cases hD
    refine lc_it (walk_keys (d := d) (o := od) (kvs := DictW ks f)) (fun i H' => Same (upd Hc d (.frz od (.dK (DictW ks f)))) H' ∧ H' D = some (.lst ((ks.take i).map V.int))) ⟨Same.new hD, upd_same⟩ ?_ ?_ ?_
    · rintro i H' _ ⟨s1, _⟩
      exact s1 _ _ upd_same
    · rintro i x H1 H2 hi ⟨s1, d1⟩ ⟨rfl, k, v, hk, rfl⟩
      obtain ⟨j, hj, rfl⟩ := dw_at ks f hk
      refine ⟨rfl, _, rfl, .inl ⟨j, rfl, _, d1, ?_, s1.mut hD, ?_⟩⟩
      · rw [List.length_map, List.length_take]
        exact sz_lt (by omega)
      · rw [upd_same, take_succ_of hj, List.map_append]
        rfl
    rintro H3 ⟨s3, d3⟩
    rw [dw_len, List.take_length] at d3
    have s4 := unlock_same s3 hdc
    refine ⟨s3 _ _ upd_same, D, ks, rfl, SqL.of (by rw [upd_ne nDd]; exact d3), fun ns l hpm hpw hl0 => ⟨l, rfl, ⟨_, SqL.of upd_same⟩, fun D2 hD2 => ?_⟩⟩
    generalize hH4 : upd H3 d (.dK (DictW ks f)) = H4 at s4 hl0 hD2
    have hd4 : H4 d = some (.dK (DictW ks f)) := by rw [← hH4]; exact upd_same
    clear hH4 s3 d3
    have hnd : ns.Nodup := hpm.nodup_iff.mpr nd
    have hln : ns.length = ks.length := hpm.length_eq
    have s5 := Same.new (o := .lst (ns.map V.int)) hl0
    refine dc_it (walk_list (K := K) (a := l) (xs := ns.map V.int)) (fun i H' => Same (upd H4 l (.lst (ns.map V.int))) H' ∧ H' D2 = some (.dK (DictW (ns.take i) f))) ⟨Same.new hD2, upd_same⟩ ?_ ?_ ?_
    · rintro i H' _ ⟨s6, _⟩
      exact SqL.of (s6 _ _ upd_same)
    · rintro i x H5 H6 hi ⟨s6, d6⟩ ⟨rfl, hx⟩
      rw [List.getElem?_map] at hx
      cases hw : ns[i]? with
      | none => rw [hw] at hx; cases hx
      | some j =>
        rw [hw] at hx
        cases hx
        have hm : j ∈ ks := hpm.mem_iff.mp (List.mem_of_getElem? hw)
        have hd6 := s6 _ _ (s5 _ _ hd4)
        have hni : j ∉ ns.take i := fun z => by
          obtain ⟨n, hn⟩ := List.getElem?_of_mem z
          rw [List.getElem?_take] at hn
          by_cases c : n < i
          · rw [if_pos c] at hn
            have hin := (List.getElem?_eq_some_iff.mp hw).1
            have hnn := (List.getElem?_eq_some_iff.mp hn).1
            have e1 := (List.getElem?_eq_some_iff.mp hw).2
            have e2 := (List.getElem?_eq_some_iff.mp hn).2
            have := (List.getElem_inj hnd).mp (e2.trans e1.symm)
            omega
          · rw [if_neg c] at hn
            cases hn
        refine ⟨rfl, _, rfl, _, rfl, _, rfl, d, wV (f j), rfl, .inl ⟨_, Sum.inl j, .inl hd6, rfl, (dw_get ks f hm).symm⟩, _, Sum.inl j, rfl, d6, ?_, s6.mut hD2, ?_⟩
        · rw [dw_len, List.length_take]
          exact sz_lt (by omega)
        · rw [upd_same, take_succ_of hw, dw_snoc hni]
    · rintro H7 ⟨s7, d7⟩
      rw [List.length_map, List.take_length] at d7
      have s27 := ((s2.trans s4).trans s5).trans s7
      refine ⟨_, rfl, p, A.C_Form, dx, _, rfl, s27 _ _ hp, T.cl_Form, T.n_Form_kept_values, by show 0 < 1000; decide, ?_⟩
      rw [ff_made]
      refine q ns _ hpm hpw (fun b o e n => ?_) ⟨dx, D2, upd_same, ?_⟩
      · rw [upd_ne n]
        exact s27 _ _ e
      · rw [upd_ne (ne_of d7 (s27 _ _ hp) (by intro z; cases z))]
        exact d7

def sp_Form_shifts (A : Ad) : Sp := fun vs H Q _ => ∃ (p : Addr) (ks : List Int) (f : Int → Wd), vs = [.ref p] ∧ FormAt A H p ks f ∧ ∀ l, H l = none → Q (.ref l) (upd H l (.lst (ks.map V.int)))
theorem ok_Form_shifts (T : Tx P A K mg) : FnOk P w K mg base CX0 1 A.a_Form_shifts A.fd_Form_shifts ["self"] (sp_Form_shifts A) := by
  refine T.F_Form_shifts.ok sc_Form_shifts (fun vs H Q E h => ?_) (fun cdv A' outer s H vs Q E hr h => ?_)
  · obtain ⟨p, ks, f, rfl, _⟩ := h
    rfl
  · obtain ⟨p, ks, f, rfl, ⟨dx, d, hp, hd⟩, q⟩ := h
    refine ⟨_, (pss_one (ps_ret (pe_callTy (call_listD (by rfl)) (by rfl) T.m_list bb_list (pa_cons (pe_fld (pv 0) rfl) pa_nil)))), ?_⟩
    refine ⟨_, rfl, p, A.C_Form, dx, _, _, rfl, hp, T.cl_Form, T.n_Form_kept_values, ff_look _, d, _, rfl, .inl hd, fun l hl => ?_⟩
    have e : (DictW ks f).map (fun kv => kV kv.1) = ks.map V.int := by
      unfold DictW
      rw [List.map_map]
      rfl
    rw [e]
    exact q l hl

def inV0 (ks : List Int) : V → Bool
  | .int i => decide (i ∈ ks)
  | _ => false
def sp_Form___contains__ (A : Ad) (K : PySem.W.Frag) : Sp := fun vs H Q _ => ∃ (p : Addr) (ks : List Int) (f : Int → Wd) (v : V) (k : Kd), vs = [.ref p, v] ∧ FormAt A H p ks f ∧ Kn K H v k ∧ Q (.bl (inV0 ks v)) H
theorem ok_Form___contains__ (T : Tx P A K mg) : FnOk P w K mg base CX0 3 A.a_Form___contains__ A.fd_Form___contains__ ["self", "shift"] (sp_Form___contains__ A K) := by
  refine T.F_Form___contains__.ok sc_Form___contains__ (fun vs H Q E h => ?_) (fun cdv A' outer s H vs Q E hr h => ?_)
  · obtain ⟨p, ks, f, v, k, rfl, _⟩ := h
    rfl
  · obtain ⟨p, ks, f, v, k, rfl, ⟨dx, d, hp, hd⟩, hv, q⟩ := h
    refine ⟨_, (pss_one (ps_ret (pe_and (pe_call (ok_is_integer T) (hr.mono (by decide)) (by rfl) T.g_is_integer T.F_is_integer.kp T.b_is_integer .nil pass0 (pa_cons (pv 1) pa_nil)) (pe_one (pe_cmp (pc_din (hu_of hr) (pv 1) (pe_fld (pv 0) rfl)) (by rfl)))))), ?_⟩
    refine ⟨_, rfl, v, k, rfl, hv, _, rfl, ?_⟩
    by_cases hk : k = .int
    · subst hk
      cases hv with
      | int i =>
        refine ifT rfl ?_
        refine ⟨_, rfl, _, rfl, p, A.C_Form, dx, _, _, rfl, hp, T.cl_Form, T.n_Form_kept_values, ff_look _, d, _, rfl, .inl ⟨_, Sum.inl i, .inl hd, rfl, rfl⟩, ?_⟩
        rw [dw_val]
        have e : (if i ∈ ks then some (wV (f i)) else none).isSome = decide (i ∈ ks) := by
          by_cases c : i ∈ ks <;> simp [c]
        rw [e]
        exact q
    · refine ifF (decide_eq_false hk) ?_
      have e : inV0 ks v = false := by cases hv <;> first | rfl | exact absurd rfl hk
      rw [e] at q
      exact q

def sp_Form___getitem__ (A : Ad) (K : PySem.W.Frag) : Sp := fun vs H Q E => ∃ (p : Addr) (ks : List Int) (f : Int → Wd) (v : V) (k : Kd), vs = [.ref p, v] ∧ FormAt A H p ks f ∧ Kn K H v k ∧
  (inV0 ks v = false → Rz E A.C_InvalidNumber H v) ∧ (∀ i, v = .int i → i ∈ ks → Q (wV (f i)) H)
theorem ok_Form___getitem__ (T : Tx P A K mg) : FnOk P w K mg base (L2.CX P w) 5 A.a_Form___getitem__ A.fd_Form___getitem__ ["self", "shift"] (sp_Form___getitem__ A K) := by
  refine T.F_Form___getitem__.okX sc_Form___getitem__ (fun vs H Q E h => ?_) (fun cdv A' outer s H vs Q E hr h => ?_)
  · obtain ⟨p, ks, f, v, k, rfl, _⟩ := h
    rfl
  · obtain ⟨p, ks, f, v, k, rfl, hF, hv, e, q⟩ := h
    refine ⟨_, (pss_cons (ps_if (pt_cmpR (op_notInO T.sp_Form___contains__ (ok_Form___contains__ T) (hr.mono (by decide)) T.b_Form___contains__ pass0) (pv 1) (pv 0) (by rfl)) (pss_one (ps_raiseEr (by rfl) T.er_InvalidNumber (hr.mono (Nat.zero_le _)) (takes_of rfl rfl rfl rfl) (pa_cons (pv 1) pa_nil) (by rfl))) pss_nil)
      (pss_one (ps_ret (pe_dget (hu_of hr) (pe_fld (pv 0) rfl) (pv 1) (fun _ _ => rfl))))), ?_⟩
    obtain ⟨dx, d, hp, hd⟩ := id hF
    refine ⟨_, rfl, _, rfl, p, dx, _, rfl, hp, p, ks, f, v, k, rfl, hF, hv, _, rfl, _, rfl, ?_⟩
    cases c : inV0 ks v with
    | false => exact ⟨_, rfl, _, rfl, fun d hd => (e c).go (Same.refl H) hd⟩
    | true =>
      obtain ⟨i, rfl⟩ : ∃ i, v = .int i := by cases hv <;> first | exact ⟨_, rfl⟩ | cases c
      have hi : i ∈ ks := of_decide_eq_true c
      exact ⟨_, rfl, p, A.C_Form, dx, _, _, rfl, hp, T.cl_Form, T.n_Form_kept_values, ff_look _, _, rfl, d, _, rfl, .inl ⟨_, Sum.inl i, .inl hd, rfl, (dw_get ks f hi).symm⟩, q i rfl hi⟩

def sp_Form___eq__ (A : Ad) : Sp := fun vs H Q _ => ∃ (p p' : Addr) (ks ls : List Int) (f g : Int → Wd), vs = [.ref p, .ref p'] ∧ FormAt A H p ks f ∧ FormAt A H p' ls g ∧ Q (.bl (eqW ks f ls g)) H
theorem ok_Form___eq__ (T : Tx P A K mg) : FnOk P w K mg base CX0 1 A.a_Form___eq__ A.fd_Form___eq__ ["self", "other"] (sp_Form___eq__ A) := by
  refine T.F_Form___eq__.ok sc_Form___eq__ (fun vs H Q E h => ?_) (fun cdv A' outer s H vs Q E hr h => ?_)
  · obtain ⟨p, p', ks, ls, f, g, rfl, _⟩ := h
    rfl
  · obtain ⟨p, p', ks, ls, f, g, rfl, ⟨dx, d, hp, hd⟩, ⟨dx', d', hp', hd'⟩, q⟩ := h
    refine ⟨_, (pss_one (ps_ret (pe_and (pe_callB call_isi (by rfl) T.m_isinstance bb_isinstance (pa_cons (pv 1) (pa_cons (pe_glob (v := .ref A.C_Form) (by rfl) T.g_Form rfl) pa_nil))) (pe_one (pe_cmpR (op_eq_dictB (Nat.lt_of_succ_lt (hu_of hr))) (pe_fld (pv 0) rfl) (pe_fld (pv 1) rfl) (nomark _)))))), ?_⟩
    have c := T.oc_Form
    refine ⟨_, rfl, _, _, _, _, _, rfl, .own _, .base (.ins hp' c.cl c.ha c.hn c.htk c.hm), kit_self _, _, rfl, ?_⟩
    refine ifT rfl ?_
    refine ⟨_, rfl, p, A.C_Form, dx, _, _, rfl, hp, T.cl_Form, T.n_Form_kept_values, ff_look _, _, rfl, p', A.C_Form, dx', _, _, rfl, hp', T.cl_Form, T.n_Form_kept_values, ff_look _, d, d', _, _, rfl, rfl, hd, hd', dw_flat _ _, dw_flat2 _ _, ?_⟩
    rw [dw_eq]
    simpa using q

def sp_Form___and__ (A : Ad) : Sp := fun vs H Q _ => ∃ (p p' : Addr) (ks ls : List Int) (f g : Int → Wd), vs = [.ref p, .ref p'] ∧ FormAt A H p ks f ∧ FormAt A H p' ls g ∧ ks.Pairwise (· < ·) ∧ ks.length ≤ 100 ∧ (∀ k ∈ ks, okW (f k)) ∧ (∀ k ∈ ls, okW (g k)) ∧
  ∀ (r : Addr) H', H r = none → Same H H' → FormAt A H' r (andK ks ls) (minF f g) → Q (.ref r) H'
theorem ok_Form___and__ (T : Tx P A K mg) : FnOk P w K mg base (L2.CX P w) 8 A.a_Form___and__ A.fd_Form___and__ ["self", "other"] (sp_Form___and__ A) := by
  refine T.F_Form___and__.okX sc_Form___and__ (fun vs H Q E h => ?_) (fun cdv A' outer s H vs Q E hr h => ?_)
  · obtain ⟨p, p', ks, ls, f, g, rfl, _⟩ := h
    rfl
  · obtain ⟨p, p', ks, ls, f, g, rfl, hF, hG, pw, hl, okf, okg, q⟩ := h
    refine ⟨_, (pss_cons (ps_if (pt_not (pt_val (pe_callB call_isi (by rfl) T.m_isinstance bb_isinstance (pa_cons (pv 1) (pa_cons (pe_glob (v := .ref A.C_Form) (by rfl) T.g_Form rfl) pa_nil))))) (pss_one VW.ps_dead) pss_nil)
      (pss_cons (ps_setLc (i := 2) (own := [("shift", 3)]) (g := gName 3) (by rfl) sc_Form___and__.nd rfl rfl (sw_true rfl rfl rfl (by decide +kernel)) (pi_list (pe_meth0 (pv 0) T.cl_Form T.me_Form_shifts (ok_Form_shifts T) (hr.mono (by decide)) T.b_Form_shifts .nil pass0 )) (blkOk_by (own := [("shift", 3)]) (N := N_Form___and__) (sc := defScope s_Form___and__) (by decide +kernel)) (fun _ _ _ _ _ => (pg_name (i := 3) sc_Form___and__.nd rfl (.inl rfl))) (fun _ _ _ _ _ => (pts_one (pt_cmpR (op_inO T.sp_Form___contains__ (ok_Form___contains__ T) (hr.mono (by decide)) T.b_Form___contains__ pass0) (pv 3) (pv 1) (by rfl)))) (fun _ _ _ _ _ => (pv 3)))
      (pss_one (ps_ret (pe_make T.M_Form (ok_Form___init__ T) (hr.mono (by decide)) (by rfl) T.g_Form T.b_Form___init__ .nil (passE (takes_of rfl rfl rfl rfl)) (pa_cons (pe_dc (own := [("shift", 3)]) (g := gName 3) (tt := tYes) (by rfl) sc_Form___and__.nd (pi_list (pv 2)) (blkOk_by (own := [("shift", 3)]) (N := N_Form___and__) (sc := defScope s_Form___and__) (by decide +kernel)) (fun _ _ _ _ _ => (pg_name (i := 3) sc_Form___and__.nd rfl (.inl rfl))) (fun _ _ _ _ _ => pts_nil) (fun _ _ _ _ _ => (pv 3)) (fun _ _ _ _ _ => (pe_call (ok_lesser T) (hr.mono (by decide)) (by rfl) T.g_lesser T.F_lesser.kp T.b_lesser .nil pass0 (pa_cons (pe_ixO T.sp_Form___getitem__ T.fn_Form___getitem__ (ok_Form___getitem__ T) (hr.mono (by decide)) T.b_Form___getitem__ passC (pv 0) (pv 3) (fun _ _ => by with_unfolding_all rfl)) (pa_cons (pe_ixO T.sp_Form___getitem__ T.fn_Form___getitem__ (ok_Form___getitem__ T) (hr.mono (by decide)) T.b_Form___getitem__ passC (pv 1) (pv 3) (fun _ _ => by with_unfolding_all rfl)) pa_nil))))) pa_nil)))))), ?_⟩
    obtain ⟨dx, d, hp, hd⟩ := id hF
    obtain ⟨dx', d', hp', hd'⟩ := id hG
    have c := T.oc_Form
    refine ⟨_, rfl, _, _, _, _, _, rfl, .own _, .base (.ins hp' c.cl c.ha c.hn c.htk c.hm), kit_self _, _, rfl, ?_⟩
    refine iteF ?_
    refine ⟨_, rfl, p, dx, _, rfl, hp, by first | rfl | kernel_rfl, p, ks, f, rfl, hF, fun l hl0 => ⟨l, rfl, ⟨_, SqL.of upd_same⟩, fun D hD => ?_⟩⟩
    have s1 := Same.new (o := .lst (ks.map V.int)) hl0
    refine lc_list (K := K) (a := l) (xs := ks.map V.int) (fun i H' => Same (upd H l (.lst (ks.map V.int))) H' ∧ H' D = some (.lst ((andK (ks.take i) ls).map V.int))) ⟨Same.new hD, upd_same⟩ ?_ ?_ ?_
    · rintro i H' _ ⟨s2, _⟩
      exact SqL.of (s2 _ _ upd_same)
    · rintro i x H' hi ⟨s2, d2⟩
      rw [List.getElem?_map] at hi
      cases hw : ks[i]? with
      | none => rw [hw] at hi; cases hi
      | some j =>
        rw [hw] at hi
        cases hi
        have hG2 := (hG.same s1).same s2
        obtain ⟨dx2, d3, hp2, hd3⟩ := id hG2
        have hl3 := andK_len (ks.take i) ls
        rw [List.length_take] at hl3
        refine ⟨rfl, _, rfl, _, rfl, p', dx2, _, rfl, hp2, p', ls, g, _, .int, rfl, hG2, .int _, _, rfl, ?_⟩
        have e : inV0 ls (.int j) = decide (j ∈ ls) := rfl
        cases c3 : inV0 ls (.int j) with
        | true =>
          rw [e] at c3
          refine ⟨_, rfl, ifT rfl ⟨_, rfl, _, d2, by rw [List.length_map]; exact sz_lt (by omega), s2.mut hD, ?_⟩⟩
          rw [upd_same, take_succ_of hw]
          unfold andK
          rw [List.filter_append, List.map_append]
          simp [of_decide_eq_true c3]
        | false =>
          rw [e] at c3
          refine ⟨_, rfl, ifF rfl ⟨s2, ?_⟩⟩
          rw [take_succ_of hw]
          unfold andK at d2 ⊢
          rw [List.filter_append, List.map_append]
          simpa [of_decide_eq_false c3] using d2
    · rintro H2 ⟨s2, d2⟩
      rw [List.length_map, List.take_length] at d2
      have hk := andK_len ks ls
      have s12 := s1.trans s2
      refine ⟨_, rfl, D, rfl, ⟨_, SqL.of d2⟩, fun D2 hD2 => ?_⟩
      have hnd := lt_nd (andK_lt (ls := ls) pw)
      generalize hns : andK ks ls = ns at *
      refine dc_it (walk_list (K := K) (a := D) (xs := ns.map V.int)) (fun i H' => Same H2 H' ∧ H' D2 = some (.dK (DictW (ns.take i) (minF f g)))) ⟨Same.new hD2, upd_same⟩ ?_ ?_ ?_
      · rintro i H' _ ⟨s6, _⟩
        exact SqL.of (s6 _ _ d2)
      · rintro i x H5 H6 hi ⟨s6, d6⟩ ⟨rfl, hx⟩
        rw [List.getElem?_map] at hx
        cases hw : ns[i]? with
        | none => rw [hw] at hx; cases hx
        | some j =>
          rw [hw] at hx
          cases hx
          have hm : j ∈ ks ∧ j ∈ ls := andK_mem.mp (by rw [hns]; exact List.mem_of_getElem? hw)
          have hni : j ∉ ns.take i := nd_take hnd hw
          have hF6 := (hF.same s12).same s6
          have hG6 := (hG.same s12).same s6
          obtain ⟨dxa, da, hpa, hda⟩ := id hF6
          obtain ⟨dxb, db, hpb, hdb⟩ := id hG6
          refine ⟨rfl, _, rfl, _, rfl, _, rfl, p, dxa, _, rfl, hpa, p, ks, f, _, .int, rfl, hF6, .int _, fun z => ?_, fun i2 e2 _ => ?_⟩
          · have z' : decide (j ∈ ks) = false := z
            rw [decide_eq_true hm.1] at z'
            cases z'
          · cases e2
            refine ⟨_, rfl, _, rfl, p', dxb, _, rfl, hpb, p', ls, g, _, .int, rfl, hG6, .int _, fun z => ?_, fun i2 e2 _ => ?_⟩
            · have z' : decide (j ∈ ls) = false := z
              rw [decide_eq_true hm.2] at z'
              cases z'
            · cases e2
              refine ⟨f j, g j, rfl, _, Sum.inl j, rfl, d6, ?_, s6.mut hD2, ?_⟩
              · rw [dw_len, List.length_take]
                exact sz_lt (by omega)
              · rw [upd_same, take_succ_of hw]
                exact congrArg (fun z => some (HO.dK z)) (dw_snoc (f := minF f g) hni)
      · rintro H7 ⟨s7, d7⟩
        rw [List.length_map, List.take_length] at d7
        intro x dx hx hdx ne
        have s30 : Same H7 (upd (upd H7 dx (.own x)) x (.ins A.C_Form dx [])) := fun b o e => by
          rw [upd_ne (ne_of_none e hx), upd_ne (ne_of_none e hdx)]
          exact e
        refine ⟨x, dx, D2, ns, minF f g, rfl, upd_same, s30 _ _ d7, hnd, by omega, fun k hk => ?_, fun ks' H4 pm pw4 k4 F4 => ⟨rfl, ?_⟩⟩
        · have hm : k ∈ ks ∧ k ∈ ls := andK_mem.mp (by rw [hns]; exact hk)
          exact okW_min (okf k hm.1) (okg k hm.2)
        · have e : ks' = ns := sorted_one pm pw4 (lt_le (by rw [← hns]; exact andK_lt pw))
          subst e
          have s4 : Same H7 H4 := fun b o e => k4 b o (s30 b o e) (ne_of_none e hx)
          exact q x H4 ((s12.trans s7).free hx) ((s12.trans s7).trans s4) F4

def sp_Form_is_under (A : Ad) : Sp := fun vs H Q _ => ∃ (p p' : Addr) (ks ls : List Int) (f g : Int → Wd), vs = [.ref p, .ref p'] ∧ FormAt A H p ks f ∧ FormAt A H p' ls g ∧ ks.length ≤ 100 ∧
  ∀ H', Same H H' → Q (.bl (undW ks f ls g)) H'
theorem ok_Form_is_under (T : Tx P A K mg) : FnOk P w K mg base CX0 8 A.a_Form_is_under A.fd_Form_is_under ["self", "other"] (sp_Form_is_under A) := by
  refine T.F_Form_is_under.ok sc_Form_is_under (fun vs H Q E h => ?_) (fun cdv A' outer s H vs Q E hr h => ?_)
  · obtain ⟨p, p', ks, ls, f, g, rfl, _⟩ := h
    rfl
  · obtain ⟨p, p', ks, ls, f, g, rfl, hF, hG, hl, q⟩ := h
    refine ⟨_, (pss_one (ps_ret (pe_callB (cr_all rfl) (by rfl) T.m_all bb_all (pa_cons (pe_lc (own := [("shift", 2)]) (g := gName 2) (tt := tYes) (by rfl) sc_Form_is_under.nd (pi_list (pe_meth0 (pv 0) T.cl_Form T.me_Form_shifts (ok_Form_shifts T) (hr.mono (by decide)) T.b_Form_shifts .nil pass0 )) (blkOk_by (own := [("shift", 2)]) (N := N_Form_is_under) (sc := defScope s_Form_is_under) (by decide +kernel)) (fun _ _ _ _ _ => (pg_name (i := 2) sc_Form_is_under.nd rfl (.inl rfl))) (fun _ _ _ _ _ => pts_nil) (fun _ _ _ _ _ => (pe_and (pe_cmpR (op_inO T.sp_Form___contains__ (ok_Form___contains__ T) (hr.mono (by decide)) T.b_Form___contains__ pass0) (pv 2) (pv 1) (by rfl)) (pe_one (pe_call (ok_is_lesser T) (hr.mono (by decide)) (by rfl) T.g_is_lesser T.F_is_lesser.kp T.b_is_lesser .nil pass0 (pa_cons (pe_ixO T.sp_Form___getitem__ T.fn_Form___getitem__ (ok_Form___getitem__ T) (hr.mono (by decide)) T.b_Form___getitem__ passC (pv 0) (pv 2) (fun _ _ => by with_unfolding_all rfl)) (pa_cons (pe_ixO T.sp_Form___getitem__ T.fn_Form___getitem__ (ok_Form___getitem__ T) (hr.mono (by decide)) T.b_Form___getitem__ passC (pv 1) (pv 2) (fun _ _ => by with_unfolding_all rfl)) pa_nil))))))) pa_nil)))), ?_⟩
    obtain ⟨dx, d, hp, hd⟩ := id hF
    refine ⟨_, rfl, p, dx, _, rfl, hp, by first | rfl | kernel_rfl, p, ks, f, rfl, hF, fun l hl0 => ⟨l, rfl, ⟨_, SqL.of upd_same⟩, fun D hD => ?_⟩⟩
    have s1 := Same.new (o := .lst (ks.map V.int)) hl0
    refine lc_list (K := K) (a := l) (xs := ks.map V.int) (fun i H' => Same (upd H l (.lst (ks.map V.int))) H' ∧ H' D = some (.lst (((ks.take i).map fun k => decide (k ∈ ls) && lesW (f k) (g k)).map V.bl))) ⟨Same.new hD, upd_same⟩ ?_ ?_ ?_
    · rintro i H' _ ⟨s2, _⟩
      exact SqL.of (s2 _ _ upd_same)
    · rintro i x H' hi ⟨s2, d2⟩
      rw [List.getElem?_map] at hi
      cases hw : ks[i]? with
      | none => rw [hw] at hi; cases hi
      | some j =>
        rw [hw] at hi
        cases hi
        have hj := List.mem_of_getElem? hw
        have hF2 := (hF.same s1).same s2
        have hG2 := (hG.same s1).same s2
        obtain ⟨dxa, da, hpa, hda⟩ := id hF2
        obtain ⟨dxb, db, hpb, hdb⟩ := id hG2
        refine ⟨rfl, _, rfl, _, rfl, p', dxb, _, rfl, hpb, p', ls, g, _, .int, rfl, hG2, .int _, _, rfl, ?_⟩
        have hlt : (((ks.take i).map fun k => decide (k ∈ ls) && lesW (f k) (g k)).map V.bl).length < sizeLine := by
          rw [List.length_map, List.length_map, List.length_take]
          exact sz_lt (by omega)
        have e : inV0 ls (.int j) = decide (j ∈ ls) := rfl
        cases c3 : inV0 ls (.int j) with
        | true =>
          rw [e] at c3
          refine ⟨_, rfl, ifT rfl ?_⟩
          refine ⟨_, rfl, _, rfl, p, dxa, _, rfl, hpa, p, ks, f, _, .int, rfl, hF2, .int _, fun z => ?_, fun i2 e2 _ => ?_⟩
          · have z' : decide (j ∈ ks) = false := z
            rw [decide_eq_true hj] at z'
            cases z'
          · cases e2
            refine ⟨_, rfl, _, rfl, p', dxb, _, rfl, hpb, p', ls, g, _, .int, rfl, hG2, .int _, fun z => ?_, fun i2 e2 _ => ?_⟩
            · have z' : decide (j ∈ ls) = false := z
              rw [c3] at z'
              cases z'
            · cases e2
              refine ⟨f j, g j, rfl, _, d2, hlt, s2.mut hD, ?_⟩
              rw [upd_same, take_succ_of hw, List.map_append, List.map_append]
              simp [of_decide_eq_true c3]
        | false =>
          rw [e] at c3
          refine ⟨_, rfl, ifF rfl ⟨_, d2, hlt, s2.mut hD, ?_⟩⟩
          rw [upd_same, take_succ_of hw, List.map_append, List.map_append]
          simp [of_decide_eq_false c3]
    · rintro H2 ⟨s2, d2⟩
      rw [List.length_map, List.take_length] at d2
      refine ⟨D, _, rfl, SqL.of d2, ?_⟩
      have e : (ks.map fun k => decide (k ∈ ls) && lesW (f k) (g k)).all id = undW ks f ls g := by
        unfold undW
        rw [List.all_map]
        rfl
      have := q H2 (s1.trans s2)
      rw [← e] at this
      exact this

def sp__law_pool (K : PySem.W.Frag) : Sp := fun vs H Q _ => ∃ (a : Addr) (ns : List Int) (k : Nat), vs = [.ref a, .int k] ∧ SqL K H a (ns.map V.int) ∧ k ≤ 1000 ∧ ∀ (p : Addr) H', H p = none → Same H H' → PoolAt H' p → Q (.ref p) H'
theorem ok__law_pool (T : Tx P A K mg) : FnOk P w K mg base CX0 1 A.a__law_pool A.fd__law_pool ["script", "k"] (sp__law_pool K) := by
  refine T.F__law_pool.ok sc__law_pool (fun vs H Q E h => ?_) (fun cdv A' outer s H vs Q E hr h => ?_)
  · obtain ⟨a, ns, k, rfl, _⟩ := h
    rfl
  · obtain ⟨a, ns, k, rfl, hS, hk, q⟩ := h
    refine ⟨_, (pss_cons (ps_set (i := 2) sc__law_pool.nd rfl (.inl rfl) pe_int)
      (C8.pss_cut (ps_if (pt_cmpR op_lt (pv 1) (pe_callB call_len_seq (by rfl) T.m_len bb_len (pa_cons (pv 0) pa_nil)) (nomark _)) (pss_one (ps_set (i := 2) sc__law_pool.nd rfl (.inl rfl) (pe_ix ix_list (pv 0) (pv 1) (fun _ _ => rfl)))) pss_nil)
      (pss_cons (ps_set (i := 3) sc__law_pool.nd rfl (.inl rfl) (pe_callTy call_int1 (by rfl) T.m_int bb_int (pa_cons (pv 2) pa_nil)))
      (C8.pss_cut (ps_if (pt_cmpR op_lt (pv 3) (pe_op op_pow pe_int pe_int) (nomark _)) (pss_one (ps_set (i := 3) sc__law_pool.nd rfl (.inl rfl) pe_int)) pss_nil)
      (pss_cons (ps_set (i := 4) sc__law_pool.nd rfl (.inl rfl) (pe_op op_mod (pe_op op_pow (pe_op op_add (pe_op op_add (pe_op op_add (pe_op op_mod (pe_callTy call_int1 (by rfl) T.m_int bb_int (pa_cons (pv 2) pa_nil)) pe_int) (pe_op op_mul (pe_op op_mul pe_int (pv 1)) (pv 1))) (pe_op op_mul pe_int (pv 1))) pe_int) pe_int) pe_int))
      (pss_one (ps_ret (pe_lst (pa_cons (pv 3) (pa_cons (pe_callTy call_int1 (by rfl) T.m_int bb_int (pa_cons (pv 4) pa_nil)) pa_nil)))))))))), ?_⟩
    refine ⟨fun σ' H' => H' = H ∧ ∃ c, σ' = [some (.ref a), some (.int k), some (.int c), none, none], ?_, ?_⟩
    · refine ⟨_, rfl, _, rfl, a, _, rfl, .inl hS, _, _, rfl, rfl, _, rfl, ?_⟩
      by_cases c : (k : Int) < ((ns.map V.int).length : Int)
      · refine ifT (decide_eq_true c) ?_
        rw [List.length_map] at c
        have hj : k < ns.length := by omega
        exact ⟨_, rfl, _, rfl, a, _, _, .int ns[k], rfl, rfl, hS, atI_nat (by simp [hj]), rfl, _, rfl⟩
      · exact ifF (decide_eq_false c) ⟨rfl, _, rfl⟩
    · rintro σ' H' ⟨rfl, c, rfl⟩
      refine ⟨_, rfl, .inl ⟨_, rfl, ?_⟩⟩
      refine ⟨fun σ' H2 => H2 = H' ∧ ∃ g, 0 ≤ g ∧ σ' = [some (.ref a), some (.int k), some (.int c), some (.int g), none], ?_, ?_⟩
      · refine ⟨_, rfl, _, _, rfl, rfl, ⟨by decide, by decide, by decide⟩, _, _, rfl, rfl, _, rfl, ?_⟩
        by_cases c2 : c < 10 ^ (18 : Int).toNat
        · exact ifT (decide_eq_true c2) ⟨rfl, 0, by omega, rfl⟩
        · refine ifF (decide_eq_false c2) ⟨rfl, c, ?_, rfl⟩
          rw [e18] at c2
          omega
      · rintro σ' H2 ⟨rfl, g, hg, rfl⟩
        have m0 : 0 ≤ c % 2147483629 := Int.emod_nonneg _ (by decide)
        have m1 : c % 2147483629 < 2147483629 := Int.emod_lt_of_pos _ (by decide)
        refine ⟨_, rfl, .inl ⟨_, rfl, _, _, rfl, rfl, by show (0 : Int) < 2147483629; decide, ?_⟩⟩
        have k2 : (104729 : Int) * k * k ≤ 104729000000 := by
          have h1 : (104729 : Int) * k ≤ 104729000 := by omega
          have h2 : (104729 : Int) * k * k ≤ 104729000 * 1000 := Int.mul_le_mul h1 (by omega) (by omega) (by decide)
          omega
        have k0 : 0 ≤ (104729 : Int) * k * k := Int.mul_nonneg (by omega) (by omega)
        refine ⟨_, rfl, _, _, rfl, rfl, .inl ⟨by decide, by decide⟩, _, rfl, _, _, rfl, rfl, .inr ⟨by omega, by omega⟩, _, _, rfl, rfl, _, rfl, _, _, rfl, rfl, .inl ⟨by decide, by decide⟩, _, _, rfl, rfl, _, _, rfl, rfl, _, _, rfl, rfl, ⟨by decide, by decide, ?_⟩, _, _, rfl, rfl, by show (0 : Int) < 2147483647; decide, ?_⟩
        · generalize (104729 : Int) * k * k = y at k0 k2 ⊢
          omega
        · refine ⟨_, rfl, _, rfl, .inl ⟨_, rfl, by show 2 ≤ sizeLine; decide, fun p hp => ?_⟩⟩
          exact q p _ hp (Same.new hp) ⟨g, _, upd_same, hg, Int.emod_nonneg _ (by decide), Int.emod_lt_of_pos _ (by decide)⟩

def sp__law_draw : Sp := fun vs H Q _ => ∃ (p : Addr) (n : Int), vs = [.ref p, .int n] ∧ PoolAt H p ∧ 0 < n ∧ n < 2 ^ 29 ∧ ∀ (d : Int) H', 0 ≤ d → d < n → Kp p H H' → PoolAt H' p → Q (.int d) H'
theorem ok__law_draw (T : Tx P A K mg) : FnOk P w K mg base CX0 1 A.a__law_draw A.fd__law_draw ["pool", "many"] sp__law_draw := by
  refine T.F__law_draw.ok sc__law_draw (fun vs H Q E h => ?_) (fun cdv A' outer s H vs Q E hr h => ?_)
  · obtain ⟨p, n, rfl, _⟩ := h
    rfl
  · obtain ⟨p, n, rfl, ⟨g, sd, hp, g0, s0, s1⟩, n0, n1, q⟩ := h
    refine ⟨_, (pss_cons (ps_if (pt_cmpR op_gt (pe_ix ix_list (pv 0) pe_int (fun _ _ => rfl)) pe_int (nomark _)) (pss_cons (ps_set (i := 2) sc__law_draw.nd rfl (.inl rfl) (pe_op op_mod (pe_callTy call_int1 (by rfl) T.m_int bb_int (pa_cons (pe_ix ix_list (pv 0) pe_int (fun _ _ => rfl)) pa_nil)) (pv 1)))
      (pss_cons (ps_asg (pe_op op_fdiv (pe_callTy call_int1 (by rfl) T.m_int bb_int (pa_cons (pe_ix ix_list (pv 0) pe_int (fun _ _ => rfl)) pa_nil)) (pv 1)) (pg_sub (pv 0) pe_int set_list))
      (pss_one (ps_ret (pv 2))))) pss_nil)
      (pss_cons (ps_asg (pe_op op_mod (pe_callTy call_int1 (by rfl) T.m_int bb_int (pa_cons (pe_op op_add (pe_op op_mul (pe_ix ix_list (pv 0) pe_int (fun _ _ => rfl)) pe_int) pe_int) pa_nil)) pe_int) (pg_sub (pv 0) pe_int set_list))
      (pss_one (ps_ret (pe_op op_mod (pe_op op_fdiv (pe_op op_mod (pe_callTy call_int1 (by rfl) T.m_int bb_int (pa_cons (pe_op op_mul (pe_ix ix_list (pv 0) pe_int (fun _ _ => rfl)) (pe_ix ix_list (pv 0) pe_int (fun _ _ => rfl))) pa_nil)) pe_int) pe_int) (pv 1)))))), ?_⟩
    refine ⟨_, rfl, p, _, 0, _, rfl, rfl, SqL.of hp, rfl, _, _, rfl, rfl, _, rfl, ?_⟩
    by_cases c : (0 : Int) < g
    · refine ifT (decide_eq_true c) ?_
      refine ⟨_, rfl, p, _, 0, _, rfl, rfl, SqL.of hp, rfl, .inl ⟨_, rfl, _, rfl, _, _, rfl, rfl, n0, ?_⟩⟩
      refine ⟨_, rfl, p, _, 0, _, rfl, rfl, SqL.of hp, rfl, .inl ⟨_, rfl, _, rfl, _, _, rfl, rfl, ⟨n0, by omega⟩, _, rfl, p, _, 0, 0, rfl, rfl, hp, rfl, ?_⟩⟩
      exact ⟨_, rfl, q _ _ (Int.emod_nonneg _ (by omega)) (Int.emod_lt_of_pos _ n0) Kp.self ⟨_, _, upd_same, Int.ediv_nonneg g0 (by omega), s0, s1⟩⟩
    · refine ifF (decide_eq_false c) ?_
      refine ⟨_, rfl, p, _, 1, _, rfl, rfl, SqL.of hp, rfl, _, _, rfl, rfl, .inr ⟨by decide, by decide⟩, _, _, rfl, rfl, .inl ⟨_, rfl, _, _, rfl, rfl, by show (0 : Int) < 2147483647; decide, _, rfl, p, _, 1, 1, rfl, rfl, hp, rfl, ?_⟩⟩
      have t0 : 0 ≤ (sd * 48271 + 11) % 2147483647 := Int.emod_nonneg _ (by decide)
      have t1 : (sd * 48271 + 11) % 2147483647 < 2147483647 := Int.emod_lt_of_pos _ (by decide)
      refine ⟨_, rfl, p, _, 1, _, rfl, rfl, SqL.of upd_same, rfl, _, rfl, p, _, 1, _, rfl, rfl, SqL.of upd_same, rfl, _, _, rfl, rfl, .inl ⟨by omega, by omega⟩, .inl ⟨_, rfl, _, _, rfl, rfl, by show (0 : Int) < 2147483629; decide, _, _, rfl, rfl, ⟨by decide, by decide⟩, _, rfl, _, _, rfl, rfl, n0, ?_⟩⟩
      exact q _ _ (Int.emod_nonneg _ (by omega)) (Int.emod_lt_of_pos _ n0) Kp.self ⟨_, _, upd_same, g0, t0, t1⟩

def sp__law_width : Sp := fun vs H Q _ => ∃ p : Addr, vs = [.ref p] ∧ PoolAt H p ∧ ∀ (x : Wd) H', okW x → Kp p H H' → PoolAt H' p → Q (wV x) H'
theorem ok__law_width (T : Tx P A K mg) : FnOk P w K mg base CX0 2 A.a__law_width A.fd__law_width ["pool"] sp__law_width := by
  refine T.F__law_width.ok sc__law_width (fun vs H Q E h => ?_) (fun cdv A' outer s H vs Q E hr h => ?_)
  · obtain ⟨p, rfl, _⟩ := h
    rfl
  · obtain ⟨p, rfl, hp, q⟩ := h
    refine ⟨_, (pss_one (ps_ret (pe_ix ix_list (pe_lst (pa_cons pe_non (pa_cons pe_int (pa_cons pe_int (pa_cons pe_int (pa_cons pe_int (pa_cons (pe_op op_pow pe_int pe_int) pa_nil))))))) (pe_call (ok__law_draw T) (hr.mono (by decide)) (by rfl) T.g__law_draw T.F__law_draw.kp T.b__law_draw .nil pass0 (pa_cons (pv 0) (pa_cons pe_int pa_nil))) (fun _ _ => rfl)))), ?_⟩
    refine ⟨_, _, rfl, rfl, ⟨by decide, by decide, by decide⟩, by show 6 ≤ sizeLine; decide, fun l hl => ?_⟩
    have nl := hp.fresh hl
    refine ⟨_, rfl, p, 6, rfl, hp.same (Same.new hl), by decide, by decide, fun d H2 d0 d1 k2 P2 => ?_⟩
    have e : ∃ x : Wd, okW x ∧ atI [V.non, .int 0, .int 1, .int 2, .int 5, .int (10 ^ (20 : Int).toNat)] d = some (wV x) := by
      have hd : d = 0 ∨ d = 1 ∨ d = 2 ∨ d = 3 ∨ d = 4 ∨ d = 5 := by omega
      rcases hd with rfl | rfl | rfl | rfl | rfl | rfl
      · exact ⟨none, trivial, rfl⟩
      · exact ⟨some 0, by show (0 : Int) ≤ 0; decide, rfl⟩
      · exact ⟨some 1, by show (0 : Int) ≤ 1; decide, rfl⟩
      · exact ⟨some 2, by show (0 : Int) ≤ 2; decide, rfl⟩
      · exact ⟨some 5, by show (0 : Int) ≤ 5; decide, rfl⟩
      · exact ⟨some (10 ^ (20 : Int).toNat), by show (0 : Int) ≤ 10 ^ (20 : Int).toNat; decide, rfl⟩
    obtain ⟨x, ox, hx⟩ := e
    exact ⟨l, _, d, _, rfl, rfl, SqL.of (k2 _ _ upd_same nl), hx, q x _ ox ((Kp.new hl).trans k2) P2⟩

/-- a list of drawn pairs, as a dict -/
theorem merge_dw : ∀ (ps : List (Int × Wd)) (ks : List Int) (f : Int → Wd), ks.Nodup → (∀ k ∈ ks, okW (f k)) → (∀ p ∈ ps, okW p.2) → ∃ ks' f', mergeK (DictW ks f) (ps.map fun p => ((Sum.inl p.1 : L2.Key), wV p.2)) = DictW ks' f' ∧ ks'.Nodup ∧ (∀ k ∈ ks', okW (f' k)) ∧ ks'.length ≤ ks.length + ps.length
  | [], ks, f, nd, ok, _ => ⟨ks, f, rfl, nd, ok, Nat.le_refl _⟩
  | (k, x) :: ps, ks, f, nd, ok, op => by
    have ox := op (k, x) (List.mem_cons_self ..)
    have nd' : (if k ∈ ks then ks else ks ++ [k]).Nodup := by
      split
      · exact nd
      · rename_i h
        rw [List.nodup_append]
        refine ⟨nd, by simp, fun a ha b hb z => ?_⟩
        cases List.mem_singleton.mp hb
        exact h (by rw [← z]; exact ha)
    have ok' : ∀ j ∈ (if k ∈ ks then ks else ks ++ [k]), okW (setW f k x j) := fun j hj => by
      unfold setW
      by_cases c : j = k
      · rw [if_pos c]
        exact ox
      · rw [if_neg c]
        refine ok j ?_
        split at hj
        · exact hj
        · rcases List.mem_append.mp hj with h | h
          · exact h
          · exact absurd (List.mem_singleton.mp h) c
    obtain ⟨ks', f', h1, h2, h3, h4⟩ := merge_dw ps _ (setW f k x) nd' ok' fun p hp => op p (List.mem_cons_of_mem _ hp)
    refine ⟨ks', f', ?_, h2, h3, ?_⟩
    · rw [← h1, ← dw_put]
      rfl
    · have : (if k ∈ ks then ks else ks ++ [k]).length ≤ ks.length + 1 := by split <;> simp
      rw [List.length_cons]
      omega
def sp__law_widths_by : Sp := fun vs H Q _ => ∃ p : Addr, vs = [.ref p] ∧ PoolAt H p ∧ ∀ (d : Addr) (ks : List Int) (f : Int → Wd) H', H d = none → ks.Nodup → ks.length ≤ 8 → (∀ k ∈ ks, okW (f k)) → Kp p H H' → PoolAt H' p → H' d = some (.dK (DictW ks f)) → Q (.ref d) H'
theorem ok__law_widths_by (T : Tx P A K mg) : FnOk P w K mg base CX0 3 A.a__law_widths_by A.fd__law_widths_by ["pool"] sp__law_widths_by := by
  refine T.F__law_widths_by.ok sc__law_widths_by (fun vs H Q E h => ?_) (fun cdv A' outer s H vs Q E hr h => ?_)
  · obtain ⟨p, rfl, _⟩ := h
    rfl
  · obtain ⟨p, rfl, hp, q⟩ := h
    refine ⟨_, (pss_one (ps_ret (pe_callTy (call_dictP (by rfl)) (by rfl) T.m_dict bb_dict (pa_cons (pe_lc (own := [("turn", 1)]) (g := gName 1) (tt := tYes) (by rfl) sc__law_widths_by.nd (pi_range1 (by rfl) T.m_range (pa_cons (pe_call (ok__law_draw T) (hr.mono (by decide)) (by rfl) T.g__law_draw T.F__law_draw.kp T.b__law_draw .nil pass0 (pa_cons (pv 0) (pa_cons pe_int pa_nil))) pa_nil)) (blkOk_by (own := [("turn", 1)]) (N := N__law_widths_by) (sc := defScope s__law_widths_by) (by decide +kernel)) (fun _ _ _ _ _ => (pg_name (i := 1) sc__law_widths_by.nd rfl (.inl rfl))) (fun _ _ _ _ _ => pts_nil) (fun _ _ _ _ _ => (pe_tup (pa_cons (pe_op op_sub (pe_call (ok__law_draw T) (hr.mono (by decide)) (by rfl) T.g__law_draw T.F__law_draw.kp T.b__law_draw .nil pass0 (pa_cons (pv 0) (pa_cons pe_int pa_nil))) pe_int) (pa_cons (pe_call (ok__law_width T) (hr.mono (by decide)) (by rfl) T.g__law_width T.F__law_width.kp T.b__law_width .nil pass0 (pa_cons (pv 0) pa_nil)) pa_nil))))) pa_nil)))), ?_⟩
    refine ⟨_, rfl, p, 9, rfl, hp, by decide, by decide, fun m0 H1 e0 e1 k1 P1 => ?_⟩
    obtain ⟨m, rfl⟩ := Int.eq_ofNat_of_zero_le e0
    refine ⟨_, rfl, by omega, by omega, fun D hD => ?_⟩
    have nD := P1.fresh hD
    refine lc_range (lo := 0) (n := m) (fun i H' => Kp p H1 H' ∧ PoolAt H' p ∧ ∃ (ts : List Addr) (ps : List (Int × Wd)), H' D = some (.lst (ts.map V.ref)) ∧ ts.length = i ∧ ps.length = i ∧ (∀ x ∈ ps, okW x.2) ∧ ∀ (j : Nat) (t : Addr) (x : Int × Wd), ts[j]? = some t → ps[j]? = some x → H' t = some (.tup [.int x.1, wV x.2])) ⟨Kp.new hD, P1.same (Same.new hD), [], [], upd_same, rfl, rfl, fun x hx => (by cases hx), fun j t x h => (by cases h)⟩ ?_ ?_
    · rintro i H' hi ⟨k2, P2, ts, ps, d2, hl1, hl2, hok, hts⟩
      refine ⟨rfl, _, rfl, p, 9, rfl, P2, by decide, by decide, fun d H3 d0 d1 k3 P3 => ⟨_, _, rfl, rfl, _, rfl, p, rfl, P3, fun x H4 ox k4 P4 => ⟨by show 2 ≤ sizeLine; decide, fun t ht => ?_⟩⟩⟩
      have k34 := k3.trans k4
      have sT := Same.new (o := .tup [V.int (d - 4), wV x]) ht
      have d4 := sT _ _ (k34 _ _ d2 nD)
      have hpool : ∃ xs, H' p = some (.lst xs) := by obtain ⟨g, s, h, _⟩ := P2; exact ⟨_, h⟩
      obtain ⟨xs, hpl⟩ := hpool
      refine ⟨_, d4, by rw [List.length_map]; exact sz_lt (by omega), ((k2.trans k34).trans (Kp.of sT)).mut hD, ?_, ts ++ [t], ps ++ [(d - 4, x)], ?_, ?_, ?_, ?_, ?_⟩
      · obtain ⟨g, s, h, r⟩ := P4.same sT
        exact ⟨g, s, by rw [upd_ne nD.symm]; exact h, r⟩
      · rw [upd_same, List.map_append]
        rfl
      · rw [List.length_append, hl1]
        rfl
      · rw [List.length_append, hl2]
        rfl
      · intro y hy
        rcases List.mem_append.mp hy with h | h
        · exact hok y h
        · cases List.mem_singleton.mp h
          exact ox
      · intro j t' y h1 h2
        by_cases c : j < ts.length
        · rw [List.getElem?_append_left c] at h1
          rw [List.getElem?_append_left (by omega)] at h2
          have h3 := hts j t' y h1 h2
          have h5 := sT _ _ (k34 _ _ h3 (ne_of h3 hpl (by intro z; cases z)))
          rw [upd_ne (ne_of h5 d4 (by intro z; cases z))]
          exact h5
        · rw [List.getElem?_append_right (by omega)] at h1
          rw [List.getElem?_append_right (by omega)] at h2
          have e : j - ts.length = 0 := by
            have := (List.getElem?_eq_some_iff.mp h1).1
            simp at this
            omega
          rw [e] at h1
          rw [show j - ps.length = 0 by omega] at h2
          cases h1
          cases h2
          rw [upd_ne (fun z => by rw [z] at ht; rw [k34 _ _ d2 nD] at ht; cases ht)]
          exact upd_same
    · rintro H2 ⟨k2, P2, ts, ps, d2, hl1, hl2, hok, hts⟩
      obtain ⟨ks, f, h1, h2, h3, h4⟩ := merge_dw ps [] (fun _ => none) List.nodup_nil (fun k hk => by cases hk) hok
      have hpr : ∀ (ts : List Addr) (ps : List (Int × Wd)), ts.length = ps.length → (∀ (j : Nat) (t : Addr) (x : Int × Wd), ts[j]? = some t → ps[j]? = some x → H2 t = some (.tup [.int x.1, wV x.2])) → Paired (fun p kv => SqT K H2 p [kV kv.1, kv.2]) ts (ps.map fun p => ((Sum.inl p.1 : L2.Key), wV p.2)) := by
        intro ts
        induction ts with
        | nil =>
          intro ps hl _
          cases ps with
          | nil => exact .nil
          | cons a b => cases hl
        | cons t r ih =>
          intro ps hl h
          cases ps with
          | nil => cases hl
          | cons a b => exact .cons (SqT.of (h 0 t a rfl rfl)) (ih b (Nat.succ.inj hl) fun j t' x e1 e2 => h (j + 1) t' x e1 e2)
      refine ⟨D, ts, _, rfl, SqL.of d2, hpr ts ps (by omega) hts, fun dd hdd => ?_⟩
      have e : mergeK [] (ps.map fun p => ((Sum.inl p.1 : L2.Key), wV p.2)) = DictW ks f := h1
      rw [e]
      have k12 := k1.trans k2
      exact q dd ks f _ (k12.freeP P2 hdd) h2 (by simp at h4; omega) h3 (k12.trans (Kp.new hdd)) (P2.same (Same.new hdd)) upd_same

def sp__law_at_most : Sp := fun vs H Q _ => ∃ (a b : Wd), vs = [wV a, wV b] ∧ Q (.bl (lesW a b)) H
theorem ok__law_at_most (T : Tx P A K mg) : FnOk P w K mg base CX0 1 A.a__law_at_most A.fd__law_at_most ["one", "other"] sp__law_at_most := by
  refine T.F__law_at_most.ok sc__law_at_most (fun vs H Q E h => ?_) (fun cdv A' outer s H vs Q E hr h => ?_)
  · obtain ⟨a, b, rfl, _⟩ := h
    rfl
  · obtain ⟨a, b, rfl, q⟩ := h
    refine ⟨_, (pss_one (ps_ret (pe_or (pe_cmpR op_isN (pv 1) pe_non (nomark _)) (pe_one (pe_and (pe_cmpR op_notN (pv 0) pe_non (nomark _)) (pe_one (pe_cmpR op_le (pv 0) (pv 1) (nomark _)))))))), ?_⟩
    refine ⟨_, rfl, rfl, _, rfl, ?_⟩
    cases b with
    | none =>
      refine ifT rfl ?_
      have e : lesW a none = true := by cases a <;> rfl
      rw [e] at q
      exact q
    | some j =>
      refine ifF rfl ?_
      refine ⟨_, rfl, rfl, _, rfl, ?_⟩
      cases a with
      | none => exact ifF rfl q
      | some i => exact ifT rfl ⟨_, rfl, _, rfl, _, _, rfl, rfl, q⟩

def sp__law_lesser : Sp := fun vs H Q _ => ∃ (d d' : Addr) (ks ls : List Int) (f g : Int → Wd), vs = [.ref d, .ref d'] ∧ H d = some (.dK (DictW ks f)) ∧ H d' = some (.dK (DictW ls g)) ∧ ks.Nodup ∧ ks.length ≤ 100 ∧
  ∀ (r : Addr) H', H r = none → Same H H' → H' r = some (.dK (DictW (andK ks ls) (minF f g))) → Q (.ref r) H'
theorem ok__law_lesser (T : Tx P A K mg) : FnOk P w K mg base CX0 3 A.a__law_lesser A.fd__law_lesser ["one", "other"] sp__law_lesser := by
  refine T.F__law_lesser.ok sc__law_lesser (fun vs H Q E h => ?_) (fun cdv A' outer s H vs Q E hr h => ?_)
  · obtain ⟨d, d', ks, ls, f, g, rfl, _⟩ := h
    rfl
  · obtain ⟨d, d', ks, ls, f, g, rfl, hd, hd', nd, hl, q⟩ := h
    refine ⟨_, (pss_cons (ps_set (i := 2) sc__law_lesser.nd rfl (.inl rfl) pe_dnewK)
      (pss_cons (ps_lock (ps_for PassesOwn.never rfl (pi_keys (pv 0)) (pg_name (i := 3) sc__law_lesser.nd rfl (.inl rfl))
      (pss_one (ps_if (pt_cmp (pc_din (hu_of hr) (pv 3) (pv 1)) (by rfl)) (pss_one (ps_dput (hu_of hr) (pv 2) (pv 3) (pe_ifExp (pt_val (pe_call (ok__law_at_most T) (hr.mono (by decide)) (by rfl) T.g__law_at_most T.F__law_at_most.kp T.b__law_at_most .nil pass0 (pa_cons (pe_dget (hu_of hr) (pv 0) (pv 3) (fun _ _ => rfl)) (pa_cons (pe_dget (hu_of hr) (pv 1) (pv 3) (fun _ _ => rfl)) pa_nil)))) (pe_dget (hu_of hr) (pv 0) (pv 3) (fun _ _ => rfl)) (pe_dget (hu_of hr) (pv 1) (pv 3) (fun _ _ => rfl))) rfl)) pss_nil))))
      (pss_one (ps_ret (pv 2))))), ?_⟩
    intro r hr0
    have s1 := Same.new (o := .dK []) hr0
    have hd1 := s1 _ _ hd
    have nrd : r ≠ d := fun z => by rw [z, hd] at hr0; cases hr0
    refine ⟨d, _, hd1, trivial, fun od => ⟨_, rfl, d, od, rfl, .inl ⟨_, upd_same, ?_⟩⟩⟩
    generalize hH1 : upd H r (.dK []) = H1 at *
    have hr1 : H1 r = some (.dK []) := by rw [← hH1]; exact upd_same
    refine for_it (walk_keys (d := d) (o := od) (kvs := DictW ks f)) (fun i σ H' => (∃ v3, σ = [some (.ref d), some (.ref d'), some (.ref r), v3]) ∧ Kp r (upd H1 d (.frz od (.dK (DictW ks f)))) H' ∧ H' r = some (.dK (DictW (andK (ks.take i) ls) (minF f g)))) ⟨⟨_, rfl⟩, fun b o e _ => e, by rw [upd_ne nrd]; exact hr1⟩ ?_ ?_ ?_
    · rintro i σ H' _ ⟨_, k1, _⟩
      exact k1 _ _ upd_same nrd.symm
    · rintro i x σ H2 H3 hi ⟨⟨v3, rfl⟩, k1, d1⟩ ⟨rfl, k, v, hk, rfl⟩
      obtain ⟨j, hj, rfl⟩ := dw_at ks f hk
      have hm := List.mem_of_getElem? hj
      have n1 : d' ≠ r := fun z => by rw [← z, hd'] at hr0; cases hr0
      have ro : Rd H3 d' (.dK (DictW ls g)) := by
        have hd2 := s1 _ _ hd'
        by_cases c : d' = d
        · subst c
          have e : HO.dK (DictW ks f) = HO.dK (DictW ls g) := Option.some.inj (hd1.symm.trans hd2)
          rw [← e]
          exact .inr ⟨od, k1 _ _ upd_same n1⟩
        · exact .inl (k1 _ _ (by rw [upd_ne c]; exact hd2) n1)
      have rm : Rd H3 d (.dK (DictW ks f)) := .inr ⟨od, k1 _ _ upd_same nrd.symm⟩
      refine ⟨_, rfl, _, rfl, d', _, rfl, .inl ⟨_, Sum.inl j, ro, rfl, rfl⟩, ?_⟩
      rw [dw_val]
      by_cases c : j ∈ ls
      · rw [if_pos c]
        refine ⟨_, rfl, ifT rfl ?_⟩
        have hlt : (DictW (andK (ks.take i) ls) (minF f g)).length < sizeLine := by
          have hl3 := andK_len (ks.take i) ls
          rw [List.length_take] at hl3
          rw [dw_len]
          exact sz_lt (by omega)
        have gm : DGet H3 d (.int j) (some (wV (f j))) := .inl ⟨_, Sum.inl j, rm, rfl, (dw_get ks f hm).symm⟩
        have go : DGet H3 d' (.int j) (some (wV (g j))) := .inl ⟨_, Sum.inl j, ro, rfl, (dw_get ls g c).symm⟩
        refine ⟨_, rfl, _, rfl, d, _, rfl, gm, _, rfl, _, rfl, d', _, rfl, go, f j, g j, rfl, _, rfl, ?_⟩
        have fin : ∀ v, v = wV (minF f g j) → (∃ v3, [some (V.ref d), some (V.ref d'), some (V.ref r), some (kV (Sum.inl j))] = [some (V.ref d), some (V.ref d'), some (V.ref r), v3]) ∧ Kp r (upd H1 d (.frz od (.dK (DictW ks f)))) (upd H3 r (.dK (putK (DictW (andK (ks.take i) ls) (minF f g)) (Sum.inl j) v))) ∧ upd H3 r (.dK (putK (DictW (andK (ks.take i) ls) (minF f g)) (Sum.inl j) v)) r = some (.dK (DictW (andK (ks.take (i + 1)) ls) (minF f g))) := by
          rintro v rfl
          refine ⟨⟨_, rfl⟩, fun b o e n => by rw [upd_ne n]; exact k1 b o e n, ?_⟩
          rw [upd_same, take_succ_of hj]
          have e1 : andK (ks.take i ++ [j]) ls = andK (ks.take i) ls ++ [j] := by
            unfold andK
            rw [List.filter_append]
            simp [c]
          rw [e1, dw_snoc fun z => nd_take nd hj (andK_mem.mp z).1]
        cases c3 : lesW (f j) (g j) with
        | true =>
          refine ifT rfl ⟨_, rfl, _, rfl, d, _, rfl, gm, _, rfl, _, rfl, r, _, rfl, .inl ⟨_, Sum.inl j, d1, rfl, hlt, rfl⟩, fin _ ?_⟩
          unfold minF minW
          rw [if_pos c3]
        | false =>
          refine ifF rfl ⟨_, rfl, _, rfl, d', _, rfl, go, _, rfl, _, rfl, r, _, rfl, .inl ⟨_, Sum.inl j, d1, rfl, hlt, rfl⟩, fin _ ?_⟩
          unfold minF minW
          rw [if_neg (by rw [c3]; simp)]
      · rw [if_neg c]
        refine ⟨_, rfl, ifF rfl ⟨⟨_, rfl⟩, k1, ?_⟩⟩
        rw [take_succ_of hj]
        have e1 : andK (ks.take i ++ [j]) ls = andK (ks.take i) ls := by
          unfold andK
          rw [List.filter_append]
          simp [c]
        rw [e1]
        exact d1
    · rintro σ H2 ⟨⟨v3, rfl⟩, k1, d1⟩
      rw [dw_len, List.take_length] at d1
      refine ⟨k1 _ _ upd_same nrd.symm, _, rfl, q r _ hr0 (fun b o e => ?_) (by rw [upd_ne nrd]; exact d1)⟩
      by_cases c : b = d
      · subst c
        rw [hd] at e
        cases e
        exact upd_same
      · rw [upd_ne c]
        exact k1 b o (by rw [upd_ne c]; exact s1 _ _ e) (fun z => by rw [z, hr0] at e; cases e)

def sp__law_under : Sp := fun vs H Q _ => ∃ (d d' : Addr) (ks ls : List Int) (f g : Int → Wd), vs = [.ref d, .ref d'] ∧ H d = some (.dK (DictW ks f)) ∧ H d' = some (.dK (DictW ls g)) ∧ ks.length ≤ 100 ∧
  ∀ H', Same H H' → Q (.bl (undW ks f ls g)) H'
theorem ok__law_under (T : Tx P A K mg) : FnOk P w K mg base CX0 3 A.a__law_under A.fd__law_under ["one", "other"] sp__law_under := by
  refine T.F__law_under.ok sc__law_under (fun vs H Q E h => ?_) (fun cdv A' outer s H vs Q E hr h => ?_)
  · obtain ⟨d, d', ks, ls, f, g, rfl, _⟩ := h
    rfl
  · obtain ⟨d, d', ks, ls, f, g, rfl, hd, hd', hl, q⟩ := h
    refine ⟨_, (pss_one (ps_ret (pe_cmpR (op_eqD hr.units) (pe_lock (pe_lc (own := [("shift", 2)]) (g := gName 2) (by rfl) sc__law_under.nd (pi_keys (pv 0)) (blkOk_by (own := [("shift", 2)]) (N := N__law_under) (sc := defScope s__law_under) (by decide +kernel)) (fun _ _ _ _ _ => (pg_name (i := 2) sc__law_under.nd rfl (.inl rfl))) (fun _ _ _ _ _ => (pts_one (PW.pt (pw_or (pt_cmp (pc_dnotin (hu_of hr) (pv 2) (pv 1)) (by rfl)) (pw_or1 (pt_not (pt_val (pe_call (ok__law_at_most T) (hr.mono (by decide)) (by rfl) T.g__law_at_most T.F__law_at_most.kp T.b__law_at_most .nil pass0 (pa_cons (pe_dget (hu_of hr) (pv 0) (pv 2) (fun _ _ => rfl)) (pa_cons (pe_dget (hu_of hr) (pv 1) (pv 2) (fun _ _ => rfl)) pa_nil)))))))))) (fun _ _ _ _ _ => (pv 2)))) (pe_lst pa_nil) (nomark _)))), ?_⟩
    refine ⟨d, _, hd, trivial, fun od => ⟨_, rfl, d, od, rfl, .inl ⟨_, upd_same, fun D hD => ?_⟩⟩⟩
    have nDd : D ≠ d := fun z => by rw [z, upd_same] at hD; cases hD
    refine lc_it (walk_keys (d := d) (o := od) (kvs := DictW ks f)) (fun i H' => Same (upd H d (.frz od (.dK (DictW ks f)))) H' ∧ H' D = some (.lst (((ks.take i).filter fun k => !(decide (k ∈ ls) && lesW (f k) (g k))).map V.int))) ⟨Same.new hD, upd_same⟩ ?_ ?_ ?_
    · rintro i H' _ ⟨s1, _⟩
      exact s1 _ _ upd_same
    · rintro i x H1 H2 hi ⟨s1, d1⟩ ⟨rfl, k, v, hk, rfl⟩
      obtain ⟨j, hj, rfl⟩ := dw_at ks f hk
      have hm := List.mem_of_getElem? hj
      have ro := rd_keep hd' hd s1
      have rm := rd_keep hd hd s1
      refine ⟨rfl, _, rfl, _, rfl, d', _, rfl, .inl ⟨_, Sum.inl j, ro, rfl, rfl⟩, ?_⟩
      rw [dw_val]
      have hl3 := List.length_filter_le (fun k => !(decide (k ∈ ls) && lesW (f k) (g k))) (ks.take i)
      rw [List.length_take] at hl3
      by_cases c : j ∈ ls
      · rw [if_pos c]
        refine ⟨_, rfl, ifF rfl ?_⟩
        have gm : DGet H2 d (.int j) (some (wV (f j))) := .inl ⟨_, Sum.inl j, rm, rfl, (dw_get ks f hm).symm⟩
        have go : DGet H2 d' (.int j) (some (wV (g j))) := .inl ⟨_, Sum.inl j, ro, rfl, (dw_get ls g c).symm⟩
        refine ⟨_, rfl, _, rfl, d, _, rfl, gm, _, rfl, _, rfl, d', _, rfl, go, f j, g j, rfl, _, rfl, ?_⟩
        cases c3 : lesW (f j) (g j) with
        | true =>
          refine ifF rfl ⟨s1, ?_⟩
          rw [take_succ_of hj, List.filter_append, List.map_append]
          simpa [c, c3] using d1
        | false =>
          refine ifT rfl ⟨_, rfl, _, d1, by rw [List.length_map]; exact sz_lt (by omega), s1.mut hD, ?_⟩
          rw [upd_same, take_succ_of hj, List.filter_append, List.map_append]
          simp [c, c3, kV]
      · rw [if_neg c]
        refine ⟨_, rfl, ifT rfl ?_⟩
        refine ifT rfl ⟨_, rfl, _, d1, by rw [List.length_map]; exact sz_lt (by omega), s1.mut hD, ?_⟩
        rw [upd_same, take_succ_of hj, List.filter_append, List.map_append]
        simp [c, kV]
    · rintro H1 ⟨s1, d1⟩
      rw [dw_len, List.take_length] at d1
      have s2 := unlock_same s1 hd
      generalize hzs : ks.filter (fun k => !(decide (k ∈ ls) && lesW (f k) (g k))) = zs at *
      refine ⟨s1 _ _ upd_same, by show 0 ≤ sizeLine; decide, fun l hl0 => ⟨.list (zs.map PyData.int), .list [], .lst (SqL.of (Same.new hl0 _ _ (by rw [upd_ne nDd]; exact d1))) (dp_ints _), .lst (SqL.of upd_same) .nil, shapedLI _, by decide +kernel, ?_⟩⟩
      have e : PyData.eqv (.list (zs.map PyData.int)) (.list []) = undW ks f ls g := by
        rw [Bool.eq_iff_iff, undW_iff]
        cases zs with
        | nil =>
          refine ⟨fun _ k hk => ?_, fun _ => by decide +kernel⟩
          have := (List.filter_eq_nil_iff.mp hzs) k hk
          simpa using this
        | cons z r =>
          refine ⟨fun h => (by cases h), fun h => ?_⟩
          have hz : z ∈ ks.filter (fun k => !(decide (k ∈ ls) && lesW (f k) (g k))) := by rw [hzs]; exact List.mem_cons_self ..
          rw [List.mem_filter] at hz
          have := h z hz.1
          rw [decide_eq_true this.1, this.2] at hz
          cases hz.2
      rw [e]
      exact q _ (s2.trans (Same.new hl0))

def sp__law_read (A : Ad) : Sp := fun vs H Q _ => ∃ (p : Addr) (ks : List Int) (f : Int → Wd), vs = [.ref p] ∧ FormAt A H p ks f ∧ ks.Nodup ∧ ks.length ≤ 100 ∧
  ∀ (r : Addr) H', H r = none → Same H H' → H' r = some (.dK (DictW ks f)) → Q (.ref r) H'
theorem ok__law_read (T : Tx P A K mg) : FnOk P w K mg base CX0 8 A.a__law_read A.fd__law_read ["form"] (sp__law_read A) := by
  refine T.F__law_read.ok sc__law_read (fun vs H Q E h => ?_) (fun cdv A' outer s H vs Q E hr h => ?_)
  · obtain ⟨p, ks, f, rfl, _⟩ := h
    rfl
  · obtain ⟨p, ks, f, rfl, hF, nd, hl, q⟩ := h
    refine ⟨_, (pss_one (ps_ret (pe_callTy (call_dictP (by rfl)) (by rfl) T.m_dict bb_dict (pa_cons (pe_lc (own := [("shift", 1)]) (g := gName 1) (tt := tYes) (by rfl) sc__law_read.nd (pi_list (pe_meth0 (pv 0) T.cl_Form T.me_Form_shifts (ok_Form_shifts T) (hr.mono (by decide)) T.b_Form_shifts .nil pass0 )) (blkOk_by (own := [("shift", 1)]) (N := N__law_read) (sc := defScope s__law_read) (by decide +kernel)) (fun _ _ _ _ _ => (pg_name (i := 1) sc__law_read.nd rfl (.inl rfl))) (fun _ _ _ _ _ => pts_nil) (fun _ _ _ _ _ => (pe_tup (pa_cons (pv 1) (pa_cons (pe_ixO T.sp_Form___getitem__ T.fn_Form___getitem__ (ok_Form___getitem__ T) (hr.mono (by decide)) T.b_Form___getitem__ passC (pv 0) (pv 1) (fun _ _ => by with_unfolding_all rfl)) pa_nil))))) pa_nil)))), ?_⟩
    obtain ⟨dx, d, hp, hd⟩ := id hF
    refine ⟨_, rfl, p, dx, _, rfl, hp, by first | rfl | kernel_rfl, p, ks, f, rfl, hF, fun l hl0 => ⟨l, rfl, ⟨_, SqL.of upd_same⟩, fun D hD => ?_⟩⟩
    have s1 := Same.new (o := .lst (ks.map V.int)) hl0
    refine lc_list (K := K) (a := l) (xs := ks.map V.int) (fun i H' => Same (upd H l (.lst (ks.map V.int))) H' ∧ ∃ ts : List Addr, H' D = some (.lst (ts.map V.ref)) ∧ ts.length = i ∧ ∀ (j : Nat) (t : Addr) (x : Int), ts[j]? = some t → ks[j]? = some x → H' t = some (.tup [.int x, wV (f x)])) ⟨Same.new hD, [], upd_same, rfl, fun j t x h => (by cases h)⟩ ?_ ?_ ?_
    · rintro i H' _ ⟨s2, _⟩
      exact SqL.of (s2 _ _ upd_same)
    · rintro i x H' hi ⟨s2, ts, d2, hlt, hts⟩
      rw [List.getElem?_map] at hi
      cases hw : ks[i]? with
      | none => rw [hw] at hi; cases hi
      | some j =>
        rw [hw] at hi
        cases hi
        have hj := List.mem_of_getElem? hw
        have hF2 := (hF.same s1).same s2
        obtain ⟨dxa, da, hpa, hda⟩ := id hF2
        refine ⟨rfl, _, rfl, _, rfl, _, rfl, p, dxa, _, rfl, hpa, p, ks, f, _, .int, rfl, hF2, .int _, fun z => ?_, fun i2 e2 _ => ?_⟩
        · have z' : decide (j ∈ ks) = false := z
          rw [decide_eq_true hj] at z'
          cases z'
        · cases e2
          refine ⟨by show 2 ≤ sizeLine; decide, fun t ht => ?_⟩
          have sT := Same.new (o := .tup [V.int j, wV (f j)]) ht
          have d4 := sT _ _ d2
          refine ⟨_, d4, by rw [List.length_map]; exact sz_lt (by have := (List.getElem?_eq_some_iff.mp hw).1; omega), (s2.trans sT).mut hD, ts ++ [t], ?_, ?_, ?_⟩
          · rw [upd_same, List.map_append]
            rfl
          · rw [List.length_append, hlt]
            rfl
          · intro j' t' y h1 h2
            by_cases c : j' < ts.length
            · rw [List.getElem?_append_left c] at h1
              have h5 := sT _ _ (hts j' t' y h1 h2)
              rw [upd_ne (ne_of h5 d4 (by intro z; cases z))]
              exact h5
            · rw [List.getElem?_append_right (by omega)] at h1
              have e : j' - ts.length = 0 := by
                have := (List.getElem?_eq_some_iff.mp h1).1
                simp at this
                omega
              rw [e] at h1
              cases h1
              rw [show j' = i by omega, hw] at h2
              cases h2
              rw [upd_ne (fun z => by rw [z] at ht; rw [d2] at ht; cases ht)]
              exact upd_same
    · rintro H2 ⟨s2, ts, d2, hlt, hts⟩
      rw [List.length_map] at hlt
      have hpr : ∀ (ts : List Addr) (ks : List Int), ts.length = ks.length → (∀ (j : Nat) (t : Addr) (x : Int), ts[j]? = some t → ks[j]? = some x → H2 t = some (.tup [.int x, wV (f x)])) → Paired (fun p kv => SqT K H2 p [kV kv.1, kv.2]) ts (DictW ks f) := by
        intro ts
        induction ts with
        | nil =>
          intro ks hl _
          cases ks with
          | nil => exact .nil
          | cons a b => cases hl
        | cons t r ih =>
          intro ks hl h
          cases ks with
          | nil => cases hl
          | cons a b => exact .cons (SqT.of (h 0 t a rfl rfl)) (ih b (Nat.succ.inj hl) fun j t' x e1 e2 => h (j + 1) t' x e1 e2)
      refine ⟨D, ts, _, rfl, SqL.of d2, hpr ts ks hlt hts, fun dd hdd => ?_⟩
      rw [merge_same nd]
      have s12 := s1.trans s2
      exact q dd _ (s12.free hdd) (s12.trans (Same.new hdd)) upd_same

/-- a form and the dict that it was made of -/
structure Fo (A : Ad) (H : Hp) (p d : Addr) (ks' ks : List Int) (f : Int → Wd) : Prop where
  F : FormAt A H p ks' f
  D : H d = some (.dK (DictW ks f))
  pm : ks'.Perm ks
  lt : ks'.Pairwise (· < ·)
  len : ks'.length ≤ 8
  ok : ∀ k ∈ ks', okW (f k)
theorem Fo.same {A : Ad} {H H' : Hp} {p d : Addr} {ks' ks : List Int} {f : Int → Wd} (h : Fo A H p d ks' ks f) (e : Same H H') : Fo A H' p d ks' ks f := ⟨h.F.same e, e _ _ h.D, h.pm, h.lt, h.len, h.ok⟩
theorem Fo.nd {A : Ad} {H : Hp} {p d : Addr} {ks' ks : List Int} {f : Int → Wd} (h : Fo A H p d ks' ks f) : ks.Nodup := h.pm.nodup_iff.mp (lt_nd h.lt)
theorem Fo.le {A : Ad} {H : Hp} {p d : Addr} {ks' ks : List Int} {f : Int → Wd} (h : Fo A H p d ks' ks f) : ks.length ≤ 8 := by rw [← h.pm.length_eq]; exact h.len
theorem _root_.Law.FormAt.ins {A : Ad} {H : Hp} {p : Addr} {ks : List Int} {f : Int → Wd} (h : FormAt A H p ks f) : ∃ dx d, H p = some (.ins A.C_Form dx [("kept_values", .ref d)]) := by
  obtain ⟨dx, d, h1, _⟩ := h
  exact ⟨dx, d, h1⟩
theorem rd_and {A : Ad} {H : Hp} {E : XK} {Q : VK} {p p' : Addr} {ks ls : List Int} {f g : Int → Wd} (hF : FormAt A H p ks f) (hG : FormAt A H p' ls g) (lt : ks.Pairwise (· < ·)) (hl : ks.length ≤ 100) (okf : ∀ k ∈ ks, okW (f k)) (okg : ∀ k ∈ ls, okW (g k))
    (q : ∀ (r : Addr) H', H r = none → Same H H' → FormAt A H' r (andK ks ls) (minF f g) → Q (.ref r) H') : rBinO A.C_Form (sp_Form___and__ A) E (.ref p) (.ref p') H Q := by
  obtain ⟨dx, d, hp, _⟩ := id hF
  obtain ⟨dx', d', hp', _⟩ := id hG
  exact ⟨p, dx, _, p', dx', _, rfl, rfl, hp, hp', p, p', ks, ls, f, g, rfl, hF, hG, lt, hl, okf, okg, q⟩
theorem rd_eq {A : Ad} {H : Hp} {E : XK} {Q : VK} {p p' : Addr} {ks ls : List Int} {f g : Int → Wd} (hF : FormAt A H p ks f) (hG : FormAt A H p' ls g) (q : Q (.bl (eqW ks f ls g)) H) : rEqO K A.C_Form (sp_Form___eq__ A) E (.ref p) (.ref p') H Q := by
  obtain ⟨dx, d, hp, _⟩ := id hF
  obtain ⟨dx', d', hp', _⟩ := id hG
  exact ⟨p, dx, _, rfl, hp, .inl ⟨p', dx', _, rfl, hp'⟩, p, p', ks, ls, f, g, rfl, hF, hG, q⟩
theorem rd_ne {A : Ad} {H : Hp} {E : XK} {Q : VK} {p p' : Addr} {ks ls : List Int} {f g : Int → Wd} (hF : FormAt A H p ks f) (hG : FormAt A H p' ls g) (q : Q (.bl (!eqW ks f ls g)) H) : rNeO K A.C_Form (sp_Form___eq__ A) E (.ref p) (.ref p') H Q := by
  obtain ⟨dx, d, hp, _⟩ := id hF
  obtain ⟨dx', d', hp', _⟩ := id hG
  exact ⟨p, dx, _, rfl, hp, .inl ⟨p', dx', _, rfl, hp'⟩, p, p', ks, ls, f, g, rfl, hF, hG, _, rfl, q⟩
theorem okMin {ks ls : List Int} {f g : Int → Wd} (okf : ∀ k ∈ ks, okW (f k)) (okg : ∀ k ∈ ls, okW (g k)) : ∀ k ∈ andK ks ls, okW (minF f g k) := fun k hk => okW_min (okf k (andK_mem.mp hk).1) (okg k (andK_mem.mp hk).2)
def sp__law_pair_right (A : Ad) : Sp := fun vs H Q _ => ∃ (p p' d d' : Addr) (ks' ks ls' ls : List Int) (f g : Int → Wd), vs = [.ref p, .ref p', .ref d, .ref d'] ∧ Fo A H p d ks' ks f ∧ Fo A H p' d' ls' ls g ∧ ∀ H', Same H H' → Q (.bl true) H'
theorem ok__law_pair_right (T : Tx P A K mg) : FnOk P w K mg base CX0 10 A.a__law_pair_right A.fd__law_pair_right ["one", "other", "mine", "yours"] (sp__law_pair_right A) := by
  refine T.F__law_pair_right.ok sc__law_pair_right (fun vs H Q E h => ?_) (fun cdv A' outer s H vs Q E hr h => ?_)
  · obtain ⟨p, p', d, d', ks', ks, ls', ls, f, g, rfl, _⟩ := h
    rfl
  · obtain ⟨p, p', d, d', ks', ks, ls', ls, f, g, rfl, hF, hG, q⟩ := h
    refine ⟨_, (pss_cons (ps_set (i := 4) sc__law_pair_right.nd rfl (.inl rfl) (pe_op (op_binO T.binO_Form___and__ (ok_Form___and__ T) (hr.mono (by decide)) T.b_Form___and__ passC) (pv 0) (pv 1)))
      (pss_cons (ps_if (PW.pt (pw_or (pt_cmpR (op_ne_dictB (Nat.lt_of_succ_lt (hu_of hr))) (pe_call (ok__law_read T) (hr.mono (by decide)) (by rfl) T.g__law_read T.F__law_read.kp T.b__law_read .nil pass0 (pa_cons (pv 4) pa_nil)) (pe_call (ok__law_lesser T) (hr.mono (by decide)) (by rfl) T.g__law_lesser T.F__law_lesser.kp T.b__law_lesser .nil pass0 (pa_cons (pv 2) (pa_cons (pv 3) pa_nil))) (nomark _)) (pw_or1 (pt_cmpR (op_neO T.eq_Form (ok_Form___eq__ T) (hr.mono (by decide)) T.b_Form___eq__ pass0) (pv 4) (pe_op (op_binO T.binO_Form___and__ (ok_Form___and__ T) (hr.mono (by decide)) T.b_Form___and__ passC) (pv 1) (pv 0)) (nomark _))))) (pss_one (ps_ret pe_bl)) pss_nil)
      (pss_cons (ps_if (pt_cmpR op_ne (pe_meth (pv 0) T.cl_Form T.me_Form_is_under (ok_Form_is_under T) (hr.mono (by decide)) T.b_Form_is_under .nil pass0 (pa_cons (pv 1) pa_nil)) (pe_call (ok__law_under T) (hr.mono (by decide)) (by rfl) T.g__law_under T.F__law_under.kp T.b__law_under .nil pass0 (pa_cons (pv 2) (pa_cons (pv 3) pa_nil))) (nomark _)) (pss_one (ps_ret pe_bl)) pss_nil)
      (pss_cons (ps_if (pt_cmpR op_ne (pe_cmpR (op_eqO T.eq_Form (ok_Form___eq__ T) (hr.mono (by decide)) T.b_Form___eq__ pass0) (pv 0) (pv 1) (nomark _)) (pe_cmpR (op_eq_dictB (Nat.lt_of_succ_lt (hu_of hr))) (pv 2) (pv 3) (nomark _)) (nomark _)) (pss_one (ps_ret pe_bl)) pss_nil)
      (pss_one (ps_ret (pe_and (pe_meth (pv 4) T.cl_Form T.me_Form_is_under (ok_Form_is_under T) (hr.mono (by decide)) T.b_Form_is_under .nil pass0 (pa_cons (pv 0) pa_nil)) (pe_and (pe_meth (pv 4) T.cl_Form T.me_Form_is_under (ok_Form_is_under T) (hr.mono (by decide)) T.b_Form_is_under .nil pass0 (pa_cons (pv 1) pa_nil)) (pe_one (pe_cmpR op_eq (pe_cmpR (op_eqO T.eq_Form (ok_Form___eq__ T) (hr.mono (by decide)) T.b_Form___eq__ pass0) (pv 4) (pv 0) (nomark _)) (pe_call (ok__law_under T) (hr.mono (by decide)) (by rfl) T.g__law_under T.F__law_under.kp T.b__law_under .nil pass0 (pa_cons (pv 2) (pa_cons (pv 3) pa_nil))) (nomark _))))))))))), ?_⟩
    have l1 := hF.len
    have l2 := hG.len
    have l3 := hF.le
    have l4 := hG.le
    have mk : ∀ k, k ∈ ks' ↔ k ∈ ks := fun k => hF.pm.mem_iff
    have ml : ∀ k, k ∈ ls' ↔ k ∈ ls := fun k => hG.pm.mem_iff
    have a1 := andK_len ks' ls'
    have a2 := andK_len ls' ks'
    have nb := lt_nd (andK_lt (ls := ls') hF.lt)
    have nb' := lt_nd (andK_lt (ls := ks') hG.lt)
    refine ⟨_, rfl, _, rfl, rd_and hF.F hG.F hF.lt (by omega) hF.ok hG.ok fun r H1 hr0 s1 R1 => ?_⟩
    have F1 := hF.same s1
    have G1 := hG.same s1
    -- _law_read(both) != _law_lesser(mine, yours)
    refine ⟨_, rfl, r, _, _, rfl, R1, nb, by omega, fun x1 H2 h2n s2 hx1 => ?_⟩
    refine ⟨_, rfl, _, rfl, d, d', ks, ls, f, g, rfl, (F1.same s2).D, (G1.same s2).D, hF.nd, by omega, fun x2 H3 h3n s3 hx2 => ?_⟩
    refine ⟨x1, x2, _, _, rfl, rfl, s3 _ _ hx1, hx2, dw_flat _ _, dw_flat2 _ _, ?_⟩
    have e1 : eqW (andK ks' ls') (minF f g) (andK ks ls) (minF f g) = true := (eqW_iff nb (andK_nd hF.nd)).mpr ⟨fun k => by rw [andK_mem, andK_mem, mk, ml], fun _ _ => rfl⟩
    rw [dw_eq, e1]
    refine ⟨_, rfl, ifF rfl ?_⟩
    have s13 := (s2.trans s3)
    have F3 := F1.same s13
    have G3 := G1.same s13
    have R3 := R1.same s13
    -- both != other & one
    refine ⟨_, rfl, _, rfl, _, rfl, rd_and G3.F F3.F hG.lt (by omega) hG.ok hF.ok fun r2 H4 h4n s4 R4 => ?_⟩
    have e2 : eqW (andK ks' ls') (minF f g) (andK ls' ks') (minF g f) = true := (eqW_iff nb nb').mpr ⟨fun k => by rw [andK_mem, andK_mem]; exact And.comm, fun k _ => minW_comm _ _⟩
    refine rd_ne (R3.same s4) R4 ?_
    rw [e2]
    refine ⟨_, rfl, ifF rfl ?_⟩
    have F4 := F3.same s4
    have G4 := G3.same s4
    have R4 := R3.same s4
    -- one.is_under(other) != _law_under(mine, yours)
    obtain ⟨dx, dd, hp⟩ := F4.F.ins
    refine ⟨_, rfl, p, dx, _, rfl, hp, by first | rfl | kernel_rfl, _, rfl, p, p', ks', ls', f, g, rfl, F4.F, G4.F, by omega, fun H5 s5 => ?_⟩
    have F5 := F4.same s5
    have G5 := G4.same s5
    have R5 := R4.same s5
    refine ⟨_, rfl, _, rfl, d, d', ks, ls, f, g, rfl, F5.D, G5.D, by omega, fun H6 s6 => ?_⟩
    have e3 : undW ks' f ls' g = undW ks f ls g := by
      rw [Bool.eq_iff_iff, undW_iff, undW_iff]
      exact ⟨fun h k hk => by rw [← ml]; exact h k ((mk k).mpr hk), fun h k hk => by rw [ml]; exact h k ((mk k).mp hk)⟩
    refine ⟨rfl, _, rfl, ?_⟩
    refine ifF (by rw [e3, decide_eq_true rfl]; rfl) ?_
    have F6 := F5.same s6
    have G6 := G5.same s6
    have R6 := R5.same s6
    -- (one == other) != (mine == yours)
    refine ⟨_, rfl, _, rfl, rd_eq F6.F G6.F ?_⟩
    refine ⟨_, rfl, _, rfl, d, d', _, _, rfl, rfl, F6.D, G6.D, dw_flat _ _, dw_flat2 _ _, ?_⟩
    have e4 : eqW ks' f ls' g = eqW ks f ls g := by
      rw [Bool.eq_iff_iff, eqW_iff (lt_nd hF.lt) (lt_nd hG.lt), eqW_iff hF.nd hG.nd]
      exact ⟨fun h => ⟨fun k => by rw [← mk, ← ml]; exact h.1 k, fun k hk => h.2 k ((mk k).mpr hk)⟩, fun h => ⟨fun k => by rw [mk, ml]; exact h.1 k, fun k hk => h.2 k ((mk k).mp hk)⟩⟩
    rw [dw_eq, e4]
    refine ⟨rfl, _, rfl, ?_⟩
    refine ifF (by rw [Bool.false_xor, decide_eq_true rfl]; rfl) ?_
    -- both.is_under(one)
    obtain ⟨rx, rr, hr6⟩ := R6.ins
    have u1 : undW (andK ks' ls') (minF f g) ks' f = true := undW_iff.mpr fun k hk => ⟨(andK_mem.mp hk).1, minW_l _ _⟩
    have u2 : undW (andK ks' ls') (minF f g) ls' g = true := undW_iff.mpr fun k hk => ⟨(andK_mem.mp hk).2, minW_r _ _⟩
    refine ⟨_, rfl, r, rx, _, rfl, hr6, by first | rfl | kernel_rfl, _, rfl, r, p, _, ks', _, f, rfl, R6, F6.F, by omega, fun H7 s7 => ?_⟩
    rw [u1]
    refine ⟨_, rfl, ifT rfl ?_⟩
    have G7 := G6.same s7
    have F7 := F6.same s7
    have R7 := R6.same s7
    obtain ⟨rx, rr, hr7⟩ := R7.ins
    refine ⟨_, rfl, r, rx, _, rfl, hr7, by first | rfl | kernel_rfl, _, rfl, r, p', _, ls', _, g, rfl, R7, G7.F, by omega, fun H8 s8 => ?_⟩
    rw [u2]
    refine ⟨_, rfl, ifT rfl ?_⟩
    have G8 := G7.same s8
    have F8 := F7.same s8
    have R8 := R7.same s8
    refine ⟨_, rfl, _, rfl, rd_eq R8 F8.F ?_⟩
    refine ⟨_, rfl, _, rfl, d, d', ks, ls, f, g, rfl, F8.D, G8.D, by omega, fun H9 s9 => ?_⟩
    have e5 : eqW (andK ks' ls') (minF f g) ks' f = undW ks f ls g := by
      rw [← e3, Bool.eq_iff_iff, eqW_iff nb (lt_nd hF.lt), undW_iff]
      refine ⟨fun h k hk => ?_, fun h => ⟨fun k => ⟨fun hk => (andK_mem.mp hk).1, fun hk => andK_mem.mpr ⟨hk, (h k hk).1⟩⟩, fun k hk => (minW_eq _ _).mpr (h k (andK_mem.mp hk).1).2⟩⟩
      have hk2 := (h.1 k).mpr hk
      exact ⟨(andK_mem.mp hk2).2, (minW_eq _ _).mp (h.2 k hk2)⟩
    rw [e5]
    refine ⟨rfl, ?_⟩
    have := q H9 (((((((s1.trans s13).trans s4).trans s5).trans s6).trans s7).trans s8).trans s9)
    rw [decide_eq_true rfl]
    exact this

/-- at d a drawn dict of widths -/
def RowAt (H : Hp) (d : Addr) : Prop := ∃ (ks : List Int) (f : Int → Wd), H d = some (.dK (DictW ks f)) ∧ ks.Nodup ∧ ks.length ≤ 8 ∧ ∀ k ∈ ks, okW (f k)
theorem RowAt.same {H H' : Hp} {d : Addr} (h : RowAt H d) (e : Same H H') : RowAt H' d := by
  obtain ⟨ks, f, h, r⟩ := h
  exact ⟨ks, f, e _ _ h, r⟩
theorem RowAt.kp {H H' : Hp} {p d : Addr} (h : RowAt H d) (e : Kp p H H') (hq : PoolAt H p) : RowAt H' d := by
  obtain ⟨ks, f, h, r⟩ := h
  obtain ⟨g, s, hp, _⟩ := hq
  exact ⟨ks, f, e _ _ h (ne_of h hp (by intro z; cases z)), r⟩
theorem RowAt.mut {H : Hp} {R d : Addr} {xs : List V} {o : HO} (h : RowAt H d) (hR : H R = some (.lst xs)) : RowAt (upd H R o) d := by
  obtain ⟨ks, f, h, r⟩ := h
  exact ⟨ks, f, by rw [upd_ne (ne_of h hR (by intro z; cases z))]; exact h, r⟩
theorem _root_.Law.PoolAt.mut {H : Hp} {R p : Addr} {o : HO} (h : PoolAt H p) (n : p ≠ R) : PoolAt (upd H R o) p := by
  obtain ⟨g, s, h, r⟩ := h
  exact ⟨g, s, by rw [upd_ne n]; exact h, r⟩
def FoE (A : Ad) (H : Hp) (p d : Addr) : Prop := ∃ (ks' ks : List Int) (f : Int → Wd), Fo A H p d ks' ks f
theorem FoE.same {A : Ad} {H H' : Hp} {p d : Addr} (h : FoE A H p d) (e : Same H H') : FoE A H' p d := by
  obtain ⟨ks', ks, f, h⟩ := h
  exact ⟨ks', ks, f, h.same e⟩
def sp_law (K : PySem.W.Frag) : Sp := fun vs H Q _ => ∃ (a : Addr) (ns : List Int), vs = [.ref a] ∧ SqL K H a (ns.map V.int) ∧ ns.length ≤ 63 ∧ ∀ H', Q (.bl true) H'
theorem ok_law (T : Tx P A K mg) : FnOk P w K mg base CX0 14 A.a_law A.fd_law ["script"] (sp_law K) := by
  refine T.F_law.ok sc_law (fun vs H Q E h => ?_) (fun cdv A' outer s H vs Q E hr h => ?_)
  · obtain ⟨a, ns, rfl, _⟩ := h
    rfl
  · obtain ⟨a, ns, rfl, hS, hl, q⟩ := h
    refine ⟨_, (pss_cons (ps_for PassesOwn.never rfl (pi_range1 (by rfl) T.m_range (pa_cons (pe_callB (call_max2 (by rfl)) (by rfl) T.m_max bb_max (pa_cons pe_int (pa_cons (pe_callB (call_min2 (by rfl)) (by rfl) T.m_min bb_min (pa_cons (pe_callB call_len_seq (by rfl) T.m_len bb_len (pa_cons (pv 0) pa_nil)) (pa_cons pe_int pa_nil))) pa_nil))) pa_nil)) (pg_name (i := 1) sc_law.nd rfl (.inl rfl))
      (pss_cons (ps_set (i := 2) sc_law.nd rfl (.inr rfl) (pe_call (ok__law_pool T) (hr.mono (by decide)) (by rfl) T.g__law_pool T.F__law_pool.kp T.b__law_pool .nil pass0 (pa_cons (pv 0) (pa_cons (pv 1) pa_nil))))
      (pss_cons (ps_setLc (i := 3) (own := [("turn", 4)]) (g := gName 4) (tt := tYes) (by rfl) sc_law.nd rfl rfl (sw_true rfl rfl rfl (by decide +kernel)) (pi_range1 (by rfl) T.m_range (pa_cons pe_int pa_nil)) (blkOk_by (own := [("turn", 4)]) (N := N_law) (sc := defScope s_law) (by decide +kernel)) (fun _ _ _ _ _ => (pg_name (i := 4) sc_law.nd rfl (.inl rfl))) (fun _ _ _ _ _ => pts_nil) (fun _ _ _ _ _ => (pe_call (ok__law_widths_by T) (hr.mono (by decide)) (by rfl) T.g__law_widths_by T.F__law_widths_by.kp T.b__law_widths_by .nil pass0 (pa_cons (pv 2) pa_nil))))
      (C8.pss_cut (ps_if (pt_cmpR op_eq (pe_call (ok__law_draw T) (hr.mono (by decide)) (by rfl) T.g__law_draw T.F__law_draw.kp T.b__law_draw .nil pass0 (pa_cons (pv 2) (pa_cons pe_int pa_nil))) pe_int (nomark _)) (pss_one (ps_asg (pe_callTy (call_dictP (by rfl)) (by rfl) T.m_dict bb_dict (pa_cons (pe_lock (pe_lc (own := [("shift", 5)]) (g := gName 5) (tt := tYes) (by rfl) sc_law.nd (pi_keys (pe_ix ix_list (pv 3) pe_int (fun _ _ => rfl))) (blkOk_by (own := [("shift", 5)]) (N := N_law) (sc := defScope s_law) (by decide +kernel)) (fun _ _ _ _ _ => (pg_name (i := 5) sc_law.nd rfl (.inl rfl))) (fun _ _ _ _ _ => pts_nil) (fun _ _ _ _ _ => (pe_tup (pa_cons (pv 5) (pa_cons (pe_call (ok__law_width T) (hr.mono (by decide)) (by rfl) T.g__law_width T.F__law_width.kp T.b__law_width .nil pass0 (pa_cons (pv 2) pa_nil)) pa_nil)))))) pa_nil)) (pg_sub (pv 3) pe_int set_list))) pss_nil)
      (C8.pss_cut (ps_if (pt_cmpR op_eq (pe_call (ok__law_draw T) (hr.mono (by decide)) (by rfl) T.g__law_draw T.F__law_draw.kp T.b__law_draw .nil pass0 (pa_cons (pv 2) (pa_cons pe_int pa_nil))) pe_int (nomark _)) (pss_one (ps_asg (pe_callTy call_dictD (by rfl) T.m_dict bb_dict (pa_cons (pe_ix ix_list (pv 3) pe_int (fun _ _ => rfl)) pa_nil)) (pg_sub (pv 3) pe_int set_list))) pss_nil)
      (pss_cons (ps_setLc (i := 6) (own := [("row", 7)]) (g := gName 7) (tt := tYes) (by rfl) sc_law.nd rfl rfl (sw_true rfl rfl rfl (by decide +kernel)) (pi_list (pv 3)) (blkOk_by (own := [("row", 7)]) (N := N_law) (sc := defScope s_law) (by decide +kernel)) (fun _ _ _ _ _ => (pg_name (i := 7) sc_law.nd rfl (.inl rfl))) (fun _ _ _ _ _ => pts_nil) (fun _ _ _ _ _ => (pe_make T.M_Form (ok_Form___init__ T) (hr.mono (by decide)) (by rfl) T.g_Form T.b_Form___init__ .nil passC (pa_cons (pv 7) pa_nil))))
      (pss_cons (ps_for PassesOwn.never rfl (pi_range1 (by rfl) T.m_range (pa_cons pe_int pa_nil)) (pg_name (i := 8) sc_law.nd rfl (.inl rfl))
      (pss_one (ps_for PassesOwn.never rfl (pi_range1 (by rfl) T.m_range (pa_cons pe_int pa_nil)) (pg_name (i := 9) sc_law.nd rfl (.inl rfl))
      (pss_one (ps_if (pt_not (pt_val (pe_call (ok__law_pair_right T) (hr.mono (by decide)) (by rfl) T.g__law_pair_right T.F__law_pair_right.kp T.b__law_pair_right .nil pass0 (pa_cons (pe_ix ix_list (pv 6) (pv 8) (fun _ _ => rfl)) (pa_cons (pe_ix ix_list (pv 6) (pv 9) (fun _ _ => rfl)) (pa_cons (pe_ix ix_list (pv 3) (pv 8) (fun _ _ => rfl)) (pa_cons (pe_ix ix_list (pv 3) (pv 9) (fun _ _ => rfl)) pa_nil))))))) (pss_one (ps_ret pe_bl)) pss_nil)))))
      (pss_cons (ps_asg (pv 6) (pg_lst (by rfl) (pgs_cons (pg_name (i := 10) sc_law.nd rfl (.inl rfl)) (pgs_cons (pg_name (i := 11) sc_law.nd rfl (.inl rfl)) (pgs_cons (pg_name (i := 12) sc_law.nd rfl (.inl rfl)) pgs_nil)))))
      (pss_cons (ps_if (pt_cmpR (op_neO T.eq_Form (ok_Form___eq__ T) (hr.mono (by decide)) T.b_Form___eq__ pass0) (pe_op (op_binO T.binO_Form___and__ (ok_Form___and__ T) (hr.mono (by decide)) T.b_Form___and__ passC) (pe_op (op_binO T.binO_Form___and__ (ok_Form___and__ T) (hr.mono (by decide)) T.b_Form___and__ passC) (pv 10) (pv 11)) (pv 12)) (pe_op (op_binO T.binO_Form___and__ (ok_Form___and__ T) (hr.mono (by decide)) T.b_Form___and__ passC) (pv 10) (pe_op (op_binO T.binO_Form___and__ (ok_Form___and__ T) (hr.mono (by decide)) T.b_Form___and__ passC) (pv 11) (pv 12))) (nomark _)) (pss_one (ps_ret pe_bl)) pss_nil)
      (pss_cons (ps_if (pt_cmpR (op_neO T.eq_Form (ok_Form___eq__ T) (hr.mono (by decide)) T.b_Form___eq__ pass0) (pe_op (op_binO T.binO_Form___and__ (ok_Form___and__ T) (hr.mono (by decide)) T.b_Form___and__ passC) (pv 10) (pv 10)) (pv 10) (nomark _)) (pss_one (ps_ret pe_bl)) pss_nil)
      (C8.pss_cut (ps_if (PW.pt (pw_and (pt_val (pe_meth (pv 12) T.cl_Form T.me_Form_is_under (ok_Form_is_under T) (hr.mono (by decide)) T.b_Form_is_under .nil pass0 (pa_cons (pv 10) pa_nil))) (pw_and (pt_val (pe_meth (pv 12) T.cl_Form T.me_Form_is_under (ok_Form_is_under T) (hr.mono (by decide)) T.b_Form_is_under .nil pass0 (pa_cons (pv 11) pa_nil))) (pw_and1 (pt_not (pt_val (pe_meth (pv 12) T.cl_Form T.me_Form_is_under (ok_Form_is_under T) (hr.mono (by decide)) T.b_Form_is_under .nil pass0 (pa_cons (pe_op (op_binO T.binO_Form___and__ (ok_Form___and__ T) (hr.mono (by decide)) T.b_Form___and__ passC) (pv 10) (pv 11)) pa_nil)))))))) (pss_one (ps_ret pe_bl)) pss_nil)
      (pss_one (ps_if (pt_cmpR (op_neLD (hu_of hr)) (pe_lc (own := [("form", 13)]) (g := gName 13) (tt := tYes) (by rfl) sc_law.nd (pi_list (pv 6)) (blkOk_by (own := [("form", 13)]) (N := N_law) (sc := defScope s_law) (by decide +kernel)) (fun _ _ _ _ _ => (pg_name (i := 13) sc_law.nd rfl (.inl rfl))) (fun _ _ _ _ _ => pts_nil) (fun _ _ _ _ _ => (pe_call (ok__law_read T) (hr.mono (by decide)) (by rfl) T.g__law_read T.F__law_read.kp T.b__law_read .nil pass0 (pa_cons (pv 13) pa_nil)))) (pv 3) (nomark _)) (pss_one (ps_ret pe_bl)) pss_nil)))))))))))))
      (pss_one (ps_ret pe_bl))), ?_⟩
    have hm : ∀ n : Int, 0 ≤ n → -(2 ^ 62) ≤ (if (if (6 : Int) < n then (6 : Int) else n) > 1 then (if (6 : Int) < n then (6 : Int) else n) else 1) ∧ (if (if (6 : Int) < n then (6 : Int) else n) > 1 then (if (6 : Int) < n then (6 : Int) else n) else 1) < 7 := fun n h => by
      constructor <;> (repeat split) <;> omega
    have hm' := hm ((ns.map V.int).length : Int) (by omega)
    refine ⟨_, rfl, a, _, rfl, .inl hS, _, _, rfl, _, _, rfl, _, rfl, hm'.1, by omega, for_range (lo := 0) (fun i σ H' => (∃ v1 v2 v3 v4 v5 v6 v7 v8 v9 v10 v11 v12 v13, σ = [some (.ref a), v1, v2, v3, v4, v5, v6, v7, v8, v9, v10, v11, v12, v13]) ∧ Same H H') ⟨⟨_, _, _, _, _, _, _, _, _, _, _, _, _, rfl⟩, Same.refl H⟩ ?_ ?_⟩
    · rintro i σ H1 hi ⟨⟨v1, v2, v3, v4, v5, v6, v7, v8, v9, v10, v11, v12, v13, rfl⟩, s1⟩
      have hi6 : i < 7 := by omega
      have hS1 : SqL K H1 a (ns.map V.int) := s1.seq hS
      refine ⟨_, rfl, _, rfl, a, ns, i, (by rw [Int.zero_add]; rfl), hS1, by omega, fun p H2 hp s2 P2 => ?_⟩
      -- rows
      refine ⟨3, rfl, by decide, by decide, fun R hR => ?_⟩
      have nR := P2.fresh hR
      refine lc_range (lo := 0) (n := 3) (fun i H' => Kp p H2 H' ∧ PoolAt H' p ∧ ∃ ds : List Addr, H' R = some (.lst (ds.map V.ref)) ∧ ds.length = i ∧ ∀ d ∈ ds, RowAt H' d) ⟨Kp.new hR, P2.same (Same.new hR), [], upd_same, rfl, fun x hx => (by cases hx)⟩ ?_ ?_
      · rintro i H' hi ⟨k2, P3, ds, d2, hlt, hok⟩
        refine ⟨rfl, _, rfl, p, rfl, P3, fun d ks f H3 hd nd hlk ok k3 P4 h3 => ?_⟩
        have d3 := k3 _ _ d2 nR
        refine ⟨_, d3, by rw [List.length_map]; exact sz_lt (by omega), (k2.trans k3).mut hR, P4.mut nR.symm, ds ++ [d], ?_, ?_, fun x hx => ?_⟩
        · rw [upd_same, List.map_append]
          rfl
        · rw [List.length_append, hlt]
          rfl
        · rcases List.mem_append.mp hx with h | h
          · exact ((hok x h).kp k3 P3).mut d3
          · cases List.mem_singleton.mp h
            exact RowAt.mut ⟨ks, f, h3, nd, hlk, ok⟩ d3
      rintro H3 ⟨k3, P3, ds, d3, hl3, hok⟩
      match ds, hl3 with
      | [d0, d1, d2], _ => ?_
      have hR1 : H1 R = none := s2.free hR
      have npR : p ≠ R := nR.symm
      have keep : ∀ {H H' : Hp}, Same H1 H → Kp p H H' → Same H1 H' := fun e k b o hb => k b o (e b o hb) (ne_of_none hb hp)
      have s3 : Same H1 H3 := keep s2 k3
      have r0 := hok d0 (by simp)
      have r1 := hok d1 (by simp)
      have r2 := hok d2 (by simp)
      have d3' : H3 R = some (.lst [.ref d0, .ref d1, .ref d2]) := d3
      clear hok d3 k3 hl3 hR
      -- if _law_draw(pool, 2) == 0: rows[1] = ..
      refine ⟨fun σ H' => (∃ v4 v5 v6 v7 v8 v9 v10 v11 v12 v13, σ = [some (.ref a), some (.int (0 + (i : Int))), some (.ref p), some (.ref R), v4, v5, v6, v7, v8, v9, v10, v11, v12, v13]) ∧ Same H1 H' ∧ PoolAt H' p ∧ ∃ d0 d1 d2, H' R = some (.lst [.ref d0, .ref d1, .ref d2]) ∧ RowAt H' d0 ∧ RowAt H' d1 ∧ RowAt H' d2, ?_, ?_⟩
      · refine ⟨_, rfl, p, 2, rfl, P3, by decide, by decide, fun x H4 x0 x1 k4 P4 => ⟨rfl, _, rfl, ?_⟩⟩
        have d4 := k4 _ _ d3' nR
        have q0 := r0.kp k4 P3
        have q1 := r1.kp k4 P3
        have q2 := r2.kp k4 P3
        have s4 := keep s3 k4
        by_cases c : x = 0
        · refine ifT (by rw [c]; exact decide_eq_true rfl) ?_
          obtain ⟨ks, f, hd, nd, hlk, ok⟩ := id q0
          refine ⟨d0, _, hd, trivial, fun od => ?_⟩
          have nRd : R ≠ d0 := ne_of d4 hd (by intro z; cases z)
          have npd : p ≠ d0 := by
            obtain ⟨g, s, hpp, _⟩ := P4
            exact ne_of hpp hd (by intro z; cases z)
          have d4' : upd H4 d0 (.frz od (.dK (DictW ks f))) R = some (.lst [.ref d0, .ref d1, .ref d2]) := by rw [upd_ne nRd]; exact d4
          have P4' : PoolAt (upd H4 d0 (.frz od (.dK (DictW ks f)))) p := P4.mut npd
          refine ⟨_, rfl, R, _, 0, _, rfl, rfl, SqL.of d4', rfl, d0, od, rfl, .inl ⟨_, upd_same, fun D hD => ?_⟩⟩
          have nD := P4'.fresh hD
          have nDd : D ≠ d0 := fun z => by rw [z, upd_same] at hD; cases hD
          have hHd : upd H4 d0 (.frz od (.dK (DictW ks f))) d0 = some (.frz od (.dK (DictW ks f))) := upd_same
          have hHo : ∀ b, b ≠ d0 → upd H4 d0 (.frz od (.dK (DictW ks f))) b = H4 b := fun b n => upd_ne n
          generalize upd H4 d0 (.frz od (.dK (DictW ks f))) = HL at *
          have hRD : R ≠ D := fun z => by rw [← z, d4'] at hD; cases hD
          refine lc_it (walk_keys (d := d0) (o := od) (kvs := DictW ks f)) (fun i H' => Kp p HL H' ∧ PoolAt H' p ∧ ∃ (ts : List Addr) (ps : List (Int × Wd)), H' D = some (.lst (ts.map V.ref)) ∧ ts.length = i ∧ ps.length = i ∧ (∀ x ∈ ps, okW x.2) ∧ ∀ (j : Nat) (t : Addr) (x : Int × Wd), ts[j]? = some t → ps[j]? = some x → H' t = some (.tup [.int x.1, wV x.2])) ⟨Kp.new hD, P4'.same (Same.new hD), [], [], upd_same, rfl, rfl, fun x hx => (by cases hx), fun j t x h => (by cases h)⟩ ?_ ?_ ?_
          · rintro i H' _ ⟨k5, _⟩
            exact k5 _ _ hHd npd.symm
          · rintro i x H5 H6 hi ⟨k5, P5, ts, ps, d5, hl1, hl2, hok, hts⟩ ⟨rfl, k, v, hk, rfl⟩
            obtain ⟨j, hj, rfl⟩ := dw_at ks f hk
            rw [dw_len] at hi
            refine ⟨rfl, _, rfl, _, rfl, p, rfl, P5, fun x H7 ox k7 P7 => ⟨by show 2 ≤ sizeLine; decide, fun t ht => ?_⟩⟩
            have sT := Same.new (o := .tup [kV (Sum.inl j), wV x]) ht
            have d7 := sT _ _ (k7 _ _ d5 nD)
            have hpool : ∃ xs, H6 p = some (.lst xs) := by obtain ⟨g, s, h, _⟩ := P5; exact ⟨_, h⟩
            obtain ⟨xs, hpl⟩ := hpool
            refine ⟨_, d7, by rw [List.length_map]; exact sz_lt (by omega), ((k5.trans k7).trans (Kp.of sT)).mut hD, (P7.same sT).mut nD.symm, ts ++ [t], ps ++ [(j, x)], ?_, ?_, ?_, ?_, ?_⟩
            · rw [upd_same, List.map_append]
              rfl
            · rw [List.length_append, hl1]
              rfl
            · rw [List.length_append, hl2]
              rfl
            · intro y hy
              rcases List.mem_append.mp hy with h | h
              · exact hok y h
              · cases List.mem_singleton.mp h
                exact ox
            · intro j' t' y h1 h2
              by_cases c : j' < ts.length
              · rw [List.getElem?_append_left c] at h1
                rw [List.getElem?_append_left (by omega)] at h2
                have h3 := hts j' t' y h1 h2
                have h5 := sT _ _ (k7 _ _ h3 (ne_of h3 hpl (by intro z; cases z)))
                rw [upd_ne (ne_of h5 d7 (by intro z; cases z))]
                exact h5
              · rw [List.getElem?_append_right (by omega)] at h1
                rw [List.getElem?_append_right (by omega)] at h2
                have e : j' - ts.length = 0 := by
                  have := (List.getElem?_eq_some_iff.mp h1).1
                  simp at this
                  omega
                rw [e] at h1
                rw [show j' - ps.length = 0 by omega] at h2
                cases h1
                cases h2
                rw [upd_ne (fun z => by rw [z] at ht; rw [k7 _ _ d5 nD] at ht; cases ht)]
                exact upd_same
          · rintro H5 ⟨k5, P5, ts, ps, d5, hl1, hl2, hok, hts⟩
            rw [dw_len] at hl1 hl2
            obtain ⟨ks2, f2, g1, g2, g3, g4⟩ := merge_dw ps [] (fun _ => none) List.nodup_nil (fun k hk => by cases hk) hok
            have hu5 : ∀ b o, H4 b = some o → b ≠ p → upd H5 d0 (.dK (DictW ks f)) b = some o := fun b o e n => by
              by_cases c : b = d0
              · subst c
                rw [hd] at e
                cases e
                exact upd_same
              · rw [upd_ne c]
                exact k5 b o (by rw [hHo b c]; exact e) n
            have P5' : PoolAt (upd H5 d0 (.dK (DictW ks f))) p := P5.mut npd
            have tup5 : ∀ (j : Nat) (t : Addr) (x : Int × Wd), ts[j]? = some t → ps[j]? = some x → upd H5 d0 (.dK (DictW ks f)) t = some (.tup [.int x.1, wV x.2]) := fun j t x h1 h2 => by
              have h := hts j t x h1 h2
              rw [upd_ne (ne_of h (k5 _ _ hHd npd.symm) (by intro z; cases z))]
              exact h
            refine ⟨k5 _ _ hHd npd.symm, D, ts, _, rfl, SqL.of (by rw [upd_ne nDd]; exact d5), pairs_of ts ps (by omega) tup5, fun dd hdd => ?_⟩
            have e : mergeK [] (ps.map fun p => ((Sum.inl p.1 : L2.Key), wV p.2)) = DictW ks2 f2 := g1
            rw [e]
            generalize upd H5 d0 (.dK (DictW ks f)) = H6 at *
            have s6 := Same.new (o := .dK (DictW ks2 f2)) hdd
            have k6 : Kp p H4 (upd H6 dd (.dK (DictW ks2 f2))) := fun b o e n => s6 _ _ (hu5 b o e n)
            have d6 := k6 _ _ d4 nR
            have P6 := P5'.same s6
            refine ⟨_, rfl, R, _, 1, 1, rfl, rfl, d6, rfl, ⟨_, _, _, _, _, _, _, _, _, _, rfl⟩, ?_, P6.mut npR, d0, dd, d2, upd_same, (q0.kp k6 P4).mut d6, RowAt.mut ⟨ks2, f2, upd_same, g2, by simp at g4; omega, g3⟩ d6, (q2.kp k6 P4).mut d6⟩
            exact (keep s4 k6).mut hR1
        · refine ifF (decide_eq_false fun z => c (V.int.inj z)) ?_
          exact ⟨⟨_, _, _, _, _, _, _, _, _, _, rfl⟩, s4, P4, d0, d1, d2, d4, q0, q1, q2⟩
      rintro σ H3b ⟨⟨v4, v5, v6, v7, v8, v9, v10, v11, v12, v13, rfl⟩, s3b, P3b, e0, e1, e2, d3b, t0, t1, t2⟩
      clear r0 r1 r2 d3' s3 P3
      -- if _law_draw(pool, 4) == 0: rows[2] = dict(rows[0])
      refine ⟨fun σ H' => (∃ v4 v5 v6 v7 v8 v9 v10 v11 v12 v13, σ = [some (.ref a), some (.int (0 + (i : Int))), some (.ref p), some (.ref R), v4, v5, v6, v7, v8, v9, v10, v11, v12, v13]) ∧ Same H1 H' ∧ ∃ d0 d1 d2, H' R = some (.lst [.ref d0, .ref d1, .ref d2]) ∧ RowAt H' d0 ∧ RowAt H' d1 ∧ RowAt H' d2, ?_, ?_⟩
      · refine ⟨_, rfl, p, 4, rfl, P3b, by decide, by decide, fun x H4 x0 x1 k4 P4 => ⟨rfl, _, rfl, ?_⟩⟩
        have d4 := k4 _ _ d3b nR
        have q0 := t0.kp k4 P3b
        have q1 := t1.kp k4 P3b
        have q2 := t2.kp k4 P3b
        have s4 := keep s3b k4
        by_cases c : x = 0
        · refine ifT (by rw [c]; exact decide_eq_true rfl) ?_
          obtain ⟨ks, f, hd, nd, hlk, ok⟩ := id q0
          refine ⟨_, rfl, R, _, 0, _, rfl, rfl, SqL.of d4, rfl, e0, _, rfl, .inl hd, fun dd hdd => ?_⟩
          have s6 := Same.new (o := .dK (DictW ks f)) hdd
          have d6 := s6 _ _ d4
          exact ⟨_, rfl, R, _, 2, 2, rfl, rfl, d6, rfl, ⟨_, _, _, _, _, _, _, _, _, _, rfl⟩, (s4.trans s6).mut hR1, e0, e1, dd, upd_same, (q0.same s6).mut d6, (q1.same s6).mut d6, RowAt.mut ⟨ks, f, upd_same, nd, hlk, ok⟩ d6⟩
        · refine ifF (decide_eq_false fun z => c (V.int.inj z)) ?_
          exact ⟨⟨_, _, _, _, _, _, _, _, _, _, rfl⟩, s4, e0, e1, e2, d4, q0, q1, q2⟩
      clear t0 t1 t2 d3b s3b P3b
      rintro σ H4 ⟨⟨v4, v5, v6, v7, v8, v9, v10, v11, v12, v13, rfl⟩, s4, d0, d1, d2, d4, r0, r1, r2⟩
      -- forms
      refine ⟨_, rfl, R, rfl, ⟨_, SqL.of d4⟩, fun L hL => ?_⟩
      refine lc_list (K := K) (a := R) (xs := [V.ref d0, .ref d1, .ref d2]) (fun i H' => Same H4 H' ∧ ∃ ps : List Addr, H' L = some (.lst (ps.map V.ref)) ∧ ps.length = i ∧ ∀ (j : Nat) (x d : Addr), ps[j]? = some x → [d0, d1, d2][j]? = some d → FoE A H' x d) ⟨Same.new hL, [], upd_same, rfl, fun j x d h => (by cases h)⟩ ?_ ?_ ?_
      · rintro i H' _ ⟨s5, _⟩
        exact SqL.of (s5 _ _ d4)
      · rintro i y H5 hi ⟨s5, ps, l5, hl5, hfo⟩
        obtain ⟨d, hw, rfl, hrow⟩ : ∃ d, [d0, d1, d2][i]? = some d ∧ y = .ref d ∧ RowAt H4 d := by
          match i, hi with
          | 0, hi => cases hi; exact ⟨d0, rfl, rfl, r0⟩
          | 1, hi => cases hi; exact ⟨d1, rfl, rfl, r1⟩
          | 2, hi => cases hi; exact ⟨d2, rfl, rfl, r2⟩
          | n + 3, hi => simp at hi
        obtain ⟨ks, f, hd, nd, hlk, ok⟩ := hrow.same s5
        refine ⟨rfl, _, rfl, ?_⟩
        intro x dx hx hdx ne
        have s30 : Same H5 (upd (upd H5 dx (.own x)) x (.ins A.C_Form dx [])) := fun b o e => by
          rw [upd_ne (ne_of_none e hx), upd_ne (ne_of_none e hdx)]
          exact e
        refine ⟨x, dx, d, ks, f, rfl, upd_same, s30 _ _ hd, nd, by omega, ok, fun ks' H6 pm pw k6 F6 => ⟨rfl, ?_⟩⟩
        have s6 : Same H5 H6 := fun b o e => k6 b o (s30 b o e) (ne_of_none e hx)
        have l6 := s6 _ _ l5
        have mutF : ∀ {x d : Addr}, FoE A H6 x d → ∀ o, FoE A (upd H6 L o) x d := fun {x d} h o => by
          obtain ⟨ks', ks, f, ⟨F, D, pm, lt, len, ok⟩⟩ := h
          obtain ⟨dx, dd, hp, hdd⟩ := F
          exact ⟨ks', ks, f, ⟨dx, dd, by rw [upd_ne (ne_of hp l6 (by intro z; cases z))]; exact hp, by rw [upd_ne (ne_of hdd l6 (by intro z; cases z))]; exact hdd⟩, by rw [upd_ne (ne_of D l6 (by intro z; cases z))]; exact D, pm, lt, len, ok⟩
        refine ⟨_, l6, by rw [List.length_map]; exact sz_lt (by have := (List.getElem?_eq_some_iff.mp hw).1; simp at this; omega), (s5.trans s6).mut hL, ps ++ [x], ?_, ?_, ?_⟩
        · rw [upd_same, List.map_append]
          rfl
        · rw [List.length_append, hl5]
          rfl
        · intro j x' d' h1 h2
          by_cases c : j < ps.length
          · rw [List.getElem?_append_left c] at h1
            exact mutF ((hfo j x' d' h1 h2).same s6) _
          · rw [List.getElem?_append_right (by omega)] at h1
            have e : j - ps.length = 0 := by
              have := (List.getElem?_eq_some_iff.mp h1).1
              simp at this
              omega
            rw [e] at h1
            cases h1
            rw [show j = i by omega, hw] at h2
            cases h2
            exact mutF ⟨ks', ks, f, F6, s6 _ _ hd, pm, le_lt pw (pm.nodup_iff.mpr nd), by rw [pm.length_eq]; exact hlk, fun k hk => ok k (pm.mem_iff.mp hk)⟩ _
      rintro H5 ⟨s5, ps, l5, hl5, hfo⟩
      match ps, hl5 with
      | [p0, p1, p2], _ => ?_
      have f0 := hfo 0 p0 d0 rfl rfl
      have f1 := hfo 1 p1 d1 rfl rfl
      have f2 := hfo 2 p2 d2 rfl rfl
      have l5' : H5 L = some (.lst [.ref p0, .ref p1, .ref p2]) := l5
      have d5 := s5 _ _ d4
      have s15 := s4.trans s5
      clear hfo l5 r0 r1 r2 d4 s5 s4 hL hl5
      have pick : ∀ j : Nat, j < 3 → ∃ x d : Addr, atI [V.ref p0, .ref p1, .ref p2] (0 + (j : Int)) = some (.ref x) ∧ atI [V.ref d0, .ref d1, .ref d2] (0 + (j : Int)) = some (.ref d) ∧ FoE A H5 x d := fun j hj => by
        match j, hj with
        | 0, _ => exact ⟨p0, d0, rfl, rfl, f0⟩
        | 1, _ => exact ⟨p1, d1, rfl, rfl, f1⟩
        | 2, _ => exact ⟨p2, d2, rfl, rfl, f2⟩
        | n + 3, hj => omega
      -- for at in range(3): for other in range(3): ..
      refine ⟨3, rfl, by decide, by decide, for_range (lo := 0) (n := 3) (fun j σ H' => (∃ v4 v5 v7 v8 v9 v10 v11 v12 v13, σ = [some (.ref a), some (.int (0 + (i : Int))), some (.ref p), some (.ref R), v4, v5, some (.ref L), v7, v8, v9, v10, v11, v12, v13]) ∧ Same H5 H') ⟨⟨_, _, _, _, _, _, _, _, _, rfl⟩, Same.refl H5⟩ ?_ ?_⟩
      · rintro j σ H6 hj ⟨⟨v4, v5, v7, v8, v9, v10, v11, v12, v13, rfl⟩, s6⟩
        obtain ⟨x, d, hx, hd, fx⟩ := pick j hj
        refine ⟨3, rfl, by decide, by decide, for_range (lo := 0) (n := 3) (fun j2 σ H' => (∃ v4 v5 v7 v9 v10 v11 v12 v13, σ = [some (.ref a), some (.int (0 + (i : Int))), some (.ref p), some (.ref R), v4, v5, some (.ref L), v7, some (.int (0 + (j : Int))), v9, v10, v11, v12, v13]) ∧ Same H5 H') ⟨⟨_, _, _, _, _, _, _, _, rfl⟩, s6⟩ ?_ ?_⟩
        · rintro j2 σ H7 hj2 ⟨⟨v4, v5, v7, v9, v10, v11, v12, v13, rfl⟩, s7⟩
          obtain ⟨y, e, hy, he, fy⟩ := pick j2 hj2
          obtain ⟨ks', ks, f, Fx⟩ := fx.same s7
          obtain ⟨ls', ls, g, Fy⟩ := fy.same s7
          have L7 := SqL.of (K := K) (s7 _ _ l5')
          have R7 := SqL.of (K := K) (s7 _ _ d5)
          refine ⟨_, rfl, _, rfl, L, _, _, _, rfl, rfl, L7, hx, _, rfl, _, rfl, L, _, _, _, rfl, rfl, L7, hy, _, rfl, _, rfl, R, _, _, _, rfl, rfl, R7, hd, _, rfl, _, rfl, R, _, _, _, rfl, rfl, R7, he, x, y, d, e, ks', ks, ls', ls, f, g, rfl, Fx, Fy, fun H8 s8 => ⟨_, rfl, ?_⟩⟩
          exact iteF ⟨⟨_, _, _, _, _, _, _, _, rfl⟩, s7.trans s8⟩
        · rintro σ H7 ⟨⟨v4, v5, v7, v9, v10, v11, v12, v13, rfl⟩, s7⟩
          exact ⟨⟨_, _, _, _, _, _, _, _, _, rfl⟩, s7⟩
      clear pick
      rintro σ H6 ⟨⟨v4, v5, v7, v8, v9, v10, v11, v12, v13, rfl⟩, s6⟩
      obtain ⟨k0', k0, h0, F0⟩ := f0.same s6
      obtain ⟨k1', k1, h1, F1⟩ := f1.same s6
      obtain ⟨k2', k2, h2, F2⟩ := f2.same s6
      have l0 := F0.len
      have l1 := F1.len
      have l2 := F2.len
      have l6 := s6 _ _ l5'
      have d6 := s6 _ _ d5
      have s16 := s15.trans s6
      clear f0 f1 f2 l5' d5 s15 s6
      -- one, two, three = forms
      refine ⟨_, rfl, L, _, rfl, SqL.of l6, rfl, _, _, rfl, _, _, rfl, _, _, rfl, rfl, ?_⟩
      have a01 := andK_len k0' k1'
      have a12 := andK_len k1' k2'
      have b01 := andK_lt (ls := k1') F0.lt
      have b12 := andK_lt (ls := k2') F1.lt
      have o01 := okMin F0.ok F1.ok
      have o12 := okMin F1.ok F2.ok
      -- one & two & three != one & (two & three)
      refine ⟨_, rfl, _, rfl, rd_and F0.F F1.F F0.lt (by omega) F0.ok F1.ok fun r H7 _ s7 R7 => ?_⟩
      have G0 := F0.same s7
      have G1 := F1.same s7
      have G2 := F2.same s7
      refine ⟨_, rfl, rd_and R7 G2.F b01 (by omega) o01 F2.ok fun r2 H8 _ s8 R8 => ?_⟩
      have G0 := G0.same s8
      have G1 := G1.same s8
      have G2 := G2.same s8
      refine ⟨_, rfl, _, rfl, _, rfl, rd_and G1.F G2.F F1.lt (by omega) F1.ok F2.ok fun r3 H9 _ s9 R9 => ?_⟩
      have G0 := G0.same s9
      have G1 := G1.same s9
      have G2 := G2.same s9
      refine rd_and G0.F R9 F0.lt (by omega) F0.ok o12 fun r4 H10 _ s10 R10 => ?_
      have G0 := G0.same s10
      have G1 := G1.same s10
      have G2 := G2.same s10
      have t10 := ((s7.trans s8).trans s9).trans s10
      have e1 : eqW (andK (andK k0' k1') k2') (minF (minF h0 h1) h2) (andK k0' (andK k1' k2')) (minF h0 (minF h1 h2)) = true := (eqW_iff (lt_nd (andK_lt b01)) (lt_nd (andK_lt F0.lt))).mpr ⟨fun k => by rw [andK_mem, andK_mem, andK_mem, andK_mem]; exact and_assoc, fun k _ => minW_assoc _ _ _⟩
      refine rd_ne (R8.same (s9.trans s10)) R10 ?_
      rw [e1]
      refine ⟨_, rfl, ifF rfl ?_⟩
      -- one & one != one
      refine ⟨_, rfl, _, rfl, rd_and G0.F G0.F F0.lt (by omega) F0.ok F0.ok fun r5 H11 _ s11 R11 => ?_⟩
      have G0 := G0.same s11
      have G1 := G1.same s11
      have G2 := G2.same s11
      have e2 : eqW (andK k0' k0') (minF h0 h0) k0' h0 = true := (eqW_iff (lt_nd (andK_lt F0.lt)) (lt_nd F0.lt)).mpr ⟨fun k => by rw [andK_mem]; exact and_self_iff, fun k _ => minW_self _⟩
      refine ⟨_, rfl, rd_ne R11 G0.F ?_⟩
      rw [e2]
      refine ⟨_, rfl, ifF rfl ?_⟩
      have t11 := t10.trans s11
      -- three.is_under(one) and ..
      refine ⟨fun σ H' => (∃ v4 v5 v7 v8 v9 v10 v11 v12 v13, σ = [some (.ref a), some (.int (0 + (i : Int))), some (.ref p), some (.ref R), v4, v5, some (.ref L), v7, v8, v9, v10, v11, v12, v13]) ∧ Same H6 H', ?_, ?_⟩
      · obtain ⟨cx, cd, hc⟩ := G2.F.ins
        refine ⟨_, rfl, p2, cx, _, rfl, hc, by first | rfl | kernel_rfl, _, rfl, p2, p0, _, _, _, _, rfl, G2.F, G0.F, by omega, fun H12 s12 => ⟨_, rfl, ?_⟩⟩
        have G0 := G0.same s12
        have G1 := G1.same s12
        have G2 := G2.same s12
        have t12 := t11.trans s12
        cases c0 : undW k2' h2 k0' h0 with
        | false => exact ifF rfl (ifF rfl ⟨⟨_, _, _, _, _, _, _, _, _, rfl⟩, t12⟩)
        | true =>
          refine ifT rfl ?_
          obtain ⟨cx, cd, hc⟩ := G2.F.ins
          refine ⟨_, rfl, p2, cx, _, rfl, hc, by first | rfl | kernel_rfl, _, rfl, p2, p1, _, _, _, _, rfl, G2.F, G1.F, by omega, fun H13 s13 => ⟨_, rfl, ?_⟩⟩
          have G0 := G0.same s13
          have G1 := G1.same s13
          have G2 := G2.same s13
          have t13 := t12.trans s13
          cases c1 : undW k2' h2 k1' h1 with
          | false => exact ifF rfl (ifF rfl ⟨⟨_, _, _, _, _, _, _, _, _, rfl⟩, t13⟩)
          | true =>
            refine ifT rfl ?_
            obtain ⟨cx, cd, hc⟩ := G2.F.ins
            refine ⟨_, rfl, p2, cx, _, rfl, hc, by first | rfl | kernel_rfl, _, rfl, _, rfl, rd_and G0.F G1.F F0.lt (by omega) F0.ok F1.ok fun r6 H14 _ s14 R14 => ?_⟩
            have G2 := G2.same s14
            refine ⟨p2, r6, _, _, _, _, rfl, G2.F, R14, by omega, fun H15 s15 => ⟨_, rfl, ?_⟩⟩
            have e3 : undW k2' h2 (andK k0' k1') (minF h0 h1) = true := undW_iff.mpr fun k hk => ⟨andK_mem.mpr ⟨(undW_iff.mp c0 k hk).1, (undW_iff.mp c1 k hk).1⟩, (minW_iff _ _ _).mpr ⟨(undW_iff.mp c0 k hk).2, (undW_iff.mp c1 k hk).2⟩⟩
            rw [e3]
            exact ifF rfl ⟨⟨_, _, _, _, _, _, _, _, _, rfl⟩, (t13.trans s14).trans s15⟩
      clear G0 G1 G2 t11 t10 R11 R10 R9 R8 R7 s7 s8 s9 s10 s11
      rintro σ H7 ⟨⟨v4, v5, v7, v8, v9, v10, v11, v12, v13, rfl⟩, s7⟩
      have G0 := F0.same s7
      have G1 := F1.same s7
      have G2 := F2.same s7
      have l7 := s7 _ _ l6
      have d7 := s7 _ _ d6
      -- [_law_read(form) for form in forms] != rows
      refine ⟨_, rfl, L, rfl, ⟨_, SqL.of l7⟩, fun D hD => ?_⟩
      refine lc_list (K := K) (a := L) (xs := [V.ref p0, .ref p1, .ref p2]) (fun i H' => Same H7 H' ∧ ∃ es : List Addr, H' D = some (.lst (es.map V.ref)) ∧ es.length = i ∧ ∀ (j : Nat) (e d : Addr), es[j]? = some e → [d0, d1, d2][j]? = some d → H7 e = none ∧ ∃ (ks' ks : List Int) (f : Int → Wd), H' e = some (.dK (DictW ks' f)) ∧ H7 d = some (.dK (DictW ks f)) ∧ ks'.Perm ks ∧ ks.Nodup) ⟨Same.new hD, [], upd_same, rfl, fun j x d h => (by cases h)⟩ ?_ ?_ ?_
      · rintro i H' _ ⟨s8, _⟩
        exact SqL.of (s8 _ _ l7)
      · rintro i y H8 hi ⟨s8, es, dD, hle, hes⟩
        obtain ⟨x, d, ks', ks, f, rfl, hw, Fx⟩ : ∃ (x d : Addr) (ks' ks : List Int) (f : Int → Wd), y = .ref x ∧ [d0, d1, d2][i]? = some d ∧ Fo A H7 x d ks' ks f := by
          match i, hi with
          | 0, hi => cases hi; exact ⟨_, d0, _, _, _, rfl, rfl, G0⟩
          | 1, hi => cases hi; exact ⟨_, d1, _, _, _, rfl, rfl, G1⟩
          | 2, hi => cases hi; exact ⟨_, d2, _, _, _, rfl, rfl, G2⟩
          | n + 3, hi => simp at hi
        refine ⟨rfl, _, rfl, x, ks', f, rfl, (Fx.same s8).F, lt_nd Fx.lt, by have := Fx.len; omega, fun e H9 he s9 h9 => ?_⟩
        have d9 := s9 _ _ dD
        refine ⟨_, d9, by rw [List.length_map]; exact sz_lt (by have := (List.getElem?_eq_some_iff.mp hw).1; simp at this; omega), (s8.trans s9).mut hD, es ++ [e], ?_, ?_, ?_⟩
        · rw [upd_same, List.map_append]
          rfl
        · rw [List.length_append, hle]
          rfl
        · intro j e' d' h1 h2
          by_cases c : j < es.length
          · rw [List.getElem?_append_left c] at h1
            obtain ⟨z, ks1, ks2, f1, y1, y2, y3, y4⟩ := hes j e' d' h1 h2
            have y5 := s9 _ _ y1
            exact ⟨z, ks1, ks2, f1, by rw [upd_ne (ne_of y5 d9 (by intro z; cases z))]; exact y5, y2, y3, y4⟩
          · rw [List.getElem?_append_right (by omega)] at h1
            have e0 : j - es.length = 0 := by
              have := (List.getElem?_eq_some_iff.mp h1).1
              simp at this
              omega
            rw [e0] at h1
            cases h1
            rw [show j = i by omega, hw] at h2
            cases h2
            exact ⟨s8.free he, ks', ks, f, by rw [upd_ne (ne_of h9 d9 (by intro z; cases z))]; exact h9, Fx.D, Fx.pm, Fx.nd⟩
      · rintro H8 ⟨s8, es, dD, hle, hes⟩
        have d8 := s8 _ _ d7
        refine ⟨_, rfl, D, R, es, [d0, d1, d2], rfl, rfl, dD, d8, hle, fun j e d h1 h2 => ?_, ⟨_, rfl, ifF rfl ⟨⟨_, _, _, _, _, _, _, _, _, _, _, _, _, rfl⟩, ((s1.trans s16).trans s7).trans s8⟩⟩⟩
        obtain ⟨z, ks1, ks2, f1, y1, y2, y3, y4⟩ := hes j e d h1 h2
        refine ⟨fun x => (by rw [x, y2] at z; cases z), _, _, y1, s8 _ _ y2, dw_flat _ _, dw_flat2 _ _, ?_, ?_⟩
        · rw [dw_len, dw_len]
          exact y3.length_eq
        · have e0 := dw_eq ks1 ks2 f1 f1
          rw [(eqW_iff (y3.nodup_iff.mpr y4) y4).mpr ⟨fun k => y3.mem_iff, fun _ _ => rfl⟩, Bool.and_eq_true] at e0
          exact e0.2
    · rintro σ H1 ⟨⟨v1, v2, v3, v4, v5, v6, v7, v8, v9, v10, v11, v12, v13, rfl⟩, s1⟩
      exact q H1

end
theorem all_mk {w : World} {K : PySem.W.Frag} {h : Heap} {mg : Str → Option Value} {fa : Addr} (X : K.In h) (G : h.Ns mainGlobals mg) (hfa : mg "law" = some (.ref fa))
    {C_InvalidNumber i_InvalidNumber N_InvalidNumber cda_InvalidNumber cc_InvalidNumber : Addr} {nm_InvalidNumber q_InvalidNumber qu_InvalidNumber ms_InvalidNumber fl_InvalidNumber : Str} {bs_InvalidNumber bm_InvalidNumber sub_InvalidNumber : List Value} {sn_InvalidNumber : List Str} {ab_InvalidNumber : Bool} {col_InvalidNumber : Option Bool} {dd_InvalidNumber od_InvalidNumber an_InvalidNumber e1_InvalidNumber e2_InvalidNumber : Option Addr} {m0_InvalidNumber m1_InvalidNumber m2_InvalidNumber m3_InvalidNumber m5_InvalidNumber : Option Value} {oc_InvalidNumber dc_InvalidNumber pm_InvalidNumber ct_InvalidNumber f1_InvalidNumber f2_InvalidNumber : Value} {sl_InvalidNumber s1_InvalidNumber s2_InvalidNumber : Array (Option Value)} {vs_InvalidNumber : Array Value} {tf_InvalidNumber : Tok} {p1_InvalidNumber p2_InvalidNumber q1_InvalidNumber q2_InvalidNumber q3_InvalidNumber q4_InvalidNumber q5_InvalidNumber q6_InvalidNumber q7_InvalidNumber q8_InvalidNumber q9_InvalidNumber q10_InvalidNumber : Pos}
    {C_Form : Addr}
    {f_is_integer : Addr} {od_is_integer an_is_integer : Option Addr} {sl_is_integer : Array (Option Value)} {oc_is_integer kV_is_integer dc_is_integer pm_is_integer cd_is_integer ct_is_integer : Value}
    {f_is_count : Addr} {od_is_count an_is_count : Option Addr} {sl_is_count : Array (Option Value)} {oc_is_count kV_is_count dc_is_count pm_is_count cd_is_count ct_is_count : Value}
    {f_is_width : Addr} {od_is_width an_is_width : Option Addr} {sl_is_width : Array (Option Value)} {oc_is_width kV_is_width dc_is_width pm_is_width cd_is_width ct_is_width : Value}
    {f_is_lesser : Addr} {od_is_lesser an_is_lesser : Option Addr} {sl_is_lesser : Array (Option Value)} {oc_is_lesser kV_is_lesser dc_is_lesser pm_is_lesser cd_is_lesser ct_is_lesser : Value}
    {f_lesser : Addr} {od_lesser an_lesser : Option Addr} {sl_lesser : Array (Option Value)} {oc_lesser kV_lesser dc_lesser pm_lesser cd_lesser ct_lesser : Value}
    {f_Form___init__ : Addr} {od_Form___init__ an_Form___init__ : Option Addr} {sl_Form___init__ : Array (Option Value)} {oc_Form___init__ kV_Form___init__ dc_Form___init__ pm_Form___init__ cd_Form___init__ ct_Form___init__ : Value}
    {f_Form_shifts : Addr} {od_Form_shifts an_Form_shifts : Option Addr} {sl_Form_shifts : Array (Option Value)} {oc_Form_shifts kV_Form_shifts dc_Form_shifts pm_Form_shifts cd_Form_shifts ct_Form_shifts : Value}
    {f_Form___contains__ : Addr} {od_Form___contains__ an_Form___contains__ : Option Addr} {sl_Form___contains__ : Array (Option Value)} {oc_Form___contains__ kV_Form___contains__ dc_Form___contains__ pm_Form___contains__ cd_Form___contains__ ct_Form___contains__ : Value}
    {f_Form___getitem__ : Addr} {od_Form___getitem__ an_Form___getitem__ : Option Addr} {sl_Form___getitem__ : Array (Option Value)} {oc_Form___getitem__ kV_Form___getitem__ dc_Form___getitem__ pm_Form___getitem__ cd_Form___getitem__ ct_Form___getitem__ : Value}
    {f_Form___eq__ : Addr} {od_Form___eq__ an_Form___eq__ : Option Addr} {sl_Form___eq__ : Array (Option Value)} {oc_Form___eq__ kV_Form___eq__ dc_Form___eq__ pm_Form___eq__ cd_Form___eq__ ct_Form___eq__ : Value}
    {f_Form___and__ : Addr} {od_Form___and__ an_Form___and__ : Option Addr} {sl_Form___and__ : Array (Option Value)} {oc_Form___and__ kV_Form___and__ dc_Form___and__ pm_Form___and__ cd_Form___and__ ct_Form___and__ : Value}
    {f_Form_is_under : Addr} {od_Form_is_under an_Form_is_under : Option Addr} {sl_Form_is_under : Array (Option Value)} {oc_Form_is_under kV_Form_is_under dc_Form_is_under pm_Form_is_under cd_Form_is_under ct_Form_is_under : Value}
    {f__law_pool : Addr} {od__law_pool an__law_pool : Option Addr} {sl__law_pool : Array (Option Value)} {oc__law_pool kV__law_pool dc__law_pool pm__law_pool cd__law_pool ct__law_pool : Value}
    {f__law_draw : Addr} {od__law_draw an__law_draw : Option Addr} {sl__law_draw : Array (Option Value)} {oc__law_draw kV__law_draw dc__law_draw pm__law_draw cd__law_draw ct__law_draw : Value}
    {f__law_width : Addr} {od__law_width an__law_width : Option Addr} {sl__law_width : Array (Option Value)} {oc__law_width kV__law_width dc__law_width pm__law_width cd__law_width ct__law_width : Value}
    {f__law_widths_by : Addr} {od__law_widths_by an__law_widths_by : Option Addr} {sl__law_widths_by : Array (Option Value)} {oc__law_widths_by kV__law_widths_by dc__law_widths_by pm__law_widths_by cd__law_widths_by ct__law_widths_by : Value}
    {f__law_at_most : Addr} {od__law_at_most an__law_at_most : Option Addr} {sl__law_at_most : Array (Option Value)} {oc__law_at_most kV__law_at_most dc__law_at_most pm__law_at_most cd__law_at_most ct__law_at_most : Value}
    {f__law_lesser : Addr} {od__law_lesser an__law_lesser : Option Addr} {sl__law_lesser : Array (Option Value)} {oc__law_lesser kV__law_lesser dc__law_lesser pm__law_lesser cd__law_lesser ct__law_lesser : Value}
    {f__law_under : Addr} {od__law_under an__law_under : Option Addr} {sl__law_under : Array (Option Value)} {oc__law_under kV__law_under dc__law_under pm__law_under cd__law_under ct__law_under : Value}
    {f__law_read : Addr} {od__law_read an__law_read : Option Addr} {sl__law_read : Array (Option Value)} {oc__law_read kV__law_read dc__law_read pm__law_read cd__law_read ct__law_read : Value}
    {f__law_pair_right : Addr} {od__law_pair_right an__law_pair_right : Option Addr} {sl__law_pair_right : Array (Option Value)} {oc__law_pair_right kV__law_pair_right dc__law_pair_right pm__law_pair_right cd__law_pair_right ct__law_pair_right : Value}
    {f_law : Addr} {od_law an_law : Option Addr} {sl_law : Array (Option Value)} {oc_law kV_law dc_law pm_law cd_law ct_law : Value}
    (opq0 : PySem.W.nsIn K cStatics "thirdparty.any" = some none)
    (sup0 : PySem.W.nsIn K mainGlobals "super" = some none)
    (nsup0 : (PRG.main.scope.names.lookup ("super" : Str)).isSome = false)
    (aC_InvalidNumber : PySem.W.nsIn K mainGlobals "InvalidNumber" = some (some (.ref C_InvalidNumber)))
    (xL_InvalidNumber : K.lookup C_InvalidNumber = some (excClassObj nm_InvalidNumber q_InvalidNumber C_InvalidNumber N_InvalidNumber bs_InvalidNumber bm_InvalidNumber true sn_InvalidNumber sub_InvalidNumber ab_InvalidNumber col_InvalidNumber dd_InvalidNumber m0_InvalidNumber m1_InvalidNumber m2_InvalidNumber m3_InvalidNumber m5_InvalidNumber "ValueError.__new__"))
    (rf_InvalidNumber : PySem.HandSPX.refsVE bm_InvalidNumber = true)
    (sa_InvalidNumber : PySem.W.findIn K (.ref C_InvalidNumber) "__setattr__" = some (some (.builtin "object.__setattr__")))
    (ga_InvalidNumber : PySem.W.findIn K (.ref C_InvalidNumber) "__getattribute__" = some (some (.builtin "BaseException.__getattribute__")))
    (gg_InvalidNumber : PySem.W.findIn K (.ref C_InvalidNumber) "__getattr__" = some none)
    (nb_InvalidNumber : PySem.W.findIn K (.ref C_InvalidNumber) "value" = some none)
    (ai_InvalidNumber : PySem.W.findIn K (.ref C_InvalidNumber) "__init__" = some (some (.ref i_InvalidNumber)))
    (ti_InvalidNumber : PySem.W.typeIn K (.ref i_InvalidNumber) = some (.type "function"))
    (li_InvalidNumber : K.lookup i_InvalidNumber = some ⟨oc_InvalidNumber, od_InvalidNumber, .func (PySem.W.ksFn "__init__" qu_InvalidNumber (PySem.ErX.iA "value" p1_InvalidNumber p2_InvalidNumber) (PySem.ErX.iB "value" ms_InvalidNumber q1_InvalidNumber q2_InvalidNumber q3_InvalidNumber q4_InvalidNumber q5_InvalidNumber q6_InvalidNumber q7_InvalidNumber q8_InvalidNumber q9_InvalidNumber q10_InvalidNumber) (PySem.ErX.iS "value") .none .none dc_InvalidNumber pm_InvalidNumber an_InvalidNumber (.ref cda_InvalidNumber) ct_InvalidNumber cc_InvalidNumber), sl_InvalidNumber⟩)
    (ci_InvalidNumber : PySem.W.codeIn K (.ref cda_InvalidNumber) qu_InvalidNumber = true)
    (ld_InvalidNumber : K.lookup cda_InvalidNumber = some ⟨f1_InvalidNumber, e1_InvalidNumber, .fields vs_InvalidNumber, s1_InvalidNumber⟩)
    (vs2_InvalidNumber : vs_InvalidNumber[2]? = some (.str fl_InvalidNumber tf_InvalidNumber))
    (hf_InvalidNumber : ((PRG.main.file : Str) == fl_InvalidNumber) = true)
    (lc_InvalidNumber : K.lookup cc_InvalidNumber = some ⟨f2_InvalidNumber, e2_InvalidNumber, .cell (some (.ref C_InvalidNumber)), s2_InvalidNumber⟩)
    (ev_InvalidNumber : PySem.ErX.SupEv ms_InvalidNumber q1_InvalidNumber q2_InvalidNumber q3_InvalidNumber q4_InvalidNumber q5_InvalidNumber)
    (kC_InvalidNumber : PySem.W.keepIn K (.ref C_InvalidNumber) = true)
    (eC_InvalidNumber : PySem.W.subIn K (.ref C_InvalidNumber) (.type "BaseException") = some true)
    (vC_InvalidNumber : PySem.W.subIn K (.ref C_InvalidNumber) (.type "ValueError") = some true)
    (tC_InvalidNumber : PySem.W.typeIn K (.ref C_InvalidNumber) = some (.type "type"))
    (hC_InvalidNumber : PySem.W.hasDictIn K C_InvalidNumber = true)
    (iC_InvalidNumber : PySem.W.isClsIn K C_InvalidNumber = true)
    (sC_InvalidNumber : PySem.W.subIn K (.ref C_InvalidNumber) (.ref C_InvalidNumber) = some true)
    (me_InvalidNumber : PySem.W.mroIn K C_InvalidNumber (.ref C_InvalidNumber) = some true)
    (al_InvalidNumber : PySem.W.ks_superIn K C_InvalidNumber C_InvalidNumber "__init__" = some (some (.builtin "ValueError.__init__")))
    (aC_Form : PySem.W.nsIn K mainGlobals "Form" = some (some (.ref C_Form)))
    (pg_Form : PySem.W.plainGet K C_Form Str.empty = true)
    (hd_Form : PySem.W.hasDictIn K C_Form = true)
    (po_Form : PySem.W.plainOver K C_Form = true)
    (sa_Form : PySem.W.findIn K (.ref C_Form) "__setattr__" = some (some (.builtin "object.__setattr__")))
    (nf_Form_kept_values : PySem.W.findIn K (.ref C_Form) "kept_values" = some none)
    (mk_Form : PySem.W.makesIn K C_Form = true)
    (kc_Form : PySem.W.keepIn K (.ref C_Form) = true)
    (ic_Form : PySem.W.findIn K (.ref C_Form) "__class__" = some (some (.builtin "object.__class__")))
    (in_Form : PySem.W.specialIn K (.builtin "object.__class__") "__get__" = some (some (.builtin "getset_descriptor.__get__")))
    (ik_Form : PySem.W.takesIn K (.builtin "object.__class__") = some true)
    (im_Form : PySem.W.mroIn K C_Form (.type "object") = some true)
    (iq0_Form : PySem.W.kitOne K (.ref C_Form) (.type "int") = some false)
    (iq1_Form : PySem.W.kitOne K (.ref C_Form) (.type "bool") = some false)
    (iq2_Form : PySem.W.kitOne K (.ref C_Form) (.type "str") = some false)
    (iq3_Form : PySem.W.kitOne K (.ref C_Form) (.type "tuple") = some false)
    (iq4_Form : PySem.W.kitOne K (.ref C_Form) (.type "list") = some false)
    (iq5_Form : PySem.W.kitOne K (.ref C_Form) (.type "dict") = some false)
    (ne_Form : PySem.W.findIn K (.ref C_Form) "__ne__" = some (some (.builtin "object.__ne__")))
    (so_Form___and__ : PySem.W.selfFirst K C_Form = true)
    (a_is_integer : PySem.W.nsIn K mainGlobals "is_integer" = some (some (.ref f_is_integer)))
    (l_is_integer : K.lookup f_is_integer = some ⟨oc_is_integer, od_is_integer, .func (PySem.W.fnOf "is_integer" "is_integer" (defArgs s_is_integer) (defBody s_is_integer) (defScope s_is_integer) .none kV_is_integer dc_is_integer pm_is_integer an_is_integer cd_is_integer ct_is_integer), sl_is_integer⟩)
    (c_is_integer : PySem.W.codeIn K cd_is_integer "is_integer" = true)
    (k_is_integer : PySem.W.keepIn K (.ref f_is_integer) = true)
    (a_is_count : PySem.W.nsIn K mainGlobals "is_count" = some (some (.ref f_is_count)))
    (l_is_count : K.lookup f_is_count = some ⟨oc_is_count, od_is_count, .func (PySem.W.fnOf "is_count" "is_count" (defArgs s_is_count) (defBody s_is_count) (defScope s_is_count) .none kV_is_count dc_is_count pm_is_count an_is_count cd_is_count ct_is_count), sl_is_count⟩)
    (c_is_count : PySem.W.codeIn K cd_is_count "is_count" = true)
    (k_is_count : PySem.W.keepIn K (.ref f_is_count) = true)
    (a_is_width : PySem.W.nsIn K mainGlobals "is_width" = some (some (.ref f_is_width)))
    (l_is_width : K.lookup f_is_width = some ⟨oc_is_width, od_is_width, .func (PySem.W.fnOf "is_width" "is_width" (defArgs s_is_width) (defBody s_is_width) (defScope s_is_width) .none kV_is_width dc_is_width pm_is_width an_is_width cd_is_width ct_is_width), sl_is_width⟩)
    (c_is_width : PySem.W.codeIn K cd_is_width "is_width" = true)
    (k_is_width : PySem.W.keepIn K (.ref f_is_width) = true)
    (a_is_lesser : PySem.W.nsIn K mainGlobals "is_lesser" = some (some (.ref f_is_lesser)))
    (l_is_lesser : K.lookup f_is_lesser = some ⟨oc_is_lesser, od_is_lesser, .func (PySem.W.fnOf "is_lesser" "is_lesser" (defArgs s_is_lesser) (defBody s_is_lesser) (defScope s_is_lesser) .none kV_is_lesser dc_is_lesser pm_is_lesser an_is_lesser cd_is_lesser ct_is_lesser), sl_is_lesser⟩)
    (c_is_lesser : PySem.W.codeIn K cd_is_lesser "is_lesser" = true)
    (k_is_lesser : PySem.W.keepIn K (.ref f_is_lesser) = true)
    (a_lesser : PySem.W.nsIn K mainGlobals "lesser" = some (some (.ref f_lesser)))
    (l_lesser : K.lookup f_lesser = some ⟨oc_lesser, od_lesser, .func (PySem.W.fnOf "lesser" "lesser" (defArgs s_lesser) (defBody s_lesser) (defScope s_lesser) .none kV_lesser dc_lesser pm_lesser an_lesser cd_lesser ct_lesser), sl_lesser⟩)
    (c_lesser : PySem.W.codeIn K cd_lesser "lesser" = true)
    (k_lesser : PySem.W.keepIn K (.ref f_lesser) = true)
    (a_Form___init__ : PySem.W.findIn K (.ref C_Form) "__init__" = some (some (.ref f_Form___init__)))
    (i_Form___init__ : PySem.W.isFn K (.ref f_Form___init__) = true)
    (l_Form___init__ : K.lookup f_Form___init__ = some ⟨oc_Form___init__, od_Form___init__, .func (PySem.W.fnOf "__init__" "Form.__init__" (defArgs s_Form___init__) (defBody s_Form___init__) (defScope s_Form___init__) .none kV_Form___init__ dc_Form___init__ pm_Form___init__ an_Form___init__ cd_Form___init__ ct_Form___init__), sl_Form___init__⟩)
    (c_Form___init__ : PySem.W.codeIn K cd_Form___init__ "Form.__init__" = true)
    (k_Form___init__ : PySem.W.keepIn K (.ref f_Form___init__) = true)
    (a_Form_shifts : PySem.W.findIn K (.ref C_Form) "shifts" = some (some (.ref f_Form_shifts)))
    (i_Form_shifts : PySem.W.isFn K (.ref f_Form_shifts) = true)
    (l_Form_shifts : K.lookup f_Form_shifts = some ⟨oc_Form_shifts, od_Form_shifts, .func (PySem.W.fnOf "shifts" "Form.shifts" (defArgs s_Form_shifts) (defBody s_Form_shifts) (defScope s_Form_shifts) .none kV_Form_shifts dc_Form_shifts pm_Form_shifts an_Form_shifts cd_Form_shifts ct_Form_shifts), sl_Form_shifts⟩)
    (c_Form_shifts : PySem.W.codeIn K cd_Form_shifts "Form.shifts" = true)
    (k_Form_shifts : PySem.W.keepIn K (.ref f_Form_shifts) = true)
    (a_Form___contains__ : PySem.W.findIn K (.ref C_Form) "__contains__" = some (some (.ref f_Form___contains__)))
    (i_Form___contains__ : PySem.W.isFn K (.ref f_Form___contains__) = true)
    (l_Form___contains__ : K.lookup f_Form___contains__ = some ⟨oc_Form___contains__, od_Form___contains__, .func (PySem.W.fnOf "__contains__" "Form.__contains__" (defArgs s_Form___contains__) (defBody s_Form___contains__) (defScope s_Form___contains__) .none kV_Form___contains__ dc_Form___contains__ pm_Form___contains__ an_Form___contains__ cd_Form___contains__ ct_Form___contains__), sl_Form___contains__⟩)
    (c_Form___contains__ : PySem.W.codeIn K cd_Form___contains__ "Form.__contains__" = true)
    (k_Form___contains__ : PySem.W.keepIn K (.ref f_Form___contains__) = true)
    (fn0_Form___contains__ : PySem.W.fnIn K f_Form___contains__ = true)
    (a_Form___getitem__ : PySem.W.findIn K (.ref C_Form) "__getitem__" = some (some (.ref f_Form___getitem__)))
    (i_Form___getitem__ : PySem.W.isFn K (.ref f_Form___getitem__) = true)
    (l_Form___getitem__ : K.lookup f_Form___getitem__ = some ⟨oc_Form___getitem__, od_Form___getitem__, .func (PySem.W.fnOf "__getitem__" "Form.__getitem__" (defArgs s_Form___getitem__) (defBody s_Form___getitem__) (defScope s_Form___getitem__) .none kV_Form___getitem__ dc_Form___getitem__ pm_Form___getitem__ an_Form___getitem__ cd_Form___getitem__ ct_Form___getitem__), sl_Form___getitem__⟩)
    (c_Form___getitem__ : PySem.W.codeIn K cd_Form___getitem__ "Form.__getitem__" = true)
    (k_Form___getitem__ : PySem.W.keepIn K (.ref f_Form___getitem__) = true)
    (fn0_Form___getitem__ : PySem.W.fnIn K f_Form___getitem__ = true)
    (a_Form___eq__ : PySem.W.findIn K (.ref C_Form) "__eq__" = some (some (.ref f_Form___eq__)))
    (i_Form___eq__ : PySem.W.isFn K (.ref f_Form___eq__) = true)
    (l_Form___eq__ : K.lookup f_Form___eq__ = some ⟨oc_Form___eq__, od_Form___eq__, .func (PySem.W.fnOf "__eq__" "Form.__eq__" (defArgs s_Form___eq__) (defBody s_Form___eq__) (defScope s_Form___eq__) .none kV_Form___eq__ dc_Form___eq__ pm_Form___eq__ an_Form___eq__ cd_Form___eq__ ct_Form___eq__), sl_Form___eq__⟩)
    (c_Form___eq__ : PySem.W.codeIn K cd_Form___eq__ "Form.__eq__" = true)
    (k_Form___eq__ : PySem.W.keepIn K (.ref f_Form___eq__) = true)
    (a_Form___and__ : PySem.W.findIn K (.ref C_Form) "__and__" = some (some (.ref f_Form___and__)))
    (i_Form___and__ : PySem.W.isFn K (.ref f_Form___and__) = true)
    (l_Form___and__ : K.lookup f_Form___and__ = some ⟨oc_Form___and__, od_Form___and__, .func (PySem.W.fnOf "__and__" "Form.__and__" (defArgs s_Form___and__) (defBody s_Form___and__) (defScope s_Form___and__) .none kV_Form___and__ dc_Form___and__ pm_Form___and__ an_Form___and__ cd_Form___and__ ct_Form___and__), sl_Form___and__⟩)
    (c_Form___and__ : PySem.W.codeIn K cd_Form___and__ "Form.__and__" = true)
    (k_Form___and__ : PySem.W.keepIn K (.ref f_Form___and__) = true)
    (a_Form_is_under : PySem.W.findIn K (.ref C_Form) "is_under" = some (some (.ref f_Form_is_under)))
    (i_Form_is_under : PySem.W.isFn K (.ref f_Form_is_under) = true)
    (l_Form_is_under : K.lookup f_Form_is_under = some ⟨oc_Form_is_under, od_Form_is_under, .func (PySem.W.fnOf "is_under" "Form.is_under" (defArgs s_Form_is_under) (defBody s_Form_is_under) (defScope s_Form_is_under) .none kV_Form_is_under dc_Form_is_under pm_Form_is_under an_Form_is_under cd_Form_is_under ct_Form_is_under), sl_Form_is_under⟩)
    (c_Form_is_under : PySem.W.codeIn K cd_Form_is_under "Form.is_under" = true)
    (k_Form_is_under : PySem.W.keepIn K (.ref f_Form_is_under) = true)
    (a__law_pool : PySem.W.nsIn K mainGlobals "_law_pool" = some (some (.ref f__law_pool)))
    (l__law_pool : K.lookup f__law_pool = some ⟨oc__law_pool, od__law_pool, .func (PySem.W.fnOf "_law_pool" "_law_pool" (defArgs s__law_pool) (defBody s__law_pool) (defScope s__law_pool) .none kV__law_pool dc__law_pool pm__law_pool an__law_pool cd__law_pool ct__law_pool), sl__law_pool⟩)
    (c__law_pool : PySem.W.codeIn K cd__law_pool "_law_pool" = true)
    (k__law_pool : PySem.W.keepIn K (.ref f__law_pool) = true)
    (a__law_draw : PySem.W.nsIn K mainGlobals "_law_draw" = some (some (.ref f__law_draw)))
    (l__law_draw : K.lookup f__law_draw = some ⟨oc__law_draw, od__law_draw, .func (PySem.W.fnOf "_law_draw" "_law_draw" (defArgs s__law_draw) (defBody s__law_draw) (defScope s__law_draw) .none kV__law_draw dc__law_draw pm__law_draw an__law_draw cd__law_draw ct__law_draw), sl__law_draw⟩)
    (c__law_draw : PySem.W.codeIn K cd__law_draw "_law_draw" = true)
    (k__law_draw : PySem.W.keepIn K (.ref f__law_draw) = true)
    (a__law_width : PySem.W.nsIn K mainGlobals "_law_width" = some (some (.ref f__law_width)))
    (l__law_width : K.lookup f__law_width = some ⟨oc__law_width, od__law_width, .func (PySem.W.fnOf "_law_width" "_law_width" (defArgs s__law_width) (defBody s__law_width) (defScope s__law_width) .none kV__law_width dc__law_width pm__law_width an__law_width cd__law_width ct__law_width), sl__law_width⟩)
    (c__law_width : PySem.W.codeIn K cd__law_width "_law_width" = true)
    (k__law_width : PySem.W.keepIn K (.ref f__law_width) = true)
    (a__law_widths_by : PySem.W.nsIn K mainGlobals "_law_widths_by" = some (some (.ref f__law_widths_by)))
    (l__law_widths_by : K.lookup f__law_widths_by = some ⟨oc__law_widths_by, od__law_widths_by, .func (PySem.W.fnOf "_law_widths_by" "_law_widths_by" (defArgs s__law_widths_by) (defBody s__law_widths_by) (defScope s__law_widths_by) .none kV__law_widths_by dc__law_widths_by pm__law_widths_by an__law_widths_by cd__law_widths_by ct__law_widths_by), sl__law_widths_by⟩)
    (c__law_widths_by : PySem.W.codeIn K cd__law_widths_by "_law_widths_by" = true)
    (k__law_widths_by : PySem.W.keepIn K (.ref f__law_widths_by) = true)
    (a__law_at_most : PySem.W.nsIn K mainGlobals "_law_at_most" = some (some (.ref f__law_at_most)))
    (l__law_at_most : K.lookup f__law_at_most = some ⟨oc__law_at_most, od__law_at_most, .func (PySem.W.fnOf "_law_at_most" "_law_at_most" (defArgs s__law_at_most) (defBody s__law_at_most) (defScope s__law_at_most) .none kV__law_at_most dc__law_at_most pm__law_at_most an__law_at_most cd__law_at_most ct__law_at_most), sl__law_at_most⟩)
    (c__law_at_most : PySem.W.codeIn K cd__law_at_most "_law_at_most" = true)
    (k__law_at_most : PySem.W.keepIn K (.ref f__law_at_most) = true)
    (a__law_lesser : PySem.W.nsIn K mainGlobals "_law_lesser" = some (some (.ref f__law_lesser)))
    (l__law_lesser : K.lookup f__law_lesser = some ⟨oc__law_lesser, od__law_lesser, .func (PySem.W.fnOf "_law_lesser" "_law_lesser" (defArgs s__law_lesser) (defBody s__law_lesser) (defScope s__law_lesser) .none kV__law_lesser dc__law_lesser pm__law_lesser an__law_lesser cd__law_lesser ct__law_lesser), sl__law_lesser⟩)
    (c__law_lesser : PySem.W.codeIn K cd__law_lesser "_law_lesser" = true)
    (k__law_lesser : PySem.W.keepIn K (.ref f__law_lesser) = true)
    (a__law_under : PySem.W.nsIn K mainGlobals "_law_under" = some (some (.ref f__law_under)))
    (l__law_under : K.lookup f__law_under = some ⟨oc__law_under, od__law_under, .func (PySem.W.fnOf "_law_under" "_law_under" (defArgs s__law_under) (defBody s__law_under) (defScope s__law_under) .none kV__law_under dc__law_under pm__law_under an__law_under cd__law_under ct__law_under), sl__law_under⟩)
    (c__law_under : PySem.W.codeIn K cd__law_under "_law_under" = true)
    (k__law_under : PySem.W.keepIn K (.ref f__law_under) = true)
    (a__law_read : PySem.W.nsIn K mainGlobals "_law_read" = some (some (.ref f__law_read)))
    (l__law_read : K.lookup f__law_read = some ⟨oc__law_read, od__law_read, .func (PySem.W.fnOf "_law_read" "_law_read" (defArgs s__law_read) (defBody s__law_read) (defScope s__law_read) .none kV__law_read dc__law_read pm__law_read an__law_read cd__law_read ct__law_read), sl__law_read⟩)
    (c__law_read : PySem.W.codeIn K cd__law_read "_law_read" = true)
    (k__law_read : PySem.W.keepIn K (.ref f__law_read) = true)
    (a__law_pair_right : PySem.W.nsIn K mainGlobals "_law_pair_right" = some (some (.ref f__law_pair_right)))
    (l__law_pair_right : K.lookup f__law_pair_right = some ⟨oc__law_pair_right, od__law_pair_right, .func (PySem.W.fnOf "_law_pair_right" "_law_pair_right" (defArgs s__law_pair_right) (defBody s__law_pair_right) (defScope s__law_pair_right) .none kV__law_pair_right dc__law_pair_right pm__law_pair_right an__law_pair_right cd__law_pair_right ct__law_pair_right), sl__law_pair_right⟩)
    (c__law_pair_right : PySem.W.codeIn K cd__law_pair_right "_law_pair_right" = true)
    (k__law_pair_right : PySem.W.keepIn K (.ref f__law_pair_right) = true)
    (a_law : PySem.W.nsIn K mainGlobals "law" = some (some (.ref f_law)))
    (l_law : K.lookup f_law = some ⟨oc_law, od_law, .func (PySem.W.fnOf "law" "law" (defArgs s_law) (defBody s_law) (defScope s_law) .none kV_law dc_law pm_law an_law cd_law ct_law), sl_law⟩)
    (c_law : PySem.W.codeIn K cd_law "law" = true)
    (k_law : PySem.W.keepIn K (.ref f_law) = true)
    (mm_all : PySem.W.nsIn K mainGlobals "all" = some none)
    (mm_bool : PySem.W.nsIn K mainGlobals "bool" = some none)
    (mm_dict : PySem.W.nsIn K mainGlobals "dict" = some none)
    (mm_int : PySem.W.nsIn K mainGlobals "int" = some none)
    (mm_isinstance : PySem.W.nsIn K mainGlobals "isinstance" = some none)
    (mm_len : PySem.W.nsIn K mainGlobals "len" = some none)
    (mm_list : PySem.W.nsIn K mainGlobals "list" = some none)
    (mm_max : PySem.W.nsIn K mainGlobals "max" = some none)
    (mm_min : PySem.W.nsIn K mainGlobals "min" = some none)
    (mm_range : PySem.W.nsIn K mainGlobals "range" = some none)
    (mm_sorted : PySem.W.nsIn K mainGlobals "sorted" = some none)
    : ∃ fd : FuncData, (∀ (s : Shared) (v : Value), BindsTo s fd ⟨[v], []⟩ [("script", v)]) ∧ ∀ base : Heap, K.In base → base.Ns mainGlobals mg → FnOk PRG w K mg base CX0 14 fa fd ["script"] (sp_law K) := by
  have e := hfa.symm.trans (PySem.W.mg_of X G a_law)
  cases e
  let A : Ad := { C_InvalidNumber := C_InvalidNumber, i_InvalidNumber := i_InvalidNumber, C_Form := C_Form, a_is_integer := f_is_integer, fd_is_integer := (PySem.W.fnOf "is_integer" "is_integer" (defArgs s_is_integer) (defBody s_is_integer) (defScope s_is_integer) .none kV_is_integer dc_is_integer pm_is_integer an_is_integer cd_is_integer ct_is_integer), a_is_count := f_is_count, fd_is_count := (PySem.W.fnOf "is_count" "is_count" (defArgs s_is_count) (defBody s_is_count) (defScope s_is_count) .none kV_is_count dc_is_count pm_is_count an_is_count cd_is_count ct_is_count), a_is_width := f_is_width, fd_is_width := (PySem.W.fnOf "is_width" "is_width" (defArgs s_is_width) (defBody s_is_width) (defScope s_is_width) .none kV_is_width dc_is_width pm_is_width an_is_width cd_is_width ct_is_width), a_is_lesser := f_is_lesser, fd_is_lesser := (PySem.W.fnOf "is_lesser" "is_lesser" (defArgs s_is_lesser) (defBody s_is_lesser) (defScope s_is_lesser) .none kV_is_lesser dc_is_lesser pm_is_lesser an_is_lesser cd_is_lesser ct_is_lesser), a_lesser := f_lesser, fd_lesser := (PySem.W.fnOf "lesser" "lesser" (defArgs s_lesser) (defBody s_lesser) (defScope s_lesser) .none kV_lesser dc_lesser pm_lesser an_lesser cd_lesser ct_lesser), a_Form___init__ := f_Form___init__, fd_Form___init__ := (PySem.W.fnOf "__init__" "Form.__init__" (defArgs s_Form___init__) (defBody s_Form___init__) (defScope s_Form___init__) .none kV_Form___init__ dc_Form___init__ pm_Form___init__ an_Form___init__ cd_Form___init__ ct_Form___init__), a_Form_shifts := f_Form_shifts, fd_Form_shifts := (PySem.W.fnOf "shifts" "Form.shifts" (defArgs s_Form_shifts) (defBody s_Form_shifts) (defScope s_Form_shifts) .none kV_Form_shifts dc_Form_shifts pm_Form_shifts an_Form_shifts cd_Form_shifts ct_Form_shifts), a_Form___contains__ := f_Form___contains__, fd_Form___contains__ := (PySem.W.fnOf "__contains__" "Form.__contains__" (defArgs s_Form___contains__) (defBody s_Form___contains__) (defScope s_Form___contains__) .none kV_Form___contains__ dc_Form___contains__ pm_Form___contains__ an_Form___contains__ cd_Form___contains__ ct_Form___contains__), a_Form___getitem__ := f_Form___getitem__, fd_Form___getitem__ := (PySem.W.fnOf "__getitem__" "Form.__getitem__" (defArgs s_Form___getitem__) (defBody s_Form___getitem__) (defScope s_Form___getitem__) .none kV_Form___getitem__ dc_Form___getitem__ pm_Form___getitem__ an_Form___getitem__ cd_Form___getitem__ ct_Form___getitem__), a_Form___eq__ := f_Form___eq__, fd_Form___eq__ := (PySem.W.fnOf "__eq__" "Form.__eq__" (defArgs s_Form___eq__) (defBody s_Form___eq__) (defScope s_Form___eq__) .none kV_Form___eq__ dc_Form___eq__ pm_Form___eq__ an_Form___eq__ cd_Form___eq__ ct_Form___eq__), a_Form___and__ := f_Form___and__, fd_Form___and__ := (PySem.W.fnOf "__and__" "Form.__and__" (defArgs s_Form___and__) (defBody s_Form___and__) (defScope s_Form___and__) .none kV_Form___and__ dc_Form___and__ pm_Form___and__ an_Form___and__ cd_Form___and__ ct_Form___and__), a_Form_is_under := f_Form_is_under, fd_Form_is_under := (PySem.W.fnOf "is_under" "Form.is_under" (defArgs s_Form_is_under) (defBody s_Form_is_under) (defScope s_Form_is_under) .none kV_Form_is_under dc_Form_is_under pm_Form_is_under an_Form_is_under cd_Form_is_under ct_Form_is_under), a__law_pool := f__law_pool, fd__law_pool := (PySem.W.fnOf "_law_pool" "_law_pool" (defArgs s__law_pool) (defBody s__law_pool) (defScope s__law_pool) .none kV__law_pool dc__law_pool pm__law_pool an__law_pool cd__law_pool ct__law_pool), a__law_draw := f__law_draw, fd__law_draw := (PySem.W.fnOf "_law_draw" "_law_draw" (defArgs s__law_draw) (defBody s__law_draw) (defScope s__law_draw) .none kV__law_draw dc__law_draw pm__law_draw an__law_draw cd__law_draw ct__law_draw), a__law_width := f__law_width, fd__law_width := (PySem.W.fnOf "_law_width" "_law_width" (defArgs s__law_width) (defBody s__law_width) (defScope s__law_width) .none kV__law_width dc__law_width pm__law_width an__law_width cd__law_width ct__law_width), a__law_widths_by := f__law_widths_by, fd__law_widths_by := (PySem.W.fnOf "_law_widths_by" "_law_widths_by" (defArgs s__law_widths_by) (defBody s__law_widths_by) (defScope s__law_widths_by) .none kV__law_widths_by dc__law_widths_by pm__law_widths_by an__law_widths_by cd__law_widths_by ct__law_widths_by), a__law_at_most := f__law_at_most, fd__law_at_most := (PySem.W.fnOf "_law_at_most" "_law_at_most" (defArgs s__law_at_most) (defBody s__law_at_most) (defScope s__law_at_most) .none kV__law_at_most dc__law_at_most pm__law_at_most an__law_at_most cd__law_at_most ct__law_at_most), a__law_lesser := f__law_lesser, fd__law_lesser := (PySem.W.fnOf "_law_lesser" "_law_lesser" (defArgs s__law_lesser) (defBody s__law_lesser) (defScope s__law_lesser) .none kV__law_lesser dc__law_lesser pm__law_lesser an__law_lesser cd__law_lesser ct__law_lesser), a__law_under := f__law_under, fd__law_under := (PySem.W.fnOf "_law_under" "_law_under" (defArgs s__law_under) (defBody s__law_under) (defScope s__law_under) .none kV__law_under dc__law_under pm__law_under an__law_under cd__law_under ct__law_under), a__law_read := f__law_read, fd__law_read := (PySem.W.fnOf "_law_read" "_law_read" (defArgs s__law_read) (defBody s__law_read) (defScope s__law_read) .none kV__law_read dc__law_read pm__law_read an__law_read cd__law_read ct__law_read), a__law_pair_right := f__law_pair_right, fd__law_pair_right := (PySem.W.fnOf "_law_pair_right" "_law_pair_right" (defArgs s__law_pair_right) (defBody s__law_pair_right) (defScope s__law_pair_right) .none kV__law_pair_right dc__law_pair_right pm__law_pair_right an__law_pair_right cd__law_pair_right ct__law_pair_right), a_law := fa, fd_law := (PySem.W.fnOf "law" "law" (defArgs s_law) (defBody s_law) (defScope s_law) .none kV_law dc_law pm_law an_law cd_law ct_law) }
  have F_is_integer' := fun_mk (st := s_is_integer) l_is_integer c_is_integer k_is_integer
  have F_is_count' := fun_mk (st := s_is_count) l_is_count c_is_count k_is_count
  have F_is_width' := fun_mk (st := s_is_width) l_is_width c_is_width k_is_width
  have F_is_lesser' := fun_mk (st := s_is_lesser) l_is_lesser c_is_lesser k_is_lesser
  have F_lesser' := fun_mk (st := s_lesser) l_lesser c_lesser k_lesser
  have F_Form___init__' := fun_mk (st := s_Form___init__) l_Form___init__ c_Form___init__ k_Form___init__
  have F_Form_shifts' := fun_mk (st := s_Form_shifts) l_Form_shifts c_Form_shifts k_Form_shifts
  have F_Form___contains__' := fun_mk (st := s_Form___contains__) l_Form___contains__ c_Form___contains__ k_Form___contains__
  have F_Form___getitem__' := fun_mk (st := s_Form___getitem__) l_Form___getitem__ c_Form___getitem__ k_Form___getitem__
  have F_Form___eq__' := fun_mk (st := s_Form___eq__) l_Form___eq__ c_Form___eq__ k_Form___eq__
  have F_Form___and__' := fun_mk (st := s_Form___and__) l_Form___and__ c_Form___and__ k_Form___and__
  have F_Form_is_under' := fun_mk (st := s_Form_is_under) l_Form_is_under c_Form_is_under k_Form_is_under
  have F__law_pool' := fun_mk (st := s__law_pool) l__law_pool c__law_pool k__law_pool
  have F__law_draw' := fun_mk (st := s__law_draw) l__law_draw c__law_draw k__law_draw
  have F__law_width' := fun_mk (st := s__law_width) l__law_width c__law_width k__law_width
  have F__law_widths_by' := fun_mk (st := s__law_widths_by) l__law_widths_by c__law_widths_by k__law_widths_by
  have F__law_at_most' := fun_mk (st := s__law_at_most) l__law_at_most c__law_at_most k__law_at_most
  have F__law_lesser' := fun_mk (st := s__law_lesser) l__law_lesser c__law_lesser k__law_lesser
  have F__law_under' := fun_mk (st := s__law_under) l__law_under c__law_under k__law_under
  have F__law_read' := fun_mk (st := s__law_read) l__law_read c__law_read k__law_read
  have F__law_pair_right' := fun_mk (st := s__law_pair_right) l__law_pair_right c__law_pair_right k__law_pair_right
  have F_law' := fun_mk (st := s_law) l_law c_law k_law
  have x_er_InvalidNumber : ErTxt PRG K mg "InvalidNumber" "value" A.C_InvalidNumber A.i_InvalidNumber := { gC := PySem.W.mg_of X G aC_InvalidNumber, cls := ⟨nm_InvalidNumber, q_InvalidNumber, N_InvalidNumber, bs_InvalidNumber, _, sn_InvalidNumber, sub_InvalidNumber, ab_InvalidNumber, col_InvalidNumber, dd_InvalidNumber, m0_InvalidNumber, m1_InvalidNumber, m2_InvalidNumber, m3_InvalidNumber, m5_InvalidNumber, xL_InvalidNumber, rf_InvalidNumber⟩, sa := sa_InvalidNumber, ga := ga_InvalidNumber, gg := gg_InvalidNumber, noN := nb_InvalidNumber, iC := ai_InvalidNumber, tC := ti_InvalidNumber, kC := kC_InvalidNumber, exC := eC_InvalidNumber, veC := vC_InvalidNumber, tyC := tC_InvalidNumber, hdC := hC_InvalidNumber, te := VW.exm_self eC_InvalidNumber iC_InvalidNumber tC_InvalidNumber sC_InvalidNumber, meC := me_InvalidNumber, alC := al_InvalidNumber, opq := opq0, sup := sup0, nsup := nsup0, fn := ⟨oc_InvalidNumber, od_InvalidNumber, dc_InvalidNumber, pm_InvalidNumber, an_InvalidNumber, cda_InvalidNumber, cc_InvalidNumber, ct_InvalidNumber, sl_InvalidNumber, qu_InvalidNumber, ms_InvalidNumber, p1_InvalidNumber, p2_InvalidNumber, q1_InvalidNumber, q2_InvalidNumber, q3_InvalidNumber, q4_InvalidNumber, q5_InvalidNumber, q6_InvalidNumber, q7_InvalidNumber, q8_InvalidNumber, q9_InvalidNumber, q10_InvalidNumber, f1_InvalidNumber, f2_InvalidNumber, e1_InvalidNumber, e2_InvalidNumber, vs_InvalidNumber, s1_InvalidNumber, s2_InvalidNumber, fl_InvalidNumber, tf_InvalidNumber, li_InvalidNumber, ci_InvalidNumber, ld_InvalidNumber, vs2_InvalidNumber, hf_InvalidNumber, lc_InvalidNumber, ev_InvalidNumber⟩ }
  have x_g_Form : mg "Form" = some (.ref A.C_Form) := PySem.W.mg_of X G aC_Form
  have x_cl_Form : Cls K A.C_Form := ⟨pg_Form, hd_Form, po_Form, sa_Form⟩
  have x_n_Form_kept_values : NoAttr K A.C_Form "kept_values" := nf_Form_kept_values
  have x_M_Form : Mk K A.C_Form A.a_Form___init__ := ⟨mk_Form, a_Form___init__, i_Form___init__, kc_Form⟩
  have x_oc_Form : OwnC K A.C_Form := ⟨⟨pg_Form, hd_Form, po_Form, sa_Form⟩, ic_Form, in_Form, ik_Form, im_Form, iq0_Form, iq1_Form, iq2_Form, iq3_Form, iq4_Form, iq5_Form⟩
  have x_eq_Form : EqC K A.C_Form A.a_Form___eq__ := ⟨a_Form___eq__, i_Form___eq__, ne_Form, im_Form⟩
  have x_sp_Form___contains__ : SpC K A.C_Form A.a_Form___contains__ "__contains__" := ⟨a_Form___contains__, i_Form___contains__⟩
  have x_fn_Form___contains__ : PySem.W.fnIn K A.a_Form___contains__ = true := fn0_Form___contains__
  have x_sp_Form___getitem__ : SpC K A.C_Form A.a_Form___getitem__ "__getitem__" := ⟨a_Form___getitem__, i_Form___getitem__⟩
  have x_fn_Form___getitem__ : PySem.W.fnIn K A.a_Form___getitem__ = true := fn0_Form___getitem__
  have x_binO_Form___and__ : BinO K A.C_Form A.a_Form___and__ .BitAnd := ⟨so_Form___and__, a_Form___and__, i_Form___and__⟩
  have x_F_is_integer : Fun K "is_integer" "is_integer" s_is_integer A.a_is_integer A.fd_is_integer := F_is_integer'
  have x_b_is_integer : Binds K A.fd_is_integer ["value"] [] := (F_is_integer'.binds (ps := ["value"]) fun _ _ _ _ _ _ us hl => match us, hl with | [_], _ => rfl)
  have x_g_is_integer : mg "is_integer" = some (.ref A.a_is_integer) := PySem.W.mg_of X G a_is_integer
  have x_F_is_count : Fun K "is_count" "is_count" s_is_count A.a_is_count A.fd_is_count := F_is_count'
  have x_b_is_count : Binds K A.fd_is_count ["value"] [] := (F_is_count'.binds (ps := ["value"]) fun _ _ _ _ _ _ us hl => match us, hl with | [_], _ => rfl)
  have x_g_is_count : mg "is_count" = some (.ref A.a_is_count) := PySem.W.mg_of X G a_is_count
  have x_F_is_width : Fun K "is_width" "is_width" s_is_width A.a_is_width A.fd_is_width := F_is_width'
  have x_b_is_width : Binds K A.fd_is_width ["value"] [] := (F_is_width'.binds (ps := ["value"]) fun _ _ _ _ _ _ us hl => match us, hl with | [_], _ => rfl)
  have x_g_is_width : mg "is_width" = some (.ref A.a_is_width) := PySem.W.mg_of X G a_is_width
  have x_F_is_lesser : Fun K "is_lesser" "is_lesser" s_is_lesser A.a_is_lesser A.fd_is_lesser := F_is_lesser'
  have x_b_is_lesser : Binds K A.fd_is_lesser ["one", "other"] [] := (F_is_lesser'.binds (ps := ["one", "other"]) fun _ _ _ _ _ _ us hl => match us, hl with | [_, _], _ => rfl)
  have x_g_is_lesser : mg "is_lesser" = some (.ref A.a_is_lesser) := PySem.W.mg_of X G a_is_lesser
  have x_F_lesser : Fun K "lesser" "lesser" s_lesser A.a_lesser A.fd_lesser := F_lesser'
  have x_b_lesser : Binds K A.fd_lesser ["one", "other"] [] := (F_lesser'.binds (ps := ["one", "other"]) fun _ _ _ _ _ _ us hl => match us, hl with | [_, _], _ => rfl)
  have x_g_lesser : mg "lesser" = some (.ref A.a_lesser) := PySem.W.mg_of X G a_lesser
  have x_F_Form___init__ : Fun K "__init__" "Form.__init__" s_Form___init__ A.a_Form___init__ A.fd_Form___init__ := F_Form___init__'
  have x_b_Form___init__ : Binds K A.fd_Form___init__ ["self", "values"] [] := (F_Form___init__'.binds (ps := ["self", "values"]) fun _ _ _ _ _ _ us hl => match us, hl with | [_, _], _ => rfl)
  have x_me_Form___init__ : Meth K A.C_Form "__init__" A.a_Form___init__ := ⟨a_Form___init__, i_Form___init__, k_Form___init__⟩
  have x_F_Form_shifts : Fun K "shifts" "Form.shifts" s_Form_shifts A.a_Form_shifts A.fd_Form_shifts := F_Form_shifts'
  have x_b_Form_shifts : Binds K A.fd_Form_shifts ["self"] [] := (F_Form_shifts'.binds (ps := ["self"]) fun _ _ _ _ _ _ us hl => match us, hl with | [_], _ => rfl)
  have x_me_Form_shifts : Meth K A.C_Form "shifts" A.a_Form_shifts := ⟨a_Form_shifts, i_Form_shifts, k_Form_shifts⟩
  have x_F_Form___contains__ : Fun K "__contains__" "Form.__contains__" s_Form___contains__ A.a_Form___contains__ A.fd_Form___contains__ := F_Form___contains__'
  have x_b_Form___contains__ : Binds K A.fd_Form___contains__ ["self", "shift"] [] := (F_Form___contains__'.binds (ps := ["self", "shift"]) fun _ _ _ _ _ _ us hl => match us, hl with | [_, _], _ => rfl)
  have x_me_Form___contains__ : Meth K A.C_Form "__contains__" A.a_Form___contains__ := ⟨a_Form___contains__, i_Form___contains__, k_Form___contains__⟩
  have x_F_Form___getitem__ : Fun K "__getitem__" "Form.__getitem__" s_Form___getitem__ A.a_Form___getitem__ A.fd_Form___getitem__ := F_Form___getitem__'
  have x_b_Form___getitem__ : Binds K A.fd_Form___getitem__ ["self", "shift"] [] := (F_Form___getitem__'.binds (ps := ["self", "shift"]) fun _ _ _ _ _ _ us hl => match us, hl with | [_, _], _ => rfl)
  have x_me_Form___getitem__ : Meth K A.C_Form "__getitem__" A.a_Form___getitem__ := ⟨a_Form___getitem__, i_Form___getitem__, k_Form___getitem__⟩
  have x_F_Form___eq__ : Fun K "__eq__" "Form.__eq__" s_Form___eq__ A.a_Form___eq__ A.fd_Form___eq__ := F_Form___eq__'
  have x_b_Form___eq__ : Binds K A.fd_Form___eq__ ["self", "other"] [] := (F_Form___eq__'.binds (ps := ["self", "other"]) fun _ _ _ _ _ _ us hl => match us, hl with | [_, _], _ => rfl)
  have x_me_Form___eq__ : Meth K A.C_Form "__eq__" A.a_Form___eq__ := ⟨a_Form___eq__, i_Form___eq__, k_Form___eq__⟩
  have x_F_Form___and__ : Fun K "__and__" "Form.__and__" s_Form___and__ A.a_Form___and__ A.fd_Form___and__ := F_Form___and__'
  have x_b_Form___and__ : Binds K A.fd_Form___and__ ["self", "other"] [] := (F_Form___and__'.binds (ps := ["self", "other"]) fun _ _ _ _ _ _ us hl => match us, hl with | [_, _], _ => rfl)
  have x_me_Form___and__ : Meth K A.C_Form "__and__" A.a_Form___and__ := ⟨a_Form___and__, i_Form___and__, k_Form___and__⟩
  have x_F_Form_is_under : Fun K "is_under" "Form.is_under" s_Form_is_under A.a_Form_is_under A.fd_Form_is_under := F_Form_is_under'
  have x_b_Form_is_under : Binds K A.fd_Form_is_under ["self", "other"] [] := (F_Form_is_under'.binds (ps := ["self", "other"]) fun _ _ _ _ _ _ us hl => match us, hl with | [_, _], _ => rfl)
  have x_me_Form_is_under : Meth K A.C_Form "is_under" A.a_Form_is_under := ⟨a_Form_is_under, i_Form_is_under, k_Form_is_under⟩
  have x_F__law_pool : Fun K "_law_pool" "_law_pool" s__law_pool A.a__law_pool A.fd__law_pool := F__law_pool'
  have x_b__law_pool : Binds K A.fd__law_pool ["script", "k"] [] := (F__law_pool'.binds (ps := ["script", "k"]) fun _ _ _ _ _ _ us hl => match us, hl with | [_, _], _ => rfl)
  have x_g__law_pool : mg "_law_pool" = some (.ref A.a__law_pool) := PySem.W.mg_of X G a__law_pool
  have x_F__law_draw : Fun K "_law_draw" "_law_draw" s__law_draw A.a__law_draw A.fd__law_draw := F__law_draw'
  have x_b__law_draw : Binds K A.fd__law_draw ["pool", "many"] [] := (F__law_draw'.binds (ps := ["pool", "many"]) fun _ _ _ _ _ _ us hl => match us, hl with | [_, _], _ => rfl)
  have x_g__law_draw : mg "_law_draw" = some (.ref A.a__law_draw) := PySem.W.mg_of X G a__law_draw
  have x_F__law_width : Fun K "_law_width" "_law_width" s__law_width A.a__law_width A.fd__law_width := F__law_width'
  have x_b__law_width : Binds K A.fd__law_width ["pool"] [] := (F__law_width'.binds (ps := ["pool"]) fun _ _ _ _ _ _ us hl => match us, hl with | [_], _ => rfl)
  have x_g__law_width : mg "_law_width" = some (.ref A.a__law_width) := PySem.W.mg_of X G a__law_width
  have x_F__law_widths_by : Fun K "_law_widths_by" "_law_widths_by" s__law_widths_by A.a__law_widths_by A.fd__law_widths_by := F__law_widths_by'
  have x_b__law_widths_by : Binds K A.fd__law_widths_by ["pool"] [] := (F__law_widths_by'.binds (ps := ["pool"]) fun _ _ _ _ _ _ us hl => match us, hl with | [_], _ => rfl)
  have x_g__law_widths_by : mg "_law_widths_by" = some (.ref A.a__law_widths_by) := PySem.W.mg_of X G a__law_widths_by
  have x_F__law_at_most : Fun K "_law_at_most" "_law_at_most" s__law_at_most A.a__law_at_most A.fd__law_at_most := F__law_at_most'
  have x_b__law_at_most : Binds K A.fd__law_at_most ["one", "other"] [] := (F__law_at_most'.binds (ps := ["one", "other"]) fun _ _ _ _ _ _ us hl => match us, hl with | [_, _], _ => rfl)
  have x_g__law_at_most : mg "_law_at_most" = some (.ref A.a__law_at_most) := PySem.W.mg_of X G a__law_at_most
  have x_F__law_lesser : Fun K "_law_lesser" "_law_lesser" s__law_lesser A.a__law_lesser A.fd__law_lesser := F__law_lesser'
  have x_b__law_lesser : Binds K A.fd__law_lesser ["one", "other"] [] := (F__law_lesser'.binds (ps := ["one", "other"]) fun _ _ _ _ _ _ us hl => match us, hl with | [_, _], _ => rfl)
  have x_g__law_lesser : mg "_law_lesser" = some (.ref A.a__law_lesser) := PySem.W.mg_of X G a__law_lesser
  have x_F__law_under : Fun K "_law_under" "_law_under" s__law_under A.a__law_under A.fd__law_under := F__law_under'
  have x_b__law_under : Binds K A.fd__law_under ["one", "other"] [] := (F__law_under'.binds (ps := ["one", "other"]) fun _ _ _ _ _ _ us hl => match us, hl with | [_, _], _ => rfl)
  have x_g__law_under : mg "_law_under" = some (.ref A.a__law_under) := PySem.W.mg_of X G a__law_under
  have x_F__law_read : Fun K "_law_read" "_law_read" s__law_read A.a__law_read A.fd__law_read := F__law_read'
  have x_b__law_read : Binds K A.fd__law_read ["form"] [] := (F__law_read'.binds (ps := ["form"]) fun _ _ _ _ _ _ us hl => match us, hl with | [_], _ => rfl)
  have x_g__law_read : mg "_law_read" = some (.ref A.a__law_read) := PySem.W.mg_of X G a__law_read
  have x_F__law_pair_right : Fun K "_law_pair_right" "_law_pair_right" s__law_pair_right A.a__law_pair_right A.fd__law_pair_right := F__law_pair_right'
  have x_b__law_pair_right : Binds K A.fd__law_pair_right ["one", "other", "mine", "yours"] [] := (F__law_pair_right'.binds (ps := ["one", "other", "mine", "yours"]) fun _ _ _ _ _ _ us hl => match us, hl with | [_, _, _, _], _ => rfl)
  have x_g__law_pair_right : mg "_law_pair_right" = some (.ref A.a__law_pair_right) := PySem.W.mg_of X G a__law_pair_right
  have x_F_law : Fun K "law" "law" s_law A.a_law A.fd_law := F_law'
  have x_b_law : Binds K A.fd_law ["script"] [] := (F_law'.binds (ps := ["script"]) fun _ _ _ _ _ _ us hl => match us, hl with | [_], _ => rfl)
  have x_g_law : mg "law" = some (.ref A.a_law) := PySem.W.mg_of X G a_law
  have x_m_all : mg "all" = none := PySem.W.mg_none_of X G mm_all
  have x_m_bool : mg "bool" = none := PySem.W.mg_none_of X G mm_bool
  have x_m_dict : mg "dict" = none := PySem.W.mg_none_of X G mm_dict
  have x_m_int : mg "int" = none := PySem.W.mg_none_of X G mm_int
  have x_m_isinstance : mg "isinstance" = none := PySem.W.mg_none_of X G mm_isinstance
  have x_m_len : mg "len" = none := PySem.W.mg_none_of X G mm_len
  have x_m_list : mg "list" = none := PySem.W.mg_none_of X G mm_list
  have x_m_max : mg "max" = none := PySem.W.mg_none_of X G mm_max
  have x_m_min : mg "min" = none := PySem.W.mg_none_of X G mm_min
  have x_m_range : mg "range" = none := PySem.W.mg_none_of X G mm_range
  have x_m_sorted : mg "sorted" = none := PySem.W.mg_none_of X G mm_sorted
  have T : Tx PRG A K mg := { er_InvalidNumber := x_er_InvalidNumber, g_Form := x_g_Form, cl_Form := x_cl_Form, n_Form_kept_values := x_n_Form_kept_values, M_Form := x_M_Form, oc_Form := x_oc_Form, eq_Form := x_eq_Form, sp_Form___contains__ := x_sp_Form___contains__, fn_Form___contains__ := x_fn_Form___contains__, sp_Form___getitem__ := x_sp_Form___getitem__, fn_Form___getitem__ := x_fn_Form___getitem__, binO_Form___and__ := x_binO_Form___and__, F_is_integer := x_F_is_integer, b_is_integer := x_b_is_integer, g_is_integer := x_g_is_integer, F_is_count := x_F_is_count, b_is_count := x_b_is_count, g_is_count := x_g_is_count, F_is_width := x_F_is_width, b_is_width := x_b_is_width, g_is_width := x_g_is_width, F_is_lesser := x_F_is_lesser, b_is_lesser := x_b_is_lesser, g_is_lesser := x_g_is_lesser, F_lesser := x_F_lesser, b_lesser := x_b_lesser, g_lesser := x_g_lesser, F_Form___init__ := x_F_Form___init__, b_Form___init__ := x_b_Form___init__, me_Form___init__ := x_me_Form___init__, F_Form_shifts := x_F_Form_shifts, b_Form_shifts := x_b_Form_shifts, me_Form_shifts := x_me_Form_shifts, F_Form___contains__ := x_F_Form___contains__, b_Form___contains__ := x_b_Form___contains__, me_Form___contains__ := x_me_Form___contains__, F_Form___getitem__ := x_F_Form___getitem__, b_Form___getitem__ := x_b_Form___getitem__, me_Form___getitem__ := x_me_Form___getitem__, F_Form___eq__ := x_F_Form___eq__, b_Form___eq__ := x_b_Form___eq__, me_Form___eq__ := x_me_Form___eq__, F_Form___and__ := x_F_Form___and__, b_Form___and__ := x_b_Form___and__, me_Form___and__ := x_me_Form___and__, F_Form_is_under := x_F_Form_is_under, b_Form_is_under := x_b_Form_is_under, me_Form_is_under := x_me_Form_is_under, F__law_pool := x_F__law_pool, b__law_pool := x_b__law_pool, g__law_pool := x_g__law_pool, F__law_draw := x_F__law_draw, b__law_draw := x_b__law_draw, g__law_draw := x_g__law_draw, F__law_width := x_F__law_width, b__law_width := x_b__law_width, g__law_width := x_g__law_width, F__law_widths_by := x_F__law_widths_by, b__law_widths_by := x_b__law_widths_by, g__law_widths_by := x_g__law_widths_by, F__law_at_most := x_F__law_at_most, b__law_at_most := x_b__law_at_most, g__law_at_most := x_g__law_at_most, F__law_lesser := x_F__law_lesser, b__law_lesser := x_b__law_lesser, g__law_lesser := x_g__law_lesser, F__law_under := x_F__law_under, b__law_under := x_b__law_under, g__law_under := x_g__law_under, F__law_read := x_F__law_read, b__law_read := x_b__law_read, g__law_read := x_g__law_read, F__law_pair_right := x_F__law_pair_right, b__law_pair_right := x_b__law_pair_right, g__law_pair_right := x_g__law_pair_right, F_law := x_F_law, b_law := x_b_law, g_law := x_g_law, m_all := x_m_all, m_bool := x_m_bool, m_dict := x_m_dict, m_int := x_m_int, m_isinstance := x_m_isinstance, m_len := x_m_len, m_list := x_m_list, m_max := x_m_max, m_min := x_m_min, m_range := x_m_range, m_sorted := x_m_sorted }
  exact ⟨A.fd_law, fun s v => .of_eq rfl, fun base _ _ => ok_law T⟩
theorem walk {q : Program} {loose : List Str} {XP : (Str → Option Value) → Heap → Prop} {YP : World → Heap → Prop} {d : DefRec} {K : Params → PySem.W.Frag} (hdf : d.params.defaults = [])
    (hY : ∀ (w : World) (h : Heap), YP w h → (K w.params).In h)
    (F : ∀ (w : World) (mg : Str → Option Value) (fa : Addr) (h : Heap), (K w.params).In h → h.Ns mainGlobals mg → mg d.name = some (.ref fa) →
      ∃ fd : FuncData, (∀ (s : Shared) (u : Value), BindsTo s fd ⟨[u], []⟩ [("script", u)]) ∧ ∀ base : Heap, (K w.params).In base → base.Ns mainGlobals mg → FnOk PRG w (K w.params) mg base CX0 14 fa fd ["script"] (sp_law (K w.params))) :
    PySem.W.WalkO q loose XP YP PySem.Challenge.rw_vectorwidths_k48_forms_compared.row.toRowW d [] (fun f vs => PySem.call f vs) :=
  L2.walk_of (l := PySem.Challenge.rw_vectorwidths_k48_forms_compared) (n := 63) (k := 14) (x := "script") (CX := fun _ => CX0) (sp := fun w => sp_law (K w.params)) rfl (by decide) hdf ⟨rfl, by decide, by decide⟩ hY F (fun _ _ a ns hl _ hS => ⟨a, ns, rfl, hS, hl, fun _ => rfl⟩) fun _ _ _ _ _ z => z
end Law
open PySem PySem.W PyProof.Rows in
set_option maxRecDepth 100000 in
set_option maxHeartbeats 0 in
theorem PySem.Challenge.cw_vectorwidths_k48_forms_compared_holds : PySem.Challenge.rw_vectorwidths_k48_forms_compared.Holds := by
  w_on; o_law; k_head; (case hw => w_witness2)
  k_fill
  refine Law.walk rfl (fun w h Y => PySem.W.kIn_of Y) ?F
  case F =>
    intro w mg fa h KX G hmg
    refine' Law.all_mk KX G hmg ?opq0 ?sup0 ?nsup0 ?aC_InvalidNumber ?xL_InvalidNumber ?rf_InvalidNumber ?sa_InvalidNumber ?ga_InvalidNumber ?gg_InvalidNumber ?nb_InvalidNumber ?ai_InvalidNumber ?ti_InvalidNumber ?li_InvalidNumber ?ci_InvalidNumber ?ld_InvalidNumber ?vs2_InvalidNumber ?hf_InvalidNumber ?lc_InvalidNumber ?ev_InvalidNumber ?kC_InvalidNumber ?eC_InvalidNumber ?vC_InvalidNumber ?tC_InvalidNumber ?hC_InvalidNumber ?iC_InvalidNumber ?sC_InvalidNumber ?me_InvalidNumber ?al_InvalidNumber ?aC_Form ?pg_Form ?hd_Form ?po_Form ?sa_Form ?nf_Form_kept_values ?mk_Form ?kc_Form ?ic_Form ?in_Form ?ik_Form ?im_Form ?iq0_Form ?iq1_Form ?iq2_Form ?iq3_Form ?iq4_Form ?iq5_Form ?ne_Form ?so_Form___and__ ?a_is_integer ?l_is_integer ?c_is_integer ?k_is_integer ?a_is_count ?l_is_count ?c_is_count ?k_is_count ?a_is_width ?l_is_width ?c_is_width ?k_is_width ?a_is_lesser ?l_is_lesser ?c_is_lesser ?k_is_lesser ?a_lesser ?l_lesser ?c_lesser ?k_lesser ?a_Form___init__ ?i_Form___init__ ?l_Form___init__ ?c_Form___init__ ?k_Form___init__ ?a_Form_shifts ?i_Form_shifts ?l_Form_shifts ?c_Form_shifts ?k_Form_shifts ?a_Form___contains__ ?i_Form___contains__ ?l_Form___contains__ ?c_Form___contains__ ?k_Form___contains__ ?fn0_Form___contains__ ?a_Form___getitem__ ?i_Form___getitem__ ?l_Form___getitem__ ?c_Form___getitem__ ?k_Form___getitem__ ?fn0_Form___getitem__ ?a_Form___eq__ ?i_Form___eq__ ?l_Form___eq__ ?c_Form___eq__ ?k_Form___eq__ ?a_Form___and__ ?i_Form___and__ ?l_Form___and__ ?c_Form___and__ ?k_Form___and__ ?a_Form_is_under ?i_Form_is_under ?l_Form_is_under ?c_Form_is_under ?k_Form_is_under ?a__law_pool ?l__law_pool ?c__law_pool ?k__law_pool ?a__law_draw ?l__law_draw ?c__law_draw ?k__law_draw ?a__law_width ?l__law_width ?c__law_width ?k__law_width ?a__law_widths_by ?l__law_widths_by ?c__law_widths_by ?k__law_widths_by ?a__law_at_most ?l__law_at_most ?c__law_at_most ?k__law_at_most ?a__law_lesser ?l__law_lesser ?c__law_lesser ?k__law_lesser ?a__law_under ?l__law_under ?c__law_under ?k__law_under ?a__law_read ?l__law_read ?c__law_read ?k__law_read ?a__law_pair_right ?l__law_pair_right ?c__law_pair_right ?k__law_pair_right ?a_law ?l_law ?c_law ?k_law ?mm_all ?mm_bool ?mm_dict ?mm_int ?mm_isinstance ?mm_len ?mm_list ?mm_max ?mm_min ?mm_range ?mm_sorted
    (case opq0 => k_is)
    (case sup0 => k_is)
    (case nsup0 => first | rfl | decide +kernel)
    (case aC_InvalidNumber => k_is)
    (case xL_InvalidNumber => k_is)
    (case rf_InvalidNumber => decide +kernel)
    (case sa_InvalidNumber => k_is)
    (case ga_InvalidNumber => k_is)
    (case gg_InvalidNumber => k_is)
    (case nb_InvalidNumber => k_is)
    (case ai_InvalidNumber => k_is)
    (case ti_InvalidNumber => k_is)
    (case li_InvalidNumber => k_is)
    (case ci_InvalidNumber => k_is)
    (case ld_InvalidNumber => k_is)
    (case vs2_InvalidNumber => rfl)
    (case hf_InvalidNumber => first | rfl | decide +kernel)
    (case lc_InvalidNumber => k_is)
    (case ev_InvalidNumber => exact fun env => ⟨_, rfl⟩)
    (case kC_InvalidNumber => k_is)
    (case eC_InvalidNumber => k_is)
    (case vC_InvalidNumber => k_is)
    (case tC_InvalidNumber => k_is)
    (case hC_InvalidNumber => k_is)
    (case iC_InvalidNumber => k_is)
    (case sC_InvalidNumber => first | rfl | k_is)
    (case me_InvalidNumber => first | k_is | rfl)
    (case al_InvalidNumber => ks_is)
    (case aC_Form => k_is)
    (case pg_Form => k_is)
    (case hd_Form => k_is)
    (case po_Form => k_is)
    (case sa_Form => k_is)
    (case nf_Form_kept_values => k_is)
    (case mk_Form => k_is)
    (case kc_Form => k_is)
    (case ic_Form => k_is)
    (case in_Form => k_is)
    (case ik_Form => k_is)
    (case im_Form => k_is)
    (case iq0_Form => first | k_is | rfl | kernel_rfl)
    (case iq1_Form => first | k_is | rfl | kernel_rfl)
    (case iq2_Form => first | k_is | rfl | kernel_rfl)
    (case iq3_Form => first | k_is | rfl | kernel_rfl)
    (case iq4_Form => first | k_is | rfl | kernel_rfl)
    (case iq5_Form => first | k_is | rfl | kernel_rfl)
    (case ne_Form => k_is)
    (case so_Form___and__ => k_is)
    (case a_is_integer => k_is)
    (case l_is_integer => k_is)
    (case c_is_integer => k_is)
    (case k_is_integer => k_is)
    (case a_is_count => k_is)
    (case l_is_count => k_is)
    (case c_is_count => k_is)
    (case k_is_count => k_is)
    (case a_is_width => k_is)
    (case l_is_width => k_is)
    (case c_is_width => k_is)
    (case k_is_width => k_is)
    (case a_is_lesser => k_is)
    (case l_is_lesser => k_is)
    (case c_is_lesser => k_is)
    (case k_is_lesser => k_is)
    (case a_lesser => k_is)
    (case l_lesser => k_is)
    (case c_lesser => k_is)
    (case k_lesser => k_is)
    (case a_Form___init__ => k_is)
    (case i_Form___init__ => k_is)
    (case l_Form___init__ => k_is)
    (case c_Form___init__ => k_is)
    (case k_Form___init__ => k_is)
    (case a_Form_shifts => k_is)
    (case i_Form_shifts => k_is)
    (case l_Form_shifts => k_is)
    (case c_Form_shifts => k_is)
    (case k_Form_shifts => k_is)
    (case a_Form___contains__ => k_is)
    (case i_Form___contains__ => k_is)
    (case l_Form___contains__ => k_is)
    (case c_Form___contains__ => k_is)
    (case k_Form___contains__ => k_is)
    (case fn0_Form___contains__ => k_is)
    (case a_Form___getitem__ => k_is)
    (case i_Form___getitem__ => k_is)
    (case l_Form___getitem__ => k_is)
    (case c_Form___getitem__ => k_is)
    (case k_Form___getitem__ => k_is)
    (case fn0_Form___getitem__ => k_is)
    (case a_Form___eq__ => k_is)
    (case i_Form___eq__ => k_is)
    (case l_Form___eq__ => k_is)
    (case c_Form___eq__ => k_is)
    (case k_Form___eq__ => k_is)
    (case a_Form___and__ => k_is)
    (case i_Form___and__ => k_is)
    (case l_Form___and__ => k_is)
    (case c_Form___and__ => k_is)
    (case k_Form___and__ => k_is)
    (case a_Form_is_under => k_is)
    (case i_Form_is_under => k_is)
    (case l_Form_is_under => k_is)
    (case c_Form_is_under => k_is)
    (case k_Form_is_under => k_is)
    (case a__law_pool => k_is)
    (case l__law_pool => k_is)
    (case c__law_pool => k_is)
    (case k__law_pool => k_is)
    (case a__law_draw => k_is)
    (case l__law_draw => k_is)
    (case c__law_draw => k_is)
    (case k__law_draw => k_is)
    (case a__law_width => k_is)
    (case l__law_width => k_is)
    (case c__law_width => k_is)
    (case k__law_width => k_is)
    (case a__law_widths_by => k_is)
    (case l__law_widths_by => k_is)
    (case c__law_widths_by => k_is)
    (case k__law_widths_by => k_is)
    (case a__law_at_most => k_is)
    (case l__law_at_most => k_is)
    (case c__law_at_most => k_is)
    (case k__law_at_most => k_is)
    (case a__law_lesser => k_is)
    (case l__law_lesser => k_is)
    (case c__law_lesser => k_is)
    (case k__law_lesser => k_is)
    (case a__law_under => k_is)
    (case l__law_under => k_is)
    (case c__law_under => k_is)
    (case k__law_under => k_is)
    (case a__law_read => k_is)
    (case l__law_read => k_is)
    (case c__law_read => k_is)
    (case k__law_read => k_is)
    (case a__law_pair_right => k_is)
    (case l__law_pair_right => k_is)
    (case c__law_pair_right => k_is)
    (case k__law_pair_right => k_is)
    (case a_law => k_is)
    (case l_law => k_is)
    (case c_law => k_is)
    (case k_law => k_is)
    (case mm_all => k_is)
    (case mm_bool => k_is)
    (case mm_dict => k_is)
    (case mm_int => k_is)
    (case mm_isinstance => k_is)
    (case mm_len => k_is)
    (case mm_list => k_is)
    (case mm_max => k_is)
    (case mm_min => k_is)
    (case mm_range => k_is)
    (case mm_sorted => k_is)
