import PyProof.Rows.All
import Wide.All
import OpenK.AllK
import Wide.FinOn
import HandS.ForMost
import HandS.ForExc
import HandS.ExcSuper
import HandS.ExcField
import HandS.Property
import HandS.SlotsOwn
import HandS.Deep
import HandS.Defaults
import KE.KExcSuper
import KE.KOpsOwn
import HandS.IsInst
import HandS.Style
import HandS.Wide
import HandS.Walk
import HandS.RaiseMore
import HandS.Codes
import HandS.Star
import HandS.NoneIn
import HandS.ExcIs
import HandS.TryOnly
import PySem.Challenge.RW_vectorwidths_k05_statements_moved
set_option Elab.async false
set_option linter.all false
set_option maxRecDepth 100000
set_option maxHeartbeats 4000000
/-! what all laws share: kinds of values, the drawn source, the frame of it -/
namespace VW
open PySem PySem.Spec PyProof.Rows L2
theorem bb_len : bootBuiltins "len" = some (.builtin "len") := by decide +kernel
theorem bb_isinstance : bootBuiltins "isinstance" = some (.builtin "isinstance") := by decide +kernel
theorem bb_all : bootBuiltins "all" = some (.builtin "all") := by decide +kernel
theorem bb_any : bootBuiltins "any" = some (.builtin "any") := by decide +kernel
theorem bb_repr : bootBuiltins "repr" = some (.builtin "repr") := by decide +kernel
theorem bb_abs : bootBuiltins "abs" = some (.builtin "abs") := by decide +kernel
theorem bb_min : bootBuiltins "min" = some (.builtin "min") := by decide +kernel
theorem bb_max : bootBuiltins "max" = some (.builtin "max") := by decide +kernel
theorem bb_sorted : bootBuiltins "sorted" = some (.builtin "sorted") := by decide +kernel
theorem bb_sum : bootBuiltins "sum" = some (.builtin "sum") := by decide +kernel
theorem bb_int : bootBuiltins "int" = some (.type "int") := by decide +kernel
theorem bb_str : bootBuiltins "str" = some (.type "str") := by decide +kernel
theorem bb_bool : bootBuiltins "bool" = some (.type "bool") := by decide +kernel
theorem bb_tuple : bootBuiltins "tuple" = some (.type "tuple") := by decide +kernel
theorem bb_list : bootBuiltins "list" = some (.type "list") := by decide +kernel
theorem bb_dict : bootBuiltins "dict" = some (.type "dict") := by decide +kernel
theorem bb_ValueError : bootBuiltins "ValueError" = some (.type "ValueError") := by decide +kernel

/-! ### kinds -/
inductive Kd where
  | non | bl | int | str | lst | tup | dct | own
  deriving DecidableEq
def Kd.ty : Kd → String
  | .non => "NoneType" | .bl => "bool" | .int => "int" | .str => "str" | .lst => "list" | .tup => "tuple" | .dct => "dict" | .own => "?"
def isk (k : Kd) (T : String) : Bool := decide (k.ty = T) || (decide (k = .bl) && decide (T = "int"))
abbrev TS6 : List String := ["int", "bool", "str", "tuple", "list", "dict"]
/-- an own class whose instances are told apart from the built-in ones -/
structure OwnC (K : PySem.W.Frag) (C : Addr) : Prop where
  cl : Cls K C
  ha : PySem.W.findIn K (.ref C) "__class__" = some (some (.builtin "object.__class__"))
  hn : PySem.W.specialIn K (.builtin "object.__class__") "__get__" = some (some (.builtin "getset_descriptor.__get__"))
  htk : PySem.W.takesIn K (.builtin "object.__class__") = some true
  hm : PySem.W.mroIn K C (.type "object") = some true
  k1 : PySem.W.kitOne K (.ref C) (.type "int") = some false
  k2 : PySem.W.kitOne K (.ref C) (.type "bool") = some false
  k3 : PySem.W.kitOne K (.ref C) (.type "str") = some false
  k4 : PySem.W.kitOne K (.ref C) (.type "tuple") = some false
  k5 : PySem.W.kitOne K (.ref C) (.type "list") = some false
  k6 : PySem.W.kitOne K (.ref C) (.type "dict") = some false
inductive Kn (K : PySem.W.Frag) (H : Hp) : V → Kd → Prop
  | non : Kn K H .non .non
  | bl (b : Bool) : Kn K H (.bl b) .bl
  | int (i : Int) : Kn K H (.int i) .int
  | str {z : Str} (h : z.length ≤ sizeLine) : Kn K H (.str z) .str
  | lst {a : Addr} {xs : List V} (h : SqL K H a xs) : Kn K H (.ref a) .lst
  | tup {a : Addr} {xs : List V} (h : SqT K H a xs) : Kn K H (.ref a) .tup
  | dct {a : Addr} {kvs : List (L2.Key × V)} (h : H a = some (.dK kvs)) : Kn K H (.ref a) .dct
  | own {a C dx : Addr} {fs : List (Str × V)} (h : H a = some (.ins C dx fs)) (c : OwnC K C) : Kn K H (.ref a) .own
theorem same_t {K : PySem.W.Frag} {H H' : Hp} {a : Addr} {xs : List V} (e : Same H H') (h : SqT K H a xs) : SqT K H' a xs := by
  rcases h with (h | ⟨o, h⟩) | h
  · exact .inl (.inl (e _ _ h))
  · exact .inl (.inr ⟨o, e _ _ h⟩)
  · exact .inr h
theorem Kn.same {K : PySem.W.Frag} {H H' : Hp} {v : V} {k : Kd} (e : Same H H') (h : Kn K H v k) : Kn K H' v k := by
  cases h with
  | non => exact .non
  | bl b => exact .bl b
  | int i => exact .int i
  | str h => exact .str h
  | lst h => exact .lst (e.seq h)
  | tup h => exact .tup (same_t e h)
  | dct h => exact .dct (e _ _ h)
  | own h c => exact .own (e _ _ h) c
theorem Kn.ty {K : PySem.W.Frag} {H : Hp} {v : V} {k : Kd} (h : Kn K H v k) : ∃ t, TyX K H v t ∧ ∀ T ∈ TS6, PySem.W.kitOne K t (.type T) = some (isk k T) := by
  have kb : ∀ (k : Kd), k ≠ .own → ∀ T ∈ TS6, PySem.W.kitOne K (.type k.ty) (.type T) = some (isk k T) := by
    intro k hk T hT
    refine kit_ty ?_
    simp only [TS6, List.mem_cons, List.not_mem_nil, or_false] at hT
    cases k with
    | own => exact absurd rfl hk
    | _ => rcases hT with rfl | rfl | rfl | rfl | rfl | rfl <;> decide +kernel
  cases h with
  | non => exact ⟨_, .base .non, kb .non (by decide)⟩
  | bl b => exact ⟨_, .base (.bl b), kb .bl (by decide)⟩
  | int i => exact ⟨_, .base (.int i), kb .int (by decide)⟩
  | str h => exact ⟨_, .base (.str _), kb .str (by decide)⟩
  | lst h =>
    rcases h with (h | ⟨o, h⟩) | ⟨o, _, _, h, c, _⟩
    · exact ⟨_, .base (.lst h), kb .lst (by decide)⟩
    · exact ⟨_, .base (.frz h), kb .lst (by decide)⟩
    · exact ⟨_, .kList h c, kb .lst (by decide)⟩
  | tup h =>
    rcases h with (h | ⟨o, h⟩) | ⟨o, _, _, h, c, _⟩
    · exact ⟨_, .base (.tup h), kb .tup (by decide)⟩
    · exact ⟨_, .fTuple h, kb .tup (by decide)⟩
    · exact ⟨_, .kTuple h c, kb .tup (by decide)⟩
  | dct h => exact ⟨_, .base (.dK h), kb .dct (by decide)⟩
  | own h c =>
    refine ⟨_, .base (.ins h c.cl c.ha c.hn c.htk c.hm), fun T hT => ?_⟩
    simp only [TS6, List.mem_cons, List.not_mem_nil, or_false] at hT
    rcases hT with rfl | rfl | rfl | rfl | rfl | rfl
    · exact c.k1
    · exact c.k2
    · exact c.k3
    · exact c.k4
    · exact c.k5
    · exact c.k6
/-- isinstance(v, T) -/
theorem rd_isi {K : PySem.W.Frag} {H : Hp} {v : V} {k : Kd} {T : String} {Q : VK} (h : Kn K H v k) (q : Q (.bl (isk k T)) H) (hT : T ∈ TS6 := by decide) : rIsi K [v, .ty T] H Q := by
  obtain ⟨t, h1, h2⟩ := h.ty
  exact ⟨v, .ty T, t, .type T, _, rfl, .ty T, h1, h2 T hT, q⟩

/-! ### names, refs -/
abbrev LET : Str := "abcdefghijklmnopqrstuvwxyz"
def isLet (c : Nat) : Bool := decide (c ∈ LET.cps.toList)
def isNm (z : Str) : Bool := decide (1 ≤ z.length) && decide (z.length ≤ 8) && z.cps.toList.all isLet
def nmV : V → Bool
  | .str z => isNm z
  | _ => false
def btw (v : V) (lo hi : Int) : Bool := match v with
  | .int i => decide (lo ≤ i) && decide (i ≤ hi)
  | _ => false
theorem Kn.notInt {K : PySem.W.Frag} {H : Hp} {v : V} {k : Kd} (h : Kn K H v k) (n : k ≠ .int) (lo hi : Int) : btw v lo hi = false := by
  cases h <;> first | rfl | exact absurd rfl n
theorem Kn.notStr {K : PySem.W.Frag} {H : Hp} {v : V} {k : Kd} (h : Kn K H v k) (n : k ≠ .str) : nmV v = false := by
  cases h <;> first | rfl | exact absurd rfl n
/-- whether it is a ref -/
inductive RefIs (K : PySem.W.Frag) (H : Hp) : V → Bool → Prop
  | not {v : V} {k : Kd} (h : Kn K H v k) (n : k ≠ .tup) : RefIs K H v false
  | len {a : Addr} {xs : List V} (h : SqT K H a xs) (n : xs.length ≠ 2) : RefIs K H (.ref a) false
  | two {a : Addr} {x y : V} {kx ky : Kd} (h : SqT K H a [x, y]) (hx : Kn K H x kx) (hy : Kn K H y ky) : RefIs K H (.ref a) (nmV x && btw y (-9) 9)
theorem RefIs.same {K : PySem.W.Frag} {H H' : Hp} {v : V} {b : Bool} (e : Same H H') (h : RefIs K H v b) : RefIs K H' v b := by
  cases h with
  | not h n => exact .not (h.same e) n
  | len h n => exact .len (same_t e h) n
  | two h hx hy => exact .two (same_t e h) (hx.same e) (hy.same e)

/-! ### the source of draws: a list of four at s -/
def Kp (s : Addr) (H H' : Hp) : Prop := ∀ b o, H b = some o → b ≠ s → H' b = some o
theorem Kp.refl (s : Addr) (H : Hp) : Kp s H H := fun _ _ h _ => h
theorem Kp.trans {s : Addr} {H H1 H2 : Hp} (a : Kp s H H1) (b : Kp s H1 H2) : Kp s H H2 := fun c o h n => b c o (a c o h n) n
theorem Kp.of {s : Addr} {H H1 : Hp} (a : Same H H1) : Kp s H H1 := fun c o h _ => a c o h
theorem _root_.L2.Same.new {H : Hp} {p : Addr} {o : HO} (h : H p = none) : Same H (upd H p o) := fun b u e => by
  rw [upd_ne (ne_of_none e h)]
  exact e
theorem _root_.L2.Same.mut {H H' : Hp} {p : Addr} {o : HO} (e : Same H H') (h : H p = none) : Same H (upd H' p o) := fun a u ha => by
  rw [upd_ne (ne_of_none ha h)]
  exact e a u ha
theorem Kp.new {s : Addr} {H : Hp} {p : Addr} {o : HO} (h : H p = none) : Kp s H (upd H p o) := Kp.of (Same.new h)
theorem Kp.mut {s : Addr} {H H' : Hp} {p : Addr} {o : HO} (e : Kp s H H') (h : H p = none) : Kp s H (upd H' p o) := fun a u ha n => by
  rw [upd_ne (ne_of_none ha h)]
  exact e a u ha n
theorem Kp.self {s : Addr} {H : Hp} {o : HO} : Kp s H (upd H s o) := fun a u ha n => by
  rw [upd_ne n]
  exact ha
def Src (H : Hp) (s L : Addr) : Prop := ∃ (i q z : Int) (ns : List Int), H s = some (.lst [.ref L, .int i, .int q, .int z]) ∧ H L = some (.lst (ns.map V.int)) ∧ 0 ≤ i ∧ i ≤ (ns.length : Int) ∧ ns.length ≤ 63 ∧ 0 ≤ q ∧ 0 ≤ z ∧ z < 2147483647
theorem Src.at {H : Hp} {s L : Addr} (h : Src H s L) : ∃ xs, H s = some (.lst xs) := by
  obtain ⟨i, q, z, ns, h, _⟩ := h
  exact ⟨_, h⟩
theorem Src.same {H H' : Hp} {s L : Addr} (e : Same H H') (h : Src H s L) : Src H' s L := by
  obtain ⟨i, q, z, ns, h1, h2, r⟩ := h
  exact ⟨i, q, z, ns, e _ _ h1, e _ _ h2, r⟩
theorem Src.fresh {H : Hp} {s L p : Addr} (h : Src H s L) (n : H p = none) : p ≠ s ∧ p ≠ L := by
  obtain ⟨i, q, z, ns, h1, h2, r⟩ := h
  exact ⟨(ne_of_none h1 n).symm, (ne_of_none h2 n).symm⟩
theorem Src.mut {H : Hp} {s L p : Addr} {o : HO} (h : Src H s L) (n : p ≠ s ∧ p ≠ L) : Src (upd H p o) s L := by
  obtain ⟨i, q, z, ns, h1, h2, r⟩ := h
  exact ⟨i, q, z, ns, by rw [upd_ne n.1.symm]; exact h1, by rw [upd_ne n.2.symm]; exact h2, r⟩
theorem Src.new {H : Hp} {s L p : Addr} {o : HO} (h : Src H s L) (n : H p = none) : Src (upd H p o) s L := h.mut (h.fresh n)
theorem ifT {c : Bool} {A B : Prop} (hc : c = true) (h : A) : if c = true then A else B := by
  rw [if_pos hc]
  exact h
theorem ifF {c : Bool} {A B : Prop} (hc : c = false) (h : B) : if c = true then A else B := by
  rw [hc, if_neg Bool.false_ne_true]
  exact h
/-- a tuple, a text's tuple .. is not the source -/
theorem Kp.t {K : PySem.W.Frag} {s : Addr} {H H' : Hp} {a L : Addr} {xs : List V} (e : Kp s H H') (S : Src H s L) (h : SqT K H a xs) : SqT K H' a xs := by
  obtain ⟨ys, hs⟩ := S.at
  rcases h with (h | ⟨o, h⟩) | h
  · exact .inl (.inl (e _ _ h (ne_of h hs (by intro z; cases z))))
  · exact .inl (.inr ⟨o, e _ _ h (ne_of h hs (by intro z; cases z))⟩)
  · exact .inr h
theorem Kp.l {K : PySem.W.Frag} {s : Addr} {H H' : Hp} {a : Addr} {xs : List V} (e : Kp s H H') (n : a ≠ s) (h : SqL K H a xs) : SqL K H' a xs := by
  rcases h with (h | ⟨o, h⟩) | h
  · exact .inl (.inl (e _ _ h n))
  · exact .inl (.inr ⟨o, e _ _ h n⟩)
  · exact .inr h
theorem sz_of {n : Nat} (h : n ≤ 100000) : n ≤ sizeLine := Nat.le_trans h (by decide)
theorem sz_lt {n : Nat} (h : n < 100000) : n < sizeLine := Nat.lt_of_lt_of_le h (by decide)
theorem big_of {n : Nat} (h : n ≤ 100000) : (n : Int) < 2 ^ 200 := by
  have : (2 : Int) ^ 200 > 100000 := by decide
  omega
theorem e18 : (10 : Int) ^ (18 : Int).toNat = 1000000000000000000 := by decide
/-- repr of a truth value -/
theorem call_repr_bl {X : Cx} : CallR X (.builtin "repr") (fun xs H Q => ∃ b, xs = [.bl b] ∧ Q (.str (if b then "True" else "False")) H) := by
  intro pins s σ H xs us Q I r h
  obtain ⟨b, rfl, q⟩ := h
  obtain ⟨u, rfl, r1⟩ := vals1 r
  cases (show u = Value.bool b from r1)
  exact PySem.P.repr_of_bool ⟨.str _, H, I.tok _, ⟨_, rfl⟩, q⟩
end VW
namespace VW
open PySem PySem.Spec PyProof.Rows L2
def cntV : V → Bool
  | .int i => decide (0 ≤ i)
  | _ => false
theorem Kn.notCnt {K : PySem.W.Frag} {H : Hp} {v : V} {k : Kd} (h : Kn K H v k) (n : k ≠ .int) : cntV v = false := by
  cases h <;> first | rfl | exact absurd rfl n
theorem take_succ_of {α : Type} {l : List α} {i : Nat} {x : α} (h : l[i]? = some x) : l.take (i + 1) = l.take i ++ [x] := by
  rw [List.take_succ, h]
  rfl
theorem src_ne (ns : List Int) (L : Addr) (i q z : Int) : HO.lst (ns.map V.int) ≠ HO.lst [V.ref L, .int i, .int q, .int z] := by
  intro e
  injection e with e
  cases ns with
  | nil => cases e
  | cons n r =>
    rw [List.map_cons] at e
    injection e with e1 _
    cases e1
end VW
namespace VW
open PySem PySem.Spec PyProof.Rows L2
theorem dp_signs {K : PySem.W.Frag} {H : Hp} : ∀ cs : List Nat, DpAll K H (cs.map fun c => V.str ⟨#[c]⟩) (cs.map fun c => PyData.str ⟨#[c]⟩)
  | [] => .nil
  | _ :: r => .cons (.str _) (dp_signs r)
theorem shaped_signs (cs : List Nat) (h : ∀ c ∈ cs, c < 128) : SeqAt.shaped (.list (cs.map fun c => PyData.str ⟨#[c]⟩)) = true := by
  have e1 : ∀ cs : List Nat, (∀ c ∈ cs, c < 128) → PyData.canLayAll0 (cs.map fun c => PyData.str ⟨#[c]⟩) = true := by
    intro cs
    induction cs with
    | nil => intro _; rfl
    | cons c r ih =>
      intro h
      have hc := h c (List.mem_cons_self ..)
      have hr := ih fun x hx => h x (List.mem_cons_of_mem _ hx)
      have hs : PyData.strOk ⟨#[c]⟩ = true := by
        simp [PyData.strOk]
        omega
      simp only [List.map_cons, PyData.canLayAll0, PyData.canLay0, hs, hr, Bool.and_self]
  have e2 : ∀ cs : List Nat, PyData.depthAll (cs.map fun c => PyData.str ⟨#[c]⟩) = 0 := by
    intro cs
    induction cs with
    | nil => rfl
    | cons c r ih => simpa [PyData.depthAll, PyData.depth] using ih
  unfold SeqAt.shaped
  simp [PyData.canLay0, PyData.depth, e1 cs h, e2]
end VW
namespace VW
open PySem PySem.Spec PyProof.Rows L2
/-- an error of the class at S is what «except S» names -/
theorem exm_self {K : PySem.W.Frag} {S : Addr} (h1 : PySem.W.subIn K (.ref S) (.type "BaseException") = some true) (h2 : PySem.W.isClsIn K S = true) (h3 : PySem.W.typeIn K (.ref S) = some (.type "type")) (h4 : PySem.W.subIn K (.ref S) (.ref S) = some true) :
    PySem.W.exmOne K (.ref S) (.ref S) = some true := by
  have e1 : (PySem.W.subIn K (.ref S) (.type "BaseException") == some true) = true := by rw [h1] <;> rfl
  have e2 : ((PySem.W.clsIn K S).isSome && PySem.W.typeIn K (.ref S) == some (.type "type")) = true := by
    have h2' : (PySem.W.clsIn K S).isSome = true := h2
    rw [h2', h3] <;> rfl
  show (if (PySem.W.subIn K (.ref S) (.type "BaseException") == some true) = true then (if ((PySem.W.clsIn K S).isSome && PySem.W.typeIn K (.ref S) == some (.type "type")) = true then PySem.W.subIn K (.ref S) (.ref S) else none) else none) = some true
  rw [if_pos e1, if_pos e2]
  exact h4
end VW

/-! an own error over ValueError whose __init__ says super().__init__('..'); self.f = f: made and raised -/
namespace PySem
namespace ErX
open PySem.W PySem.Calls PyProof.Rows PySem.HandSPX
def iA (f : Str) (p1 p2 : Pos) : Arguments := { posonlyargs := [], args := [{ arg := "self", annotation := none, pos := p1 }, { arg := f, annotation := none, pos := p2 }], vararg := none, kwonlyargs := [], kw_defaults := [], kwarg := none, defaults := [] }
def iB (f msg : Str) (q1 q2 q3 q4 q5 q6 q7 q8 q9 q10 : Pos) : List Stmt :=
  [.Expr (.Call (.Attribute (.Call (.Name "super" q1) [] [] q2) "__init__" q3) [.Constant (.str msg) 0 q4] [] q5) q6, .Assign [.Attribute (.Name "self" q7) f q8] (.Name f q9) q10]
def iS (f : Str) : Scope := { kind := .function, names := [(PySem.Str.ofString "self", .local), (f, .local), (PySem.Str.ofString "__class__", .free), (PySem.Str.ofString "super", .globalImplicit)], isGenerator := false, isCoroutine := false, more := [] }
/-- super().__init__('..') is a method's call (by the places that the text has) -/
def SupEv (msg : Str) (q1 q2 q3 q4 q5 : Pos) : Prop := ∀ env : Env, ∃ pl : Sem Bool, eval (.Call (.Attribute (.Call (.Name "super" q1) [] [] q2) "__init__" q3) [.Constant (.str msg) 0 q4] [] q5) env = (do
  let ov ← attributeBase (.Call (.Name "super" q1) [] [] q2) "__init__" env (eval (.Call (.Name "super" q1) [] [] q2) env)
  standAt q3.atName
  let (f, first) ← holding [ov] (getMethod ov "__init__" pl)
  callWith q5 f first (backTo q5 (starEach [.Constant (.str msg) 0 q4] env)) [])
/-- what stands around a call -/
structure Gd (K : Frag) (mg : Str → Option Value) (h : Heap) : Prop where
  k : K.In h
  g : h.Ns mainGlobals mg
  b : ∃ mb, h.Ns builtinsNs mb ∧ ∀ x : Str, x ≠ "__name__" → mb x = bootBuiltins x
  l : h.NoLimit
theorem Gd.keeps {K : Frag} {mg : Str → Option Value} {h h' : Heap} (G : Gd K mg h) (q : ∀ b o, h.get? b = some o → h'.get? b = some o) : Gd K mg h' :=
  ⟨G.k.keeps q, G.g.keeps q, let ⟨mb, h1, h2⟩ := G.b; ⟨mb, h1.keeps q, h2⟩, G.l.keeps q⟩
/-- what the written part says of the class at C, named nm, and of its __init__, at fI; f its one field -/
structure ErTxt (prog : Program) (K : Frag) (mg : Str → Option Value) (nm f : Str) (C fI : Addr) : Prop where
  gC : mg nm = some (.ref C)
  cls : ∃ nm q N bs bm sn sub ab col dd k0 k1 k2 k3 k5, K.lookup C = some (excClassObj nm q C N bs bm true sn sub ab col dd k0 k1 k2 k3 k5 "ValueError.__new__") ∧ refsVE bm = true
  sa : findIn K (.ref C) "__setattr__" = some (some (.builtin "object.__setattr__"))
  ga : findIn K (.ref C) "__getattribute__" = some (some (.builtin "BaseException.__getattribute__"))
  gg : findIn K (.ref C) "__getattr__" = some none
  noN : findIn K (.ref C) f = some none
  iC : findIn K (.ref C) "__init__" = some (some (.ref fI))
  tC : typeIn K (.ref fI) = some (.type "function")
  kC : keepIn K (.ref C) = true
  exC : subIn K (.ref C) (.type "BaseException") = some true
  veC : subIn K (.ref C) (.type "ValueError") = some true
  tyC : typeIn K (.ref C) = some (.type "type")
  hdC : hasDictIn K C = true
  te : exmOne K (.ref C) (.ref C) = some true
  meC : mroIn K C (.ref C) = some true
  alC : ks_superIn K C C "__init__" = some (some (.builtin "ValueError.__init__"))
  opq : nsIn K cStatics "thirdparty.any" = some none
  sup : nsIn K mainGlobals "super" = some none
  nsup : (prog.main.scope.names.lookup ("super" : Str)).isSome = false
  fn : ∃ (oc : Value) (od : Option Addr) (doc pm : Value) (an : Option Addr) (cda cc : Addr) (ct : Value) (osl : Array (Option Value)) (qual msg : Str) (p1 p2 q1 q2 q3 q4 q5 q6 q7 q8 q9 q10 : Pos) (ccl cl : Value) (cdd cld : Option Addr) (vs : Array Value) (ccs csl : Array (Option Value)) (file : Str) (tf : Tok),
    K.lookup fI = some ⟨oc, od, .func (ksFn "__init__" qual (iA f p1 p2) (iB f msg q1 q2 q3 q4 q5 q6 q7 q8 q9 q10) (iS f) .none .none doc pm an (.ref cda) ct cc), osl⟩ ∧ codeIn K (.ref cda) qual = true ∧
    K.lookup cda = some ⟨ccl, cdd, .fields vs, ccs⟩ ∧ vs[2]? = some (.str file tf) ∧ ((prog.main.file : Str) == file) = true ∧ K.lookup cc = some ⟨cl, cld, .cell (some (.ref C)), csl⟩ ∧ SupEv msg q1 q2 q3 q4 q5
theorem bb_super : bootBuiltins "super" = some (.type "super") := by decide +kernel
/-- what __init__ leaves of a fresh exception at x -/
structure InitEnd (f : Str) (h h' : Heap) (x C dx t1 : Addr) (v : Value) : Prop where
  keep : ∀ b o, b ≠ x → h.get? b = some o → h'.get? b = some o
  obj : h'.get? x = some { cls := .ref C, dict := some dx, data := .fields #[.ref t1, .none, .none, .none, .bool false, .none] }
  dbig : h.objs.size ≤ dx
  dne : dx ≠ x
  ns : h'.Ns1 dx (fun y => if y = f then some v else none)
/-- a made one -/
structure OwnMade (f : Str) (h h' : Heap) (e C d : Addr) (v : Value) : Prop where
  keep : ∀ b o, h.get? b = some o → h'.get? b = some o
  new : h.objs.size ≤ e
  obj : ∃ oe vs, h'.get? e = some oe ∧ oe.cls = .ref C ∧ oe.dict = some d ∧ oe.data = .fields vs ∧ vs[1]? = some .none
  dbig : h.objs.size ≤ d
  dne : d ≠ e
  ns : h'.Ns1 d (fun y => if y = f then some v else none)
theorem one_size (v : Value) : [v].length ≤ sizeLine := by
  rw [sizeLine_eq]
  exact (by decide : 1 ≤ 16777216)
section
variable {prog : Program} {w : World} {A : Around} {E : Value → Shared → Prop} {h : Heap} {g : Array GenState} {d : Drawn} {t : Nat} {os : OsState}
/-- the bound ValueError.__init__ called -/
theorem call_mw {nm q : Str} {C N : Addr} {bs bm : List Value} {hdct : Bool} {sn : List Str} {sub : List Value} {ab : Bool} {col : Option Bool} {dd : Option Addr} {k0 k1 k2 k3 k5 : Option Value} {u e t0 : Addr} {rest : List Value} {Q : Value → Shared → Prop}
    (hC : h.get? C = some (excClassObj nm q C N bs bm hdct sn sub ab col dd k0 k1 k2 k3 k5 "ValueError.__new__")) (he : h.get? e = some (excO C t0)) (hu : h.get? u = some (kxs_mw "ValueError.__init__" e)) (hrest : rest.length ≤ sizeLine)
    (hq : ∀ h' t1, (∀ b o, b ≠ e → h.get? b = some o → h'.get? b = some o) → h'.get? e = some (excO C t1) → Q .none ⟨h', g, d, t, os⟩) :
    wpAny (model prog w) A (call (.ref u) rest) Q E ⟨h, g, d, t, os⟩ := by
  refine wpAny_call (codeAny_of_tree ?_)
  show wpAny _ A.in1 (callAny (.ref u) ⟨rest, []⟩) _ _ _
  simp only [callAny]
  refine wpAny_bind (wpAny_load hu ?_)
  simp only [kxs_mw, show (Value.type "method-wrapper" == Value.type "method" || Value.type "method-wrapper" == Value.type "builtin_function_or_method" || Value.type "method-wrapper" == Value.type "method-wrapper") = true by decide, if_true]
  refine W.KFB.if_so (by decide) ?_
  refine wpAny_bind (ESX.check_bound F.excBase_ValueError hC he rfl ?_)
  refine wpAny_bind (wpAny_pure (wpAny_pure ?_))
  refine ⟨Code.quiet_builtin _ (by decide +kernel), codeAny_builtin F.excBase_ValueError.initEntry ?_⟩
  rw [Around.under_plainId F.excBase_ValueError.init.plain _]
  wp_walk
  refine hq _ h.objs.size (fun b o hb ho => ?_) ?_
  · rw [Heap.get?_update_other _ _ (Ne.symm hb)]
    exact Heap.get?_push_of_some _ ho
  · rw [Heap.get?_update_self _ (Heap.get?_push_of_some _ he) rfl]
    rfl
end
section
variable {prog : Program} {w : World} {A : Around} {E : Value → Shared → Prop} {R : Result → Shared → Prop} {s : Shared} {K : Frag} {mg : Str → Option Value} {nm f : Str} {C fI : Addr}
theorem er_init (T : ErTxt prog K mg nm "value" C fI) {x t0 : Addr} {v : Value} (G : Gd K mg s.heap) (hx : s.heap.get? x = some (excO C t0)) (hnx : K.lookup x = none) (hroom : A.depth < recursionLimit)
    (hq : ∀ h' tk dx t1, InitEnd "value" s.heap h' x C dx t1 v → R (.ok (.ret .none)) { s with heap := h', toks := tk }) :
    codeAny (model prog w) A (.call (.ref fI) ⟨[.ref x, v], []⟩) R s := by
  obtain ⟨oc, od, doc, pm, an, cda, cc, ct, osl, qual, msg, p1, p2, q1, q2, q3, q4, q5, q6, q7, q8, q9, q10, ccl, cl, cdd, cld, vs, ccs, csl, file, tf, ho, hcd, hcode, hvs, hfile, hcell, hev⟩ := T.fn
  obtain ⟨nm', q, N, bs, bm, sn, sub, ab, col, dd, k0, k1, k2, k3, k5, hC, hbm⟩ := T.cls
  have hcl : clsIn K C = some { name := nm', bases := bs, mro := .ref C :: bm, ns := N, qualname := q, hasDict := true, slotNames := sn, subclasses := sub, abstract := ab, collection := col, hasDel := false } := by unfold clsIn; rw [hC] <;> rfl
  refine ks_codeAny_call_defAt (fd := ksFn "__init__" qual (iA "value" p1 p2) (iB "value" msg q1 q2 q3 q4 q5 q6 q7 q8 q9 q10) (iS "value") .none .none doc pm an (.ref cda) ct cc) (body := iB "value" msg q1 q2 q3 q4 q5 q6 q7 q8 q9 q10) (binds := [("self", .ref x), ("value", v)]) hroom (G.k _ _ ho) rfl G.l (codeRec_of G.k hcd) rfl (BindsTo.of_eq (by first | rfl | with_unfolding_all rfl)) ?hce ?hlo (fun h₁ hns hk₁ => ?_) rfl rfl rfl
  case hce => exact (by decide : ∀ y ∈ (iS "value").names, y.2 ≠ .cell)
  case hlo =>
    intro y hy
    simp only [List.mem_cons, List.not_mem_nil, or_false] at hy
    rcases hy with rfl | rfl <;> rfl
  have G₁ : Gd K mg h₁ := G.keeps hk₁
  have hx₁ := hk₁ _ _ hx
  have hxL : x < s.heap.objs.size := Heap.lt_size hx
  obtain ⟨hp, ge, dr, tk, os⟩ := s
  generalize hL : hp.objs.size = L at *
  obtain ⟨mb, hmb, hbb⟩ := G₁.b
  have lself : (fun y => ([("self", Value.ref x), ("value", v)] : List (Str × Value)).reverse.lookup y) "self" = some (.ref x) := by first | rfl | with_unfolding_all rfl | kernel_rfl
  have lval : (fun y => ([("self", Value.ref x), ("value", v)] : List (Str × Value)).reverse.lookup y) "value" = some v := by first | rfl | with_unfolding_all rfl | kernel_rfl
  obtain ⟨pl, hev1⟩ := hev (callEnv (ksFn "__init__" qual (iA "value" p1 p2) (iB "value" msg q1 q2 q3 q4 q5 q6 q7 q8 q9 q10) (iS "value") .none .none doc pm an (.ref cda) ct cc) L fI)
  refine ks_wpAt_execs_cons (ks_wpAt_Expr_any (ks_wpAt_MethodCall (pl := pl) ?_ hev1))
  -- super()
  have hD1 := G₁.k _ _ hC
  refine ks_wpAt_super_base (of := ⟨oc, od, .func _, osl⟩) rfl rfl (by decide) rfl (G₁.k _ _ ho) rfl rfl rfl (G₁.k _ _ hcode) rfl hvs hfile T.nsup ?_
  refine ks_loadName_global rfl rfl (loadGlobal_builtin (env := _) G₁.g (mg_none_of G₁.k G₁.g T.sup) hmb ((hbb _ (by decide +kernel)).trans bb_super) ⟨rfl, ?_⟩)
  refine wpAny_loadName_free rfl rfl rfl ⟨_, G₁.k _ _ hcell, rfl⟩ ?_
  refine wpAny_loadName_local rfl rfl hns lself ?_
  refine ks_wpAny_isType_cls hD1 rfl ⟨rfl, ?_⟩
  refine ks_wpAny_call_super hD1 rfl hx₁ rfl (fun c e => nomatch e) (looks_mroIn G₁.k T.meC) (fun h₂ hso hk₂ => ?_)
  have G₂ : Gd K mg h₂ := G₁.keeps hk₂
  have I₂ : InstAt h₂ x (excO C t0) C none := ⟨hk₂ _ _ hx₁, rfl, rfl, trivial⟩
  have hm := T.alC
  unfold ks_superIn at hm
  rw [hcl] at hm
  refine kxs_getMethod kxs_ValueError hso (looks_opaque G₂.k T.opq) (l₀ := .ref C :: bm) ?_ rfl G₂.k hm (I₂.type.andThen (looks_subIn G₂.k T.veC)) (ks_ne G₂.k I₂ hcl) (by decide) ?_
  · exact fun A Q E s k q => wpAny_bind ((looks_clsIn G₂.k hcl) A _ E s k (wpAny_pure q))
  -- called with the text
  have hk₃ : ∀ b o, h₂.get? b = some o → (h₂.push (kxs_mw "ValueError.__init__" x)).get? b = some o := fun b o e => Heap.get?_push_of_some _ e
  have hu₃ : (h₂.push (kxs_mw "ValueError.__init__" x)).get? h₂.objs.size = some (kxs_mw "ValueError.__init__" x) := Heap.get?_push_at rfl rfl
  refine kxs_callWith (i := "ValueError.__init__") (x := x) (by first | rfl | decide) (evalArgs_plain ?_)
  refine spliced_more (wpAny_Constant_str (spliced_none ⟨hu₃, ?_⟩))
  refine call_mw (t0 := t0) (G₂.keeps hk₃ |>.k _ _ hC) (hk₃ _ _ (hk₂ _ _ hx₁)) hu₃ (one_size _) (fun h₄ t1 hk₄ hx₄ => ?_)
  have k04 : ∀ b o, b ≠ x → hp.get? b = some o → h₄.get? b = some o := fun b o hb e => hk₄ b o hb (hk₃ b o (hk₂ b o (hk₁ b o e)))
  have kw : ∀ b o, K.lookup b = some o → b ≠ x := fun b o e z => by
    rw [z, hnx] at e
    cases e
  have X₄ : K.In h₄ := fun b o e => hk₄ b o (kw b o e) ((G₂.keeps hk₃).k b o e)
  have n₄ : h₄.Ns L (fun y => ([("self", Value.ref x), ("value", v)] : List (Str × Value)).reverse.lookup y) := by
    obtain ⟨oL, es, ep, hoL, r⟩ := hns
    exact ⟨oL, es, ep, hk₄ _ _ (Nat.ne_of_gt hxL) (hk₃ _ _ (hk₂ _ _ hoL)), r⟩
  -- self.value = value
  show PySem.wpAt _ _ _ (execs _ _) _ _ _
  refine wpAt_of_wpAny ?_
  refine wpAny_execs_cons (plainObj_wpAny_Assign_Attribute ?_)
  refine ESX.ldL n₄ lval (ESX.ldL n₄ lself ?_)
  refine set_plain X₄ (ox := excO C t1) (od := none) ⟨hx₄, rfl, rfl, trivial⟩ T.sa ?_
  refine exc_osa X₄ hx₄ hcl (show refsVE (.ref C :: bm) = true from hbm) rfl T.noN (fun h₅ tk₅ dx k₅ dn dne hx₅ hn₅ => ?_)
  show wpAny _ _ (execs _ _) _ _ _
  have sz : hp.objs.size ≤ h₄.objs.size := by
    obtain ⟨oL, es, ep, hoL, r⟩ := n₄
    rw [hL]
    exact Nat.le_of_lt (Heap.lt_size hoL)
  exact wpAny_execs_nil (hq h₅ tk₅ dx t1 ⟨fun b o hb e => k₅ b o hb (k04 b o hb e), hx₅, Nat.le_trans sz dn, dne, hn₅⟩)
theorem er_made (T : ErTxt prog K mg nm "value" C fI) {v : Value} (G : Gd K mg s.heap) (hroom : A.depth + 1 < recursionLimit)
    (hq : ∀ h' tk e d, OwnMade "value" s.heap h' e C d v → R (.ok (.ret (.ref e))) { s with heap := h', toks := tk }) :
    codeAny (model prog w) A (.call (.ref C) ⟨[v], []⟩) R s := by
  obtain ⟨nm', q, N, bs, bm, sn, sub, ab, col, dd, k0, k1, k2, k3, k5, hC, hbm⟩ := T.cls
  obtain ⟨hp, g, dr, tk, os⟩ := s
  have k : ∀ b o, hp.get? b = some o → ((hp.push (kdv_tup [v])).push (excO C hp.objs.size)).get? b = some o := fun b o e => Heap.get?_push_of_some _ (Heap.get?_push_of_some _ e)
  have hget : ((hp.push (kdv_tup [v])).push (excO C hp.objs.size)).get? (hp.objs.size + 1) = some (excO C hp.objs.size) := by heap_get
  have hnx : K.lookup (hp.objs.size + 1) = none := by
    cases e : K.lookup (hp.objs.size + 1) with
    | none => rfl
    | some o =>
      have z : hp.get? (hp.objs.size + 1) = some o := G.k _ _ e
      exact absurd (Nat.lt_of_succ_lt (Heap.lt_size z)) (Nat.lt_irrefl _)
  refine call_own F.excBase_ValueError (fun X => refsVE_contains X bm hbm) (G.k _ _ hC) (looks_findIn G.k T.iC) (fun self => bind_fn G.k self T.tC) (one_size v) ?_
  refine er_init (s := ⟨(hp.push (kdv_tup [v])).push (excO C hp.objs.size), g, dr, tk, os⟩) T (G.keeps k) hget hnx ?_ fun h' tk' dx t1 ⟨k', hx, dn, dne, hns⟩ => ?_
  · show A.depth + 1 < recursionLimit
    exact hroom
  · have old : ∀ b o, hp.get? b = some o → h'.get? b = some o := fun b o e => k' b o (Nat.ne_of_lt (Nat.lt_succ_of_lt (Heap.lt_size e))) (k b o e)
    have z : hp.objs.size + 1 + 1 ≤ dx := by
      have q := dn
      first
        | (simpa only [Heap.size_push] using dn)
        | exact dn
        | (rw [Heap.size_push, Heap.size_push] at q; exact q)
    exact ⟨rfl, hq h' tk' (hp.objs.size + 1) dx ⟨old, Nat.le_succ _, ⟨_, _, hx, rfl, rfl, rfl, rfl⟩, Nat.le_trans (Nat.le_trans (Nat.le_succ _) (Nat.le_succ _)) z, dne, hns⟩⟩
end
end ErX
end PySem

/-! raising and reading an own error; methods that may raise; operators of own classes -/
namespace VW
open PySem PySem.Spec PyProof.Rows L2
abbrev ErTxt := @PySem.ErX.ErTxt
theorem relO_er {v : V} {v' : Value} (r : RelV v v') (f : Str) : RelO (List.lookup f [(("value" : Str), v)]) (if f = "value" then some v' else none) := by
  by_cases hw : f = "value"
  · subst hw
    rw [if_pos rfl]
    have q : List.lookup ("value" : Str) [(("value" : Str), v)] = some v := by simp [List.lookup]
    rw [q]
    exact r
  · rw [if_neg hw]
    have qw : (f == ("value" : Str)) = false := by simpa using hw
    have q2 : List.lookup f [(("value" : Str), v)] = none := by simp [List.lookup, qw]
    rw [q2]
    trivial
section
variable {X : Cx} {C fI : Addr} {nm : Str}
theorem gd_of {pins : List (Addr × Obj)} {σ : L2.St} {H : Hp} {s : Shared} (I : Inv X pins σ H s) : PySem.ErX.Gd X.K X.mg s.heap :=
  ⟨I.kIn, I.mod.glob.keeps I.bk, let ⟨mb, h1, h2⟩ := I.mod.blt; ⟨mb, h1.keeps I.bk, h2⟩, I.nolimit⟩
/-- nm(e) -/
def tMkEr (C : Addr) (ta : TA) : L2.St → Hp → XK → Prop := fun σ H Q => ta σ H fun vs H1 => ∃ v, vs = [v] ∧ ∀ d, H1 d = none → Q (.ref C) (some d) (upd H1 d (.xd [(("value" : Str), v)]))
theorem pmk_er {a : Expr} {ta : TA} {p pos : Pos} {k : Nat} (T : ErTxt X.prog X.K X.mg nm "value" C fI) (hr : Room k X.A) (ha : PA X [a] ta) (hg : Gl X nm) (hdb : (nm == ("__debug__" : Str)) = false := by decide)
    (he : starEach (a :: []) X.env = (false, eval a X.env) :: starEach [] X.env := by rfl) (hpl : (backTo pos (starEach [] X.env)).any (·.1) = false := by rfl) :
    PMk X (.Call (.Name nm p) [a] [] pos) (tMkEr C ta) := by
  intro pins s σ H Q I h
  refine wpAny_Call_Name_kw (ld_glob I hg T.gC ?_ hdb)
  refine PySem.W.callWith_K (h₀ := X.base) I.ok.mod.kin T.kC (thn (ha.run pos pins s σ H _ I h) fun us s1 hh => ?_) he hpl
  obtain ⟨vs, H1, I1, r1, v, ev, q1⟩ := hh
  subst ev
  refine ⟨I1.kIn, ?_⟩
  cases r1 with
  | cons rv rn =>
    rename_i v' us'
    cases rn
    show wpAny _ _ (call (.ref C) [v']) _ _ _
    have G := gd_of I1
    obtain ⟨hp, g, dr, tk, os⟩ := s1
    refine wpAny_call (PySem.ErX.er_made T G (by have := hr.dp; omega) fun h' tk' e d M => ?_)
    show MkP X pins σ Q (.ref e) ⟨h', g, dr, tk', os⟩
    obtain ⟨oe, fv, hoe, hc, hd, hdat, h1⟩ := M.obj
    have hns := M.ns
    obtain ⟨G', g1, g2⟩ := restrict h' fun b => decide (b ≠ e)
    have gk : ∀ b, b ≠ e → G'.get? b = h'.get? b := fun b hb => g1 b (decide_eq_true hb)
    have ge : G'.get? e = none := g2 e (by simp)
    have old : ∀ b o, hp.get? b = some o → G'.get? b = some o := fun b o q => (gk b (Nat.ne_of_lt (Nat.lt_of_lt_of_le (Heap.lt_size q) M.new))).trans (M.keep b o q)
    have ob : ObjOk X.prog X.w (upd H1 d (.xd [(("value" : Str), v)])) G' d (.xd [(("value" : Str), v)]) :=
      ⟨_, hns.at (fun o q => (gk d M.dne).trans q), fun f => relO_er rv f⟩
    have J : Inv X pins σ (upd H1 d (.xd [(("value" : Str), v)])) ⟨G', g, dr, tk', os⟩ := I1.laid (t' := tk') old M.dbig ob
    refine ⟨e, oe, fv, ⟨G', g, dr, tk', os⟩, _, .ref C, some d, rfl, J, fun b o q => ?_, ge, hoe, ⟨hc, hd⟩, hdat, h1, ?_, rfl, I1.bare, raises_own T.exC T.tyC, q1 d (I1.hok.fresh M.dbig)⟩
    · by_cases hb : b = e
      · have q' : G'.get? b = some o := q
        rw [hb, ge] at q'; cases q'
      · exact (gk b hb).symm.trans q
    · rw [upd_ne (Ne.symm M.dne)]
      exact I1.hok.fresh M.new
/-- raise nm(e) -/
def tRaiseEr (C : Addr) (W : WX) (ta : TA) : TS := fun _ σ H => tMkEr C ta σ H fun cls d H' => W cls d σ H'
theorem ps_raiseEr {a : Expr} {ta : TA} {W : WX} {p pos pos2 : Pos} {k : Nat} (hc : X.calm = true) (T : ErTxt X.prog X.K X.mg nm "value" C fI) (hr : Room k X.A) (tk : Takes X W) (ha : PA X [a] ta) (hg : Gl X nm) (hdb : (nm == ("__debug__" : Str)) = false := by decide)
    (he : starEach (a :: []) X.env = (false, eval a X.env) :: starEach [] X.env := by rfl) (hpl : (backTo pos (starEach [] X.env)).any (·.1) = false := by rfl) :
    PS X (.Raise (some (.Call (.Name nm p) [a] [] pos)) none pos2) (tRaiseEr C W ta) := ps_raise hc tk (pmk_er T hr ha hg hdb he hpl)
theorem xf_of {K : PySem.W.Frag} {P : Program} {mg : Str → Option Value} (T : ErTxt P K mg nm "value" C fI) : XfC K C := ⟨T.ga, T.gg, T.exC, T.hdC⟩
/-- no error comes of it, by its promise -/
theorem passC {P : Program} {w : World} {X : Cx} (hP : X.prog = P := by rfl) (hw : X.w = w := by rfl) : Passes (L2.CX P w) X E0 := by
  subst hP
  subst hw
  exact passes_call takes0 (fun _ _ _ _ h => h)
/-- within a def that lets errors out -/
theorem passE {X : Cx} {E : XK} (tk : Takes X (fun cls d _ H => E cls d H)) : Passes (L2.CX X.prog X.w) X E := passes_call tk (fun _ _ _ _ h => h)
end
section
variable {X : Cx} {CX : CXT} {k : Nat} {f C : Addr} {fd : FuncData} {ps : List Str} {sp : Sp} {E : L2.St → XK} {m : Str} {pos apos : Pos} {e o : Expr} {es : List Expr} {ta : TE} {t : TA}
/-- o.m(e, ..), the wish for an error by the slots -/
def tMethS (C : Addr) (m : Str) (sp : Sp) (E : L2.St → XK) (ta : TE) (t : TA) : TE := fun σ H Q => ta σ H fun x H1 => ∃ a dx fs, x = .ref a ∧ H1 a = some (.ins C dx fs) ∧ fs.lookup m = none ∧ t σ H1 fun vs H2 => sp (x :: vs) H2 Q (E σ)
theorem pe_methS {pl : Sem Bool} (he : PE X o ta) (c : Cls X.K C) (hm : Meth X.K C m f) (F : FnOk X.prog X.w X.K X.mg X.base CX k f fd ps sp) (hr : Room k X.A) (hb : Binds X.K fd ps []) (hx : ∀ σ, PassesAt CX X σ (E σ)) (ha : PA X (e :: es) t)
    (hst : starEach (e :: es) X.env = (false, eval e X.env) :: starEach es X.env := by rfl) (hpl : (backTo pos (starEach es X.env)).any (·.1) = false := by rfl)
    (ht : eval (.Call (.Attribute o m apos) (e :: es) [] pos) X.env = (do
      let ov ← eval o X.env
      standAt apos.atName
      let (f, first) ← holding [ov] (getMethod ov m pl)
      callWith pos f first (backTo pos (starEach (e :: es) X.env)) (backToKw pos (keywordEach [] X.env))) := by rfl) :
    PE X (.Call (.Attribute o m apos) (e :: es) [] pos) (tMethS C m sp E ta t) := by
  refine ⟨fun pins s σ H Q I h => ?_⟩
  refine PySem.W.methodCall_KW (pl := pl) (thn (he.run pins s σ H _ I h) fun u s1 ⟨x, H1, I1, rx, a, dx, fs, ex, ea, l, q⟩ => ?_) ht
  subst ex
  obtain rfl : u = Value.ref a := rx
  refine getmeth_ok I1 ea c hm l ?_
  refine PySem.W.callWith_K (first := [.ref a]) (h₀ := X.base) I.ok.mod.kin hm.kp (thn (ha.run pos pins s1 σ H1 _ I1 q) fun us s2 ⟨vs, H2, I2, r, q2⟩ => ⟨I2.kIn, ?_⟩) hst hpl
  exact run_fnS (us := .ref a :: us) (vs := .ref a :: vs) F hr hb (hx σ) I2 (.cons rfl r) q2
end
/-! ### operators of own classes -/
section
variable {X : Cx} {CX : CXT} {k : Nat} {f C : Addr} {fd : FuncData} {ps : List Str} {sp : Sp} {E : XK}
theorem ins_at {pins : List (Addr × Obj)} {σ : L2.St} {H : Hp} {s : Shared} {a dx : Addr} {fs : List (Str × V)} (I : Inv X pins σ H s) (ea : H a = some (.ins C dx fs)) : ∃ ox od, PySem.W.InstAt s.heap a ox C (some od) := by
  obtain ⟨mA, O, _, _, _, _⟩ := ins_get I.hok ea
  obtain ⟨od, J, _⟩ := O.look
  exact ⟨_, od, J⟩
/-- what a class's __op__ wants: told by k_is -/
structure BinC (K : PySem.W.Frag) (C f : Addr) (op : Operator) (T : String) : Prop where
  sf : PySem.W.selfFirst K C = true
  at_ : PySem.W.findIn K (.ref C) (PySem.dunder op.info.2) = some (some (.ref f))
  fn : PySem.W.isFn K (.ref f) = true
  rv : PySem.W.findIn K (.ref C) (dunderR op.info.2) = some none
  t1 : ∃ fo, PySem.W.findIn K (.type T) (PySem.dunder op.info.2) = some fo
  t2 : ∃ ro, PySem.W.findIn K (.type T) (dunderR op.info.2) = some ro
  sb : PySem.W.subIn K (.type T) (.ref C) = some false
/-- x op i, x an instance, i an int -/
def rBinI (C : Addr) (sp : Sp) (E : XK) : R2 := fun x y H Q => ∃ a dx fs i, x = .ref a ∧ y = .int i ∧ H a = some (.ins C dx fs) ∧ sp [x, y] H Q E
theorem op_binI {op : Operator} (B : BinC X.K C f op "int") (F : FnOk X.prog X.w X.K X.mg X.base CX k f fd ps sp) (hr : Room k X.A) (hb : Binds X.K fd ps []) (hx : Passes CX X E) : OpR X (binaryOp op) (rBinI C sp E) := by
  intro pins s σ H x y v u Q I rx ry h
  obtain ⟨a, dx, fs, i, rfl, rfl, ea, q⟩ := h
  cases (show v = Value.ref a from rx)
  obtain ⟨t, rfl⟩ := (show ∃ t, u = Value.int i t from ry)
  obtain ⟨ox, od, J⟩ := ins_at I ea
  obtain ⟨m, hF⟩ := I.fr
  obtain ⟨fo, h1⟩ := B.t1
  obtain ⟨ro, h2⟩ := B.t2
  refine PySem.W.ksp_binT (T := "int") hF I.ok.mod.kin J rfl B.sf B.at_ B.fn B.rv (.inl rfl) h1 h2 B.sb ?_
  refine wpAny_mono (run_fn (us := [.ref a, .int i t]) (vs := [.ref a, .int i]) F hr hb .nil hx I (.cons rfl (.cons ⟨t, rfl⟩ .nil)) q) (fun w s' z => ?_) fun _ _ x => x
  obtain ⟨z', H', I', rz, qz⟩ := z
  exact SlX.cmpback rz ⟨z', H', I', rz, qz⟩
end
end VW

/-! further rules: text * int, list(text), repr -/
namespace VW
open PySem PySem.Spec PyProof.Rows L2
section
variable {X : Cx}
theorem op_mulS : OpR X (binaryOp .Mult) (fun x y H Q => ∃ z n, x = .str z ∧ y = .int n ∧ MulOk z n ∧ Q (.str (PySem.Txt.mul z n)) H) := by
  intro pins s σ H x y v u Q I rx ry h
  obtain ⟨z, n, rfl, rfl, hok, q⟩ := h
  obtain ⟨t, rfl⟩ := (show ∃ t, v = Value.str z t from rx)
  obtain ⟨t', rfl⟩ := (show ∃ t, u = Value.int n t from ry)
  exact SB.mul hok fun t' k => ⟨.str _, H, I.tok _, ⟨_, rfl⟩, q⟩
theorem mulOk_small {z : Str} {n : Int} (h0 : 0 ≤ n) (h1 : n ≤ 100) (hz : z.length ≤ 100) : MulOk z n := by
  refine ⟨?_, fun a b => ?_, fun a b => ?_⟩
  · simp only [Bool.or_eq_false_iff, decide_eq_false_iff_not]
    omega
  · have : (2 ^ 63 - 1 : Int) / n ≥ 100 := by
      refine Int.le_ediv_of_mul_le (by omega) ?_
      omega
    omega
  · have h2 : z.length * n.toNat ≤ 100 * 100 := Nat.mul_le_mul hz (by omega)
    have e : sizeLine = 16777216 := by decide
    unfold Builtin.Str.tooLong
    simp only [decide_eq_false_iff_not]
    omega
theorem vals_signs : ∀ (cs : List Nat) (us : List Value), us.length = cs.length → (∀ (j : Nat) (c : Nat) (v : Value), cs[j]? = some c → us[j]? = some v → ∃ t, v = Value.str ⟨#[c]⟩ t) → Vals (cs.map fun c => V.str ⟨#[c]⟩) us
  | [], [], _, _ => .nil
  | [], _ :: _, h, _ => by cases h
  | _ :: _, [], h, _ => by cases h
  | c :: cs, u :: us, h, k => .cons (k 0 c u rfl rfl) (vals_signs cs us (Nat.succ.inj h) fun j c v hc hv => k (j + 1) c v hc hv)
theorem call_listS (hc : X.calm = true) : CallR X (.type "list") (fun xs H Q => ∃ z : Str, xs = [.str z] ∧ z.cps.size ≤ sizeLine ∧ ∀ l, H l = none → Q (.ref l) (upd H l (.lst (z.cps.toList.map fun c => V.str ⟨#[c]⟩)))) := by
  intro pins s σ H xs us Q I r h
  obtain ⟨z, rfl, hz, q⟩ := h
  obtain ⟨u, rfl, t, rfl⟩ := vals1 r
  refine call_list_str (I.ok.hd hc) z t (fun h' tk acc' c' hk hS hacc => ?_) hz
  have rv : Vals (z.cps.toList.map fun c => V.str ⟨#[c]⟩) acc'.toList := by
    obtain ⟨h1, h2⟩ := hacc
    refine vals_signs z.cps.toList acc'.toList (by simp [h1]) fun j c v hc hv => ?_
    obtain ⟨c', u, e1, e2⟩ := h2 j v (by simpa using hv)
    have e3 : z.cps[j]? = some c := by simpa using hc
    rw [e3] at e1
    cases e1
    exact ⟨u, e2⟩
  exact ⟨.ref s.heap.objs.size, _, I.laid (t' := tk) hk (Nat.le_refl _) (show ObjOk X.prog X.w _ h' _ (.lst _) from ⟨by rw [List.length_map]; simpa using hz, acc'.toList, c', rv, by simpa using hS⟩), rfl, q _ (I.hok.fresh (Nat.le_refl _))⟩
/-- repr of plain values -/
inductive ReprIs : V → Str → Prop
  | non : ReprIs .non "None"
  | bl (b : Bool) : ReprIs (.bl b) (if b then "True" else "False")
  | int {i : Int} (h : i.natAbs.log2 < 1920) : ReprIs (.int i) (toString i)
  | str {z : Str} (h : (reprText z).length ≤ sizeLine) : ReprIs (.str z) (reprText z)
theorem call_reprF : CallR X (.builtin "repr") (fun xs H Q => ∃ v z, xs = [v] ∧ ReprIs v z ∧ Q (.str z) H) := by
  intro pins s σ H xs us Q I r h
  obtain ⟨v, z, rfl, hr, q⟩ := h
  obtain ⟨u, rfl, r1⟩ := vals1 r
  cases hr with
  | non =>
    cases (show u = Value.none from r1)
    exact PySem.P.repr_of_none ⟨.str _, H, I.tok _, ⟨_, rfl⟩, q⟩
  | bl b =>
    cases (show u = Value.bool b from r1)
    exact PySem.P.repr_of_bool ⟨.str _, H, I.tok _, ⟨_, rfl⟩, q⟩
  | @int i h =>
    obtain ⟨t, rfl⟩ := (show ∃ t, u = Value.int i t from r1)
    exact PySem.P.repr_of_int h ⟨.str _, H, I.tok _, ⟨_, rfl⟩, q⟩
  | @str z h =>
    obtain ⟨t, rfl⟩ := (show ∃ t, u = Value.str z t from r1)
    exact PySem.P.repr_of_str ⟨.str _, H, I.tok _, ⟨_, rfl⟩, q⟩ h
end
/-- a def with defaults, every argument written -/
theorem binds_all {K : PySem.W.Frag} {x qual : Str} {params : Arguments} {body : List Stmt} {scope : Scope} {dvs : List V} {kws : List (Str × V)} {f : Addr} {fd : FuncData} {ps : List Str} (F : FunD K x qual params body scope dvs kws f fd) (hd : dvs ≠ [])
    (h : ∀ (T : Addr) (kV doc pm : Value) (an : Option Addr) (cdv ct : Value) (us its : List Value), us.length = ps.length → its.length = dvs.length →
      ∃ k, bindArgs (PySem.W.fnOf x qual params body scope (.ref T) kV doc pm an cdv ct) ⟨us, []⟩ = seqItems? (.ref T) >>= k ∧ k (some its.toArray) = pure (ps.zip us)) : Binds K fd ps [] := by
  obtain ⟨ds, hv, hb⟩ := F.binds1 (ps := ps) ps.length dvs.length hd (by simp) fun T kV doc pm an cdv ct us its hu hi => by
    obtain ⟨k, e1, e2⟩ := h T kV doc pm an cdv ct us its hu hi
    exact ⟨k, e1, by rw [e2, ← hi, List.drop_length, List.append_nil]⟩
  rw [List.drop_length] at hv
  cases hv
  exact hb
end VW
namespace VW
open PySem PySem.Spec PyProof.Rows L2
theorem dp_strs {K : PySem.W.Frag} {H : Hp} : ∀ zs : List Str, DpAll K H (zs.map V.str) (zs.map PyData.str)
  | [] => .nil
  | _ :: r => .cons (.str _) (dp_strs r)
theorem dp_ints {K : PySem.W.Frag} {H : Hp} : ∀ zs : List Int, DpAll K H (zs.map V.int) (zs.map PyData.int)
  | [] => .nil
  | _ :: r => .cons (.int _) (dp_ints r)
def ascii (z : Str) : Prop := ∀ c ∈ z.cps.toList, c < 128
theorem ok_ascii {z : Str} (h : ascii z) : PyData.strOk z = true := by
  unfold PyData.strOk
  rw [Array.all_eq_true]
  intro i hi
  have := h z.cps[i] (by simp)
  exact decide_eq_true (by omega)
theorem lay_strs : ∀ zs : List Str, (∀ z ∈ zs, ascii z) → PyData.canLayAll0 (zs.map PyData.str) = true ∧ PyData.depthAll (zs.map PyData.str) = 0
  | [], _ => ⟨rfl, rfl⟩
  | z :: r, h => by
    obtain ⟨a, b⟩ := lay_strs r fun x hx => h x (List.mem_cons_of_mem _ hx)
    have hs := ok_ascii (h z (List.mem_cons_self ..))
    refine ⟨?_, ?_⟩
    · simp only [List.map_cons, PyData.canLayAll0, PyData.canLay0, hs, a, Bool.and_self]
    · simpa [PyData.depthAll, PyData.depth] using b
theorem lay_ints : ∀ zs : List Int, PyData.canLayAll0 (zs.map PyData.int) = true ∧ PyData.depthAll (zs.map PyData.int) = 0
  | [] => ⟨rfl, rfl⟩
  | z :: r => by
    obtain ⟨a, b⟩ := lay_ints r
    refine ⟨?_, ?_⟩
    · simp only [List.map_cons, PyData.canLayAll0, PyData.canLay0, a, Bool.and_self]
    · simpa [PyData.depthAll, PyData.depth] using b
theorem shaped_strs (zs : List Str) (h : ∀ z ∈ zs, ascii z) : SeqAt.shaped (.list (zs.map PyData.str)) = true := by
  obtain ⟨a, b⟩ := lay_strs zs h
  unfold SeqAt.shaped
  simp [PyData.canLay0, PyData.depth, a, b]
theorem shaped_ints (zs : List Int) : SeqAt.shaped (.list (zs.map PyData.int)) = true := by
  obtain ⟨a, b⟩ := lay_ints zs
  unfold SeqAt.shaped
  simp [PyData.canLay0, PyData.depth, a, b]
theorem mul_cps (x : Str) (n : Int) : (∀ c ∈ (PySem.Txt.mul x n).cps.toList, c ∈ x.cps.toList) ∧ (PySem.Txt.mul x n).length ≤ x.length * n.toNat := by
  unfold PySem.Txt.mul
  by_cases h1 : n < 1
  · rw [if_pos h1]
    exact ⟨(by intro c hc; exact absurd hc (by simp [PySem.Str.empty])), Nat.zero_le _⟩
  · rw [if_neg h1]
    by_cases h2 : (n == 1 || x.length == 0) = true
    · rw [if_pos h2]
      refine ⟨fun c hc => hc, ?_⟩
      have : 1 ≤ n.toNat := by omega
      exact Nat.le_mul_of_pos_right _ this
    · rw [if_neg h2]
      have key : ∀ (k : Nat) (acc : Array Nat), (∀ c ∈ acc.toList, c ∈ x.cps.toList) → (∀ c ∈ ((List.replicate k x.cps).foldl (· ++ ·) acc).toList, c ∈ x.cps.toList) ∧ ((List.replicate k x.cps).foldl (· ++ ·) acc).size = acc.size + k * x.cps.size := by
        intro k
        induction k with
        | zero => intro acc h; exact ⟨h, by simp⟩
        | succ k ih =>
          intro acc h
          rw [List.replicate_succ, List.foldl_cons]
          obtain ⟨a, b⟩ := ih (acc ++ x.cps) (fun c hc => by
            rw [Array.toList_append] at hc
            rcases List.mem_append.mp hc with q | q
            · exact h c q
            · exact q)
          refine ⟨a, ?_⟩
          rw [b, Array.size_append, Nat.succ_mul]
          omega
      obtain ⟨a, b⟩ := key n.toNat #[] (fun c hc => by cases hc)
      refine ⟨a, ?_⟩
      show ((List.replicate n.toNat x.cps).foldl (· ++ ·) #[]).size ≤ x.cps.size * n.toNat
      rw [b, Nat.mul_comm]
      simp
theorem seqIndex_nat {j n : Nat} (h : j < n) : seqIndex? (j : Int) n = some j := by
  unfold seqIndex?
  have h1 : ¬ ((j : Int) < 0) := by omega
  simp only [h1, if_false]
  rw [if_pos (by simp only [Bool.and_eq_true, decide_eq_true_eq]; omega)]
  simp
theorem app_inj {a b c : Str} (h : a ++ b = a ++ c) : b = c := by
  have e : (a ++ b).cps.toList = (a ++ c).cps.toList := by rw [h]
  rw [PySem.Str.cps_append, PySem.Str.cps_append, Array.toList_append, Array.toList_append] at e
  have e2 := List.append_cancel_left e
  cases b
  cases c
  congr 1
  exact Array.toList_inj.mp e2
theorem app_mem {a b : Str} {c : Nat} (h : c ∈ (a ++ b).cps.toList) : c ∈ a.cps.toList ∨ c ∈ b.cps.toList := by
  rw [PySem.Str.cps_append, Array.toList_append] at h
  exact List.mem_append.mp h
def lets (z : Str) : Prop := ∀ c ∈ z.cps.toList, isLet c = true
theorem lets_ascii {z : Str} (h : lets z) : ascii z := fun c hc => by
  have h1 : c ∈ LET.cps.toList := of_decide_eq_true (h c hc)
  exact (by decide : ∀ c ∈ LET.cps.toList, c < 128) c h1
theorem isNm_of {z : Str} (h : lets z) (h1 : 1 ≤ z.length) (h8 : z.length ≤ 8) : isNm z = true := by
  unfold isNm
  rw [decide_eq_true h1, decide_eq_true h8, List.all_eq_true.mpr h]
  rfl
end VW
namespace VW
theorem erase_perm {α : Type} : ∀ (l : List α) (i : Nat) (h : i < l.length), (l[i] :: l.eraseIdx i).Perm l
  | [], _, h => by cases h
  | a :: r, 0, _ => List.Perm.refl _
  | a :: r, i + 1, h => by
    have h' : i < r.length := Nat.lt_of_succ_lt_succ h
    have ih := erase_perm r i h'
    show (r[i] :: a :: r.eraseIdx i).Perm (a :: r)
    exact (List.Perm.swap a r[i] _).trans (ih.cons a)
theorem map_erase {α β : Type} (f : α → β) : ∀ (l : List α) (i : Nat), (l.map f).eraseIdx i = (l.eraseIdx i).map f
  | [], _ => rfl
  | a :: r, 0 => rfl
  | a :: r, i + 1 => by
    show f a :: (r.map f).eraseIdx i = f a :: (r.eraseIdx i).map f
    rw [map_erase f r i]
theorem nodup_map {α β : Type} {f : α → β} (hf : ∀ a b, f a = f b → a = b) : ∀ {l : List α}, l.Nodup → (l.map f).Nodup
  | [], _ => List.nodup_nil
  | a :: r, h => by
    rw [List.nodup_cons] at h
    rw [List.map_cons, List.nodup_cons]
    refine ⟨fun hm => ?_, nodup_map hf h.2⟩
    obtain ⟨b, hb, e⟩ := List.mem_map.mp hm
    exact h.1 (hf b a e ▸ hb)
end VW
namespace VW
open PySem PySem.Spec PyProof.Rows L2
theorem hu_in {k : Nat} {A : Around} (r : Room k A) : A.units + 65 < cLine := by
  have := r.un
  omega
theorem dpAll_of {K : PySem.W.Frag} {H : Hp} : ∀ (vs : List V) (ds : List PyData), vs.length = ds.length → (∀ (j : Nat) (v : V) (d : PyData), vs[j]? = some v → ds[j]? = some d → Dp K H v d) → DpAll K H vs ds
  | [], [], _, _ => .nil
  | [], _ :: _, h, _ => by cases h
  | _ :: _, [], h, _ => by cases h
  | v :: vs, d :: ds, h, k => .cons (k 0 v d rfl rfl) (dpAll_of vs ds (Nat.succ.inj h) fun j v d hv hd => k (j + 1) v d hv hd)
theorem layAll_of : ∀ (ds : List PyData) (n : Nat), (∀ d ∈ ds, PyData.canLay0 d = true ∧ PyData.depth d ≤ n) → PyData.canLayAll0 ds = true ∧ PyData.depthAll ds ≤ n
  | [], _, _ => ⟨rfl, Nat.zero_le _⟩
  | d :: r, n, h => by
    obtain ⟨a, b⟩ := layAll_of r n fun x hx => h x (List.mem_cons_of_mem _ hx)
    obtain ⟨c, e⟩ := h d (List.mem_cons_self ..)
    refine ⟨?_, ?_⟩
    · simp only [PyData.canLayAll0, c, a, Bool.and_self]
    · simp only [PyData.depthAll]
      omega
theorem shapedL {ds : List PyData} (h : ∀ d ∈ ds, PyData.canLay0 d = true ∧ PyData.depth d ≤ 60) : SeqAt.shaped (.list ds) = true := by
  obtain ⟨a, b⟩ := layAll_of ds 60 h
  unfold SeqAt.shaped
  simp only [PyData.canLay0, PyData.depth, a, Bool.true_and]
  exact decide_eq_true (by omega)
theorem shapedT {ds : List PyData} (h : ∀ d ∈ ds, PyData.canLay0 d = true ∧ PyData.depth d ≤ 60) : SeqAt.shaped (.tuple ds) = true := by
  obtain ⟨a, b⟩ := layAll_of ds 60 h
  unfold SeqAt.shaped
  simp only [PyData.canLay0, PyData.depth, a, Bool.true_and]
  exact decide_eq_true (by omega)
/-- a cell as data -/
def cellD (nm : Str) (a : Int) : PyData := .tuple [.str nm, .int a]
theorem cellD_lay {nm : Str} (h : ascii nm) (a : Int) : PyData.canLay0 (cellD nm a) = true ∧ PyData.depth (cellD nm a) ≤ 60 := by
  refine ⟨?_, ?_⟩
  · simp only [cellD, PyData.canLay0, PyData.canLayAll0, ok_ascii h, Bool.and_self]
  · simp [cellD, PyData.depth, PyData.depthAll]
theorem cellD_shaped {nm : Str} (h : ascii nm) (a : Int) : SeqAt.shaped (cellD nm a) = true := by
  obtain ⟨x, y⟩ := cellD_lay h a
  unfold SeqAt.shaped
  rw [x, Bool.true_and, decide_eq_true_eq]
  omega
theorem cellD_eqv (nm : Str) (a b : Int) : PyData.eqv (cellD nm a) (cellD nm b) = decide (a = b) := by
  simp [cellD, PyData.eqv, PyData.eqvAll]
  by_cases h : a = b <;> simp [h]
/-- the distances that are found -/
def distL (st f g : Int) : List Int := if (f - g) % st = 0 then [(f - g) / st] else []
theorem dist_meet {st f g i j : Int} (h : 1 ≤ st) (e : st * j + g = st * i + f) : (f - g) % st = 0 ∧ (f - g) / st = j - i := by
  have e2 : f - g = st * (j - i) := by rw [Int.mul_sub]; omega
  rw [e2]
  exact ⟨Int.mul_emod_right _ _, Int.mul_ediv_cancel_left _ (by omega)⟩
theorem dist_there {st f g i : Int} (h : 1 ≤ st) (d : (f - g) % st = 0) : st * (i + (f - g) / st) + g = st * i + f := by
  have e := Int.mul_ediv_cancel' (Int.dvd_of_emod_eq_zero d)
  rw [Int.mul_add, e]
  omega
theorem dist_small {st f g : Int} (h : 1 ≤ st) (f0 : -9 ≤ f) (f1 : f ≤ 9) (g0 : -9 ≤ g) (g1 : g ≤ 9) : -18 ≤ (f - g) / st ∧ (f - g) / st ≤ 18 := by
  constructor
  · refine Int.le_ediv_of_mul_le (by omega) ?_
    omega
  · refine Int.le_trans (Int.ediv_le_ediv (by omega) (show f - g ≤ 18 by omega)) ?_
    exact Int.ediv_le_self _ (by omega)
end VW
namespace VW
open PySem PySem.Spec PyProof.Rows L2
theorem inV_ints (x : Int) : ∀ fs : List Int, inV (V.int x) (fs.map V.int) = decide (x ∈ fs)
  | [] => rfl
  | a :: r => by
    have ih := inV_ints x r
    unfold inV at ih ⊢
    rw [List.map_cons, List.any_cons, ih]
    have e : eqV (V.int a) (V.int x) = decide (a = x) := by
      first | rfl | simp [eqV]
    rw [e]
    by_cases h : a = x
    · subst h
      simp
    · have h' : ¬ x = a := fun z => h z.symm
      simp [h, h']
end VW

/-! ==, !=, len, in, [..] of instances by their classes' own defs -/
namespace PySem.W
open PySem PySem.Calls PyProof.Rows
section
variable {prog : Program} {w : World} {A : Around} {E : Value → Shared → Prop} {s : Shared} {K : Frag} {x C L f : Addr} {h₀ : Heap} {m : Str → Option Value} {ox : Obj} {od : Option Obj} {b tb : Value}
theorem vw_bound_builtin {M : Model} {name : Str} {id : String} {args : List Value} {Q : Option Value → Shared → Prop} (X : K.In s.heap) (I : InstAt s.heap x ox C od) (hs : findIn K (.ref C) name = some (some (.builtin id)))
    (hb : ∀ v, bindSpecial (.builtin id) v = pure (.builtin id, [v])) (h : wpAny M A (call (.builtin id) (.ref x :: args)) (fun v => Q (some v)) E s) : wpAny M A (callSpecialIfBound? (.ref x) name args) Q E s := by
  simp only [callSpecialIfBound?, bindSpecialIfBound?]
  refine wpAny_holding (wpAny_bind (wpAny_bind (wpAny_bind (I.type.here ((looks_findIn X hs).here ?_)))))
  simp only [hb]
  refine wpAny_bind (wpAny_askSetting (wpAny_ite ?_))
  have fin : wpAny M A (call (.builtin id) ([.ref x] ++ args) >>= fun v => pure (some v)) Q E s := wpAny_bind (wpAny_mono h (fun v s' h' => wpAny_pure h') fun _ _ h' => h')
  split
  · exact wpAny_bind (wpAny_pure (wpAny_pure (by exact fin)))
  · exact wpAny_tryCatch (wpAny_bind (wpAny_pure (wpAny_pure (by exact fin))))
theorem vw_ne_entry {Q : Fin → Shared → Prop} (X : K.In s.heap) (I : InstAt s.heap x ox C od) (hs : findIn K (.ref C) "__eq__" = some (some (.ref f))) (hf : isFn K (.ref f) = true) (hu : A.units < cLine)
    (hcall : wpAny (model prog w) A (call (.ref f) [.ref x, b]) (fun v s' => ∃ c, v = .bool c ∧ Q (.done (.ret (.bool (!c)))) s') E s) :
    wpAny (model prog w) A (Builtin.«object.__ne__» ⟨[.ref x, b], []⟩) Q E s := by
  have one : wpAny (model prog w) A (callSpecialIfBound? (.ref x) (Str.ofString "__eq__") [b]) (fun r s' => ∃ c, r = some (.bool c) ∧ Q (.done (.ret (.bool (!c)))) s') E s :=
    ifBound_K X I hs hf (wpAny_mono hcall (fun v s' ⟨c, e, q⟩ => ⟨c, by rw [e], q⟩) fun _ _ e => e)
  obtain ⟨hp, g, d, t, os⟩ := s
  unfold Builtin.«object.__ne__»
  repeat (first
    | with_reducible refine wpAny_cRoomFor hu ?_
    | (refine wpAny_bind (m := callSpecialIfBound? (.ref x) (Str.ofString "__eq__") [b]) (wpAny_mono one (fun r s' hr => by
          obtain ⟨c, rfl, hq⟩ := hr
          repeat (first | exact hq | exact wpAny_pure hq | exact wpAny_truthy_bool hq | (refine wpAny_bind (m := truthy (.bool _)) (wpAny_truthy_bool ?_)) | wp_step)) fun _ _ e => e))
    | wp_step)
theorem vw_ne_K {Q : Value → Shared → Prop} (hu : A.units + 1 < cLine) (F : Fr h₀ L s.heap m) (X₀ : K.In h₀) (I : InstAt s.heap x ox C od) (hb : Looks (model prog w) s.heap (typeOf b) tb) (hn : notFirst K C tb = true)
    (hne : findIn K (.ref C) "__ne__" = some (some (.builtin "object.__ne__"))) (hob : mroIn K C (.type "object") = some true) (hs : findIn K (.ref C) "__eq__" = some (some (.ref f))) (hf : isFn K (.ref f) = true)
    (h : wpAny (model prog w) A.in1 (call (.ref f) [.ref x, b]) (fun v s' => ∃ c, v = .bool c ∧ Q (.bool (!c)) s') E s) : wpAny (model prog w) A (richCompare .NotEq (.ref x) b) Q E s := by
  have X := X₀.keeps F.keep
  have one : wpAny (model prog w) A (tryCompare (.ref x) (cmpInfo .NotEq).2.1 b) (fun r s' => ∃ v, r = some v ∧ Q v s') E s := by
    unfold tryCompare
    refine wpAny_bind (vw_bound_builtin X I hne (fun v => PySem.F.cmp_object.ne.bind v) (wpAny_call (codeAny_call_builtin PySem.F.cmp_object.ne.plain PySem.F.cmpEntry_ne
      (check_slot PySem.F.cmpKind_ne PySem.F.cmpSplit_ne (I.type.andThen (looks_mroIn X hob)) (PySem.F.cmpArgs_ne _ _) (vw_ne_entry (A := A.in1) X I hs hf hu (wpAny_mono h (fun v s' hv => ?_) fun _ _ e => e))))))
    obtain ⟨c, rfl, hq⟩ := hv
    first | exact ⟨c, rfl, wpAny_pure ⟨_, rfl, hq⟩⟩ | exact ⟨c, rfl, wpAny_pure (wpAny_pure ⟨_, rfl, hq⟩)⟩
  unfold richCompare
  simp only [oneThing_ref]
  refine wpAny_holding (wpAny_bind (wpAny_cRoomFor (Nat.lt_of_succ_lt hu) ?_))
  refine wpAny_bind (I.type.here (wpAny_bind (hb.here ?_)))
  split
  · rename_i q
    have e : subIn K tb (.ref C) = some false := by
      rcases Bool.or_eq_true_iff.mp hn with e | e
      · rw [beq_iff_eq.mp e] at q; simp at q
      · exact beq_iff_eq.mp e
    refine wpAny_bind ((looks_subIn X e).here ?_)
    simp only [Bool.false_eq_true, if_false]
    refine wpAny_bind (wpAny_mono one (fun r s' z => ?_) fun _ _ e => e)
    obtain ⟨v, rfl, hq⟩ := z
    exact wpAny_pure hq
  · refine wpAny_bind (wpAny_pure ?_)
    simp only [Bool.false_eq_true, if_false]
    refine wpAny_bind (wpAny_mono one (fun r s' z => ?_) fun _ _ e => e)
    obtain ⟨v, rfl, hq⟩ := z
    exact wpAny_pure hq
end
end PySem.W
namespace VW
open PySem PySem.Spec PyProof.Rows L2
section
variable {X : Cx} {CX : CXT} {k : Nat} {f C : Addr} {fd : FuncData} {ps : List Str} {sp : Sp} {E : XK}
/-- the callee runs one deeper -/
theorem run_in1 {pins : List (Addr × Obj)} {σ : L2.St} {H : Hp} {s : Shared} {Q : VK} {us : List Value} {vs : List V} (F : FnOk X.prog X.w X.K X.mg X.base CX k f fd ps sp) (hr : Room (k + 1) X.A) (hb : Binds X.K fd ps []) (hx : Passes CX X E)
    (I : Inv X pins σ H s) (r : Vals vs us) (h : sp vs H Q E) : wpAny (model X.prog X.w) X.A.in1 (call (.ref f) us) (EP X pins σ Q) X.xe s := by
  have hl : us.length = ps.length := by rw [← r.length]; exact F.len _ _ _ _ h
  have hb' := hb s us I.kIn (by rw [List.append_nil]; exact hl)
  rw [List.append_nil] at hb'
  refine wpAny_call (codeAny_mono (F.run X.A.in1 X.stack s H ⟨us, []⟩ us vs Q E hr.in1 I.env0.in1 hb' r h) fun r s' hq => ?_)
  cases r with
  | error e => exact hx pins σ H s e s' I hq
  | ok fl =>
    cases fl with
    | ret u => exact I.after hq
    | next => exact False.elim hq
    | brk => exact False.elim hq
    | cont => exact False.elim hq
/-- the class's own __eq__ -/
structure EqC (K : PySem.W.Frag) (C f : Addr) : Prop where
  eq : PySem.W.findIn K (.ref C) "__eq__" = some (some (.ref f))
  fn : PySem.W.isFn K (.ref f) = true
  ne : PySem.W.findIn K (.ref C) "__ne__" = some (some (.builtin "object.__ne__"))
  ob : PySem.W.mroIn K C (.type "object") = some true
/-- y's type does not go first -/
def NotFst (K : PySem.W.Frag) (C : Addr) (H : Hp) (y : V) : Prop := (∃ b dx fs, y = .ref b ∧ H b = some (.ins C dx fs)) ∨ ∃ t, TyX K H y t ∧ PySem.W.notFirst K C t = true
theorem notFst_at {pins : List (Addr × Obj)} {σ : L2.St} {H : Hp} {s : Shared} {y : V} {u : Value} (I : Inv X pins σ H s) (ry : RelV y u) (h : NotFst X.K C H y) : ∃ t, PySem.W.Looks (model X.prog X.w) s.heap (typeOf u) t ∧ PySem.W.notFirst X.K C t = true := by
  rcases h with ⟨b, dx, fs, rfl, eb⟩ | ⟨t, ty, hn⟩
  · cases (show u = Value.ref b from ry)
    obtain ⟨ox, od, J⟩ := ins_at I eb
    exact ⟨.ref C, J.type, by unfold PySem.W.notFirst; simp⟩
  · obtain ⟨P, Z, p, _⟩ := kit_of I ry ty
    exact ⟨t, Z.ty _ _ I.kIn p, hn⟩
def rEqO (K : PySem.W.Frag) (C : Addr) (sp : Sp) (E : XK) : R2 := fun x y H Q => ∃ a dx fs, x = .ref a ∧ H a = some (.ins C dx fs) ∧ NotFst K C H y ∧ sp [x, y] H Q E
theorem op_eqO (B : EqC X.K C f) (F : FnOk X.prog X.w X.K X.mg X.base CX k f fd ps sp) (hr : Room k X.A) (hb : Binds X.K fd ps []) (hx : Passes CX X E) : OpR X (compareOp .Eq) (rEqO X.K C sp E) := by
  intro pins s σ H x y v u Q I rx ry h
  obtain ⟨a, dx, fs, rfl, ea, hn, q⟩ := h
  cases (show v = Value.ref a from rx)
  obtain ⟨ox, od, J⟩ := ins_at I ea
  obtain ⟨t, ht, hn'⟩ := notFst_at I ry hn
  obtain ⟨m, hF⟩ := I.fr
  show wpAny _ _ (richCompare .Eq (.ref a) u) _ _ _
  refine PySem.W.cmp_K (op := .Eq) hr.units0 hF I.ok.mod.kin J ht hn' B.eq B.fn ?_
  refine wpAny_mono (run_fn (us := [.ref a, u]) (vs := [.ref a, y]) F hr hb .nil hx I (.cons rfl (.cons ry .nil)) q) (fun w s' z => ?_) fun _ _ x => x
  obtain ⟨z', H', I', rz, qz⟩ := z
  exact SlX.cmpback rz ⟨z', H', I', rz, qz⟩
def rNeO (K : PySem.W.Frag) (C : Addr) (sp : Sp) (E : XK) : R2 := fun x y H Q => ∃ a dx fs, x = .ref a ∧ H a = some (.ins C dx fs) ∧ NotFst K C H y ∧ sp [x, y] H (fun v H' => ∃ c, v = .bl c ∧ Q (.bl (!c)) H') E
theorem op_neO (B : EqC X.K C f) (F : FnOk X.prog X.w X.K X.mg X.base CX k f fd ps sp) (hr : Room (k + 1) X.A) (hb : Binds X.K fd ps []) (hx : Passes CX X E) : OpR X (compareOp .NotEq) (rNeO X.K C sp E) := by
  intro pins s σ H x y v u Q I rx ry h
  obtain ⟨a, dx, fs, rfl, ea, hn, q⟩ := h
  cases (show v = Value.ref a from rx)
  obtain ⟨ox, od, J⟩ := ins_at I ea
  obtain ⟨t, ht, hn'⟩ := notFst_at I ry hn
  obtain ⟨m, hF⟩ := I.fr
  show wpAny _ _ (richCompare .NotEq (.ref a) u) _ _ _
  refine PySem.W.vw_ne_K (hu_of hr) hF I.ok.mod.kin J ht hn' B.ne B.ob B.eq B.fn ?_
  refine wpAny_mono (run_in1 (us := [.ref a, u]) (vs := [.ref a, y]) F hr hb hx I (.cons rfl (.cons ry .nil)) q) (fun w s' z => ?_) fun _ _ x => x
  obtain ⟨z', H', I', rz, c, rfl, qz⟩ := z
  cases (show w = Value.bool c from rz)
  exact ⟨c, rfl, .bl (!c), H', I', rfl, qz⟩
/-- len(x) by __len__ -/
structure SpC (K : PySem.W.Frag) (C f : Addr) (m : Str) : Prop where
  at_ : PySem.W.findIn K (.ref C) m = some (some (.ref f))
  fn : PySem.W.isFn K (.ref f) = true
theorem call_lenO (B : SpC X.K C f "__len__") (F : FnOk X.prog X.w X.K X.mg X.base CX k f fd ps sp) (hr : Room (k + 1) X.A) (hb : Binds X.K fd ps []) (hx : Passes CX X E) :
    CallR X (.builtin "len") (fun xs H Q => ∃ a dx fs, xs = [.ref a] ∧ H a = some (.ins C dx fs) ∧ sp [.ref a] H (fun v H' => ∃ n : Nat, v = .int n ∧ n ≤ 1000000 ∧ Q (.int n) H') E) := by
  intro pins s σ H xs us Q I r h
  obtain ⟨a, dx, fs, rfl, ea, q⟩ := h
  obtain ⟨u, rfl, ru⟩ := vals1 r
  cases (show u = Value.ref a from ru)
  obtain ⟨ox, od, J⟩ := ins_at I ea
  obtain ⟨m, hF⟩ := I.fr
  refine PySem.W.len_K hF I.ok.mod.kin J B.at_ B.fn ?_
  refine wpAny_mono (run_in1 (us := [.ref a]) (vs := [.ref a]) F hr hb hx I (.cons rfl .nil) q) (fun w s' z => ?_) fun _ _ x => x
  obtain ⟨z', H', I', rz, n, rfl, hn, qz⟩ := z
  obtain ⟨t, rfl⟩ := (show ∃ t, w = Value.int n t from rz)
  exact ⟨⟨by omega, by omega⟩, .int n, H', I'.tok _, ⟨_, rfl⟩, qz⟩
/-- y in x, y not in x by __contains__ -/
theorem op_inO (B : SpC X.K C f "__contains__") (F : FnOk X.prog X.w X.K X.mg X.base CX k f fd ps sp) (hr : Room k X.A) (hb : Binds X.K fd ps []) (hx : Passes CX X E) :
    OpR X (compareOp .In) (fun y x H Q => ∃ a dx fs, x = .ref a ∧ H a = some (.ins C dx fs) ∧ sp [x, y] H (fun v H' => ∃ c, v = .bl c ∧ Q (.bl c) H') E) := by
  intro pins s σ H y x u v Q I ry rx h
  obtain ⟨a, dx, fs, rfl, ea, q⟩ := h
  cases (show v = Value.ref a from rx)
  obtain ⟨ox, od, J⟩ := ins_at I ea
  obtain ⟨m, hF⟩ := I.fr
  refine PySem.W.in_K hF I.ok.mod.kin J B.at_ B.fn ?_
  refine wpAny_mono (run_fn (us := [.ref a, u]) (vs := [.ref a, y]) F hr hb .nil hx I (.cons rfl (.cons ry .nil)) q) (fun w s' z => ?_) fun _ _ x => x
  obtain ⟨z', H', I', rz, c, rfl, qz⟩ := z
  cases (show w = Value.bool c from rz)
  exact wpAny_truthy_bool ⟨.bl c, H', I', rfl, qz⟩
theorem op_notInO (B : SpC X.K C f "__contains__") (F : FnOk X.prog X.w X.K X.mg X.base CX k f fd ps sp) (hr : Room k X.A) (hb : Binds X.K fd ps []) (hx : Passes CX X E) :
    OpR X (compareOp .NotIn) (fun y x H Q => ∃ a dx fs, x = .ref a ∧ H a = some (.ins C dx fs) ∧ sp [x, y] H (fun v H' => ∃ c, v = .bl c ∧ Q (.bl (!c)) H') E) := by
  intro pins s σ H y x u v Q I ry rx h
  obtain ⟨a, dx, fs, rfl, ea, q⟩ := h
  cases (show v = Value.ref a from rx)
  obtain ⟨ox, od, J⟩ := ins_at I ea
  obtain ⟨m, hF⟩ := I.fr
  refine PySem.W.notIn_K hF I.ok.mod.kin J B.at_ B.fn ?_
  refine wpAny_mono (run_fn (us := [.ref a, u]) (vs := [.ref a, y]) F hr hb .nil hx I (.cons rfl (.cons ry .nil)) q) (fun w s' z => ?_) fun _ _ x => x
  obtain ⟨z', H', I', rz, c, rfl, qz⟩ := z
  cases (show w = Value.bool c from rz)
  exact wpAny_truthy_bool ⟨.bl (!c), H', I', rfl, qz⟩
end
end VW

/-! data that stays; a def with a default and a star; making with a star -/
namespace VW
open PySem PySem.Spec PyProof.Rows L2 StX
mutual
theorem dp_same {K : PySem.W.Frag} {H H' : Hp} (e : Same H H') : ∀ (d : PyData) (v : V), Dp K H v d → Dp K H' v d
  | .none, _, h => by cases h; exact .non
  | .bool b, _, h => by cases h; exact .bl b
  | .int i, _, h => by cases h; exact .int i
  | .str x, _, h => by cases h; exact .str x
  | .list ds, _, h => by
    cases h with
    | lst h1 h2 => exact .lst (e.seq h1) (dpAll_same e ds _ h2)
  | .tuple ds, _, h => by
    cases h with
    | tup h1 h2 => exact .tup (same_t e h1) (dpAll_same e ds _ h2)
  | .dict _, _, h => by cases h
theorem dpAll_same {K : PySem.W.Frag} {H H' : Hp} (e : Same H H') : ∀ (ds : List PyData) (vs : List V), DpAll K H vs ds → DpAll K H' vs ds
  | [], _, h => by cases h; exact .nil
  | d :: ds, _, h => by
    cases h with
    | cons h1 h2 => exact .cons (dp_same e d _ h1) (dpAll_same e ds _ h2)
end
mutual
/-- no list within -/
def noL : PyData → Bool
  | .none | .bool _ | .int _ | .str _ => true
  | .list _ => false
  | .tuple ds => noLs ds
  | .dict _ => false
def noLs : List PyData → Bool
  | [] => true
  | d :: r => noL d && noLs r
end
mutual
theorem dp_kp {K : PySem.W.Frag} {s L : Addr} {H H' : Hp} (e : Kp s H H') (S : Src H s L) : ∀ (d : PyData) (v : V), noL d = true → Dp K H v d → Dp K H' v d
  | .none, _, _, h => by cases h; exact .non
  | .bool b, _, _, h => by cases h; exact .bl b
  | .int i, _, _, h => by cases h; exact .int i
  | .str x, _, _, h => by cases h; exact .str x
  | .list ds, _, n, _ => by simp [noL] at n
  | .tuple ds, _, n, h => by
    cases h with
    | tup h1 h2 => exact .tup (e.t S h1) (dpAll_kp e S ds _ (by simpa [noL] using n) h2)
  | .dict _, _, _, h => by cases h
theorem dpAll_kp {K : PySem.W.Frag} {s L : Addr} {H H' : Hp} (e : Kp s H H') (S : Src H s L) : ∀ (ds : List PyData) (vs : List V), noLs ds = true → DpAll K H vs ds → DpAll K H' vs ds
  | [], _, _, h => by cases h; exact .nil
  | d :: ds, _, n, h => by
    have n' : noL d = true ∧ noLs ds = true := by simpa [noLs] using n
    cases h with
    | cons h1 h2 => exact .cons (dp_kp e S d _ n'.1 h1) (dpAll_kp e S ds _ n'.2 h2)
end
mutual
/-- an instance p is being filled: what holds no list stays -/
theorem dp_ins {K : PySem.W.Frag} {p C dx : Addr} {fs : List (Str × V)} {H H' : Hp} (e : Kp p H H') (hp : H p = some (.ins C dx fs)) : ∀ (d : PyData) (v : V), Dp K H v d → Dp K H' v d
  | .none, _, h => by cases h; exact .non
  | .bool b, _, h => by cases h; exact .bl b
  | .int i, _, h => by cases h; exact .int i
  | .str x, _, h => by cases h; exact .str x
  | .list ds, _, h => by
    cases h with
    | lst h1 h2 =>
      refine .lst ?_ (dpAll_ins e hp ds _ h2)
      rcases h1 with (h | ⟨o, h⟩) | h
      · exact .inl (.inl (e _ _ h (ne_of h hp (by intro z; cases z))))
      · exact .inl (.inr ⟨o, e _ _ h (ne_of h hp (by intro z; cases z))⟩)
      · exact .inr h
  | .tuple ds, _, h => by
    cases h with
    | tup h1 h2 =>
      refine .tup ?_ (dpAll_ins e hp ds _ h2)
      rcases h1 with (h | ⟨o, h⟩) | h
      · exact .inl (.inl (e _ _ h (ne_of h hp (by intro z; cases z))))
      · exact .inl (.inr ⟨o, e _ _ h (ne_of h hp (by intro z; cases z))⟩)
      · exact .inr h
  | .dict _, _, h => by cases h
theorem dpAll_ins {K : PySem.W.Frag} {p C dx : Addr} {fs : List (Str × V)} {H H' : Hp} (e : Kp p H H') (hp : H p = some (.ins C dx fs)) : ∀ (ds : List PyData) (vs : List V), DpAll K H vs ds → DpAll K H' vs ds
  | [], _, h => by cases h; exact .nil
  | d :: ds, _, h => by
    cases h with
    | cons h1 h2 => exact .cons (dp_ins e hp d _ h1) (dpAll_ins e hp ds _ h2)
end
mutual
/-- a list at s is changed: what holds no list stays -/
theorem dp_kpl {K : PySem.W.Frag} {s : Addr} {xs : List V} {H H' : Hp} (e : Kp s H H') (hs : H s = some (.lst xs)) : ∀ (d : PyData) (v : V), noL d = true → Dp K H v d → Dp K H' v d
  | .none, _, _, h => by cases h; exact .non
  | .bool b, _, _, h => by cases h; exact .bl b
  | .int i, _, _, h => by cases h; exact .int i
  | .str x, _, _, h => by cases h; exact .str x
  | .list ds, _, n, _ => by simp [noL] at n
  | .tuple ds, _, n, h => by
    cases h with
    | tup h1 h2 =>
      refine .tup ?_ (dpAll_kpl e hs ds _ (by simpa [noL] using n) h2)
      rcases h1 with (h | ⟨o, h⟩) | h
      · exact .inl (.inl (e _ _ h (ne_of h hs (by intro z; cases z))))
      · exact .inl (.inr ⟨o, e _ _ h (ne_of h hs (by intro z; cases z))⟩)
      · exact .inr h
  | .dict _, _, _, h => by cases h
theorem dpAll_kpl {K : PySem.W.Frag} {s : Addr} {xs : List V} {H H' : Hp} (e : Kp s H H') (hs : H s = some (.lst xs)) : ∀ (ds : List PyData) (vs : List V), noLs ds = true → DpAll K H vs ds → DpAll K H' vs ds
  | [], _, _, h => by cases h; exact .nil
  | d :: ds, _, n, h => by
    have n' : noL d = true ∧ noLs ds = true := by simpa [noLs] using n
    cases h with
    | cons h1 h2 => exact .cons (dp_kpl e hs d _ n'.1 h1) (dpAll_kpl e hs ds _ n'.2 h2)
end
theorem dpAll_len {K : PySem.W.Frag} {H : Hp} : ∀ {vs : List V} {ds : List PyData}, DpAll K H vs ds → vs.length = ds.length
  | _, _, .nil => rfl
  | _, _, .cons _ t => congrArg Nat.succ (dpAll_len t)
theorem dpAll_get {K : PySem.W.Frag} {H : Hp} : ∀ {vs : List V} {ds : List PyData} {i : Nat} {v : V}, DpAll K H vs ds → vs[i]? = some v → ∃ d, ds[i]? = some d ∧ Dp K H v d
  | _, _, _, _, .nil, e => by cases e
  | _, _, 0, _, .cons h _, e => by cases e; exact ⟨_, rfl, h⟩
  | _, _, i + 1, _, .cons _ t, e => by
    obtain ⟨d, h1, h2⟩ := dpAll_get (i := i) t e
    exact ⟨d, h1, h2⟩
theorem dpAll_app {K : PySem.W.Frag} {H : Hp} : ∀ {vs ws : List V} {ds es : List PyData}, DpAll K H vs ds → DpAll K H ws es → DpAll K H (vs ++ ws) (ds ++ es)
  | _, _, _, _, .nil, h => h
  | _, _, _, _, .cons a t, h => .cons a (dpAll_app t h)
/-! ### refs as data -/
abbrev Rf := Str × Int
def refD (r : Rf) : PyData := cellD r.1 r.2
def tgD : Option Rf → PyData
  | none => .none
  | some r => refD r
theorem refD_noL (r : Rf) : noL (refD r) = true := rfl
theorem tgD_noL : ∀ t : Option Rf, noL (tgD t) = true
  | none => rfl
  | some _ => rfl
theorem refs_noL : ∀ so : List Rf, noLs (so.map refD) = true
  | [] => rfl
  | _ :: r => by
    show (true && noLs (r.map refD)) = true
    rw [refs_noL r]
    rfl
theorem refD_eqv (a b : Rf) : PyData.eqv (refD a) (refD b) = decide (a = b) := by
  obtain ⟨x, i⟩ := a
  obtain ⟨y, j⟩ := b
  simp only [refD, cellD, PyData.eqv, PyData.eqvAll, Bool.and_true, Prod.mk.injEq]
  by_cases h1 : x = y <;> by_cases h2 : i = j <;> simp [h1, h2]
theorem tgD_eqv : ∀ a b : Option Rf, PyData.eqv (tgD a) (tgD b) = decide (a = b)
  | none, none => rfl
  | none, some b => by simp [tgD, refD, cellD, PyData.eqv]
  | some a, none => by simp [tgD, refD, cellD, PyData.eqv]
  | some a, some b => by
    show PyData.eqv (refD a) (refD b) = _
    rw [refD_eqv]
    simp
theorem refs_eqv : ∀ a b : List Rf, PyData.eqvAll (a.map refD) (b.map refD) = decide (a = b)
  | [], [] => rfl
  | [], _ :: _ => rfl
  | _ :: _, [] => rfl
  | x :: a, y :: b => by
    show (PyData.eqv (refD x) (refD y) && PyData.eqvAll (a.map refD) (b.map refD)) = _
    rw [refD_eqv, refs_eqv a b]
    by_cases h1 : x = y <;> by_cases h2 : a = b <;> simp [h1, h2]
def okRf (r : Rf) : Prop := ascii r.1
theorem tgD_lay {t : Option Rf} (h : ∀ r, t = some r → okRf r) : PyData.canLay0 (tgD t) = true ∧ PyData.depth (tgD t) ≤ 60 := by
  cases t with
  | none => exact ⟨rfl, Nat.zero_le _⟩
  | some r => exact cellD_lay (h r rfl) _
theorem shaped_of {d : PyData} (h : PyData.canLay0 d = true ∧ PyData.depth d ≤ 60) : SeqAt.shaped d = true := by
  unfold SeqAt.shaped
  rw [h.1, Bool.true_and]
  exact decide_eq_true (by omega)
theorem refs_lay {so : List Rf} (h : ∀ r ∈ so, okRf r) : ∀ d ∈ so.map refD, PyData.canLay0 d = true ∧ PyData.depth d ≤ 60 := fun d hd => by
  obtain ⟨r, hr, rfl⟩ := List.mem_map.mp hd
  exact cellD_lay (h r hr) _
/-- a ref as a value -/
theorem ref_val {K : PySem.W.Frag} {H : Hp} {v : V} {r : Rf} (h : Dp K H v (refD r)) : ∃ t, v = .ref t ∧ SqT K H t [.str r.1, .int r.2] := by
  unfold refD cellD at h
  cases h with
  | tup h1 h2 =>
    cases h2 with
    | cons a b =>
      cases a
      cases b with
      | cons c d =>
        cases c
        cases d
        exact ⟨_, rfl, h1⟩
def goodRf (r : Rf) : Prop := isNm r.1 = true ∧ -9 ≤ r.2 ∧ r.2 ≤ 9
theorem ref_is {K : PySem.W.Frag} {H : Hp} {v : V} {r : Rf} (h : Dp K H v (refD r)) (hz : r.1.length ≤ sizeLine) (b : Bool) (hb : (isNm r.1 && (decide (-9 ≤ r.2) && decide (r.2 ≤ 9))) = b) : RefIs K H v b := by
  obtain ⟨t, rfl, ht⟩ := ref_val h
  subst hb
  exact .two ht (.str hz) (.int _)
theorem ref_good {K : PySem.W.Frag} {H : Hp} {v : V} {r : Rf} (h : Dp K H v (refD r)) (g : goodRf r) : RefIs K H v true := by
  refine ref_is h ?_ true ?_
  · have h8 := g.1
    unfold isNm at h8
    simp only [Bool.and_eq_true, decide_eq_true_eq] at h8
    exact sz_of (by omega)
  · rw [g.1, decide_eq_true g.2.1, decide_eq_true g.2.2]
    rfl
/-! ### a def with one default (None), a star behind it -/
section
variable {CX : CXT} {P : Program} {w : World} {K : PySem.W.Frag} {mg : Str → Option Value} {base : Heap} {k : Nat} {f T : Addr} {name qual : Str} {params : Arguments} {body : List Stmt} {scope : Scope} {kV doc pm cdv ct oc : Value} {an od : Option Addr}
  {osl : Array (Option Value)} {N : List Str} {sp : Sp} {p1 p2 p3 pv : Str} {oT : Obj} {nT : Nat}
theorem fn_starD (lk : K.lookup f = some ⟨oc, od, .func (PySem.W.fnOf name qual params body scope (.ref T) kV doc pm an cdv ct), osl⟩) (hcd : PySem.W.codeIn K cdv qual = true) (lT : K.lookup T = some oT) (dT : oT.data = .seq #[Value.none] nT)
    (S : FnScope N [p1, p2, p3, pv] scope) (hCX : CXUp CX)
    (hb3 : ∀ (a b c : Value) (rest : List Value), ∃ kk, bindArgs (PySem.W.fnOf name qual params body scope (.ref T) kV doc pm an cdv ct) ⟨a :: b :: c :: rest, []⟩ = seqItems? (.ref T) >>= kk ∧ kk (some #[Value.none]) = (newTuple rest >>= fun t => pure [(p1, a), (p2, b), (p3, c), (pv, t)]))
    (hb2 : ∀ (a b : Value), ∃ kk, bindArgs (PySem.W.fnOf name qual params body scope (.ref T) kV doc pm an cdv ct) ⟨[a, b], []⟩ = seqItems? (.ref T) >>= kk ∧ kk (some #[Value.none]) = (newTuple [] >>= fun t => pure [(p1, a), (p2, b), (p3, .none), (pv, t)]))
    (hbody : ∀ (A : Around) (outer : List Env) (s : Shared) (H : Hp) (vs : List V) (Q : VK) (E : XK), Room k (A.deeper (envOfC qual scope s.heap.objs.size f cdv)) → sp vs H Q E →
      ∃ t, PSs (cxOf CX P w K mg base N qual scope f cdv A outer s H E) body t ∧ t { nx := fun _ H' => Q .non H', rt := Q } (start N vs) H) :
    FnR P w K mg base CX (k + 1) f (fun vs H Q E => (∃ a b c rest, vs = a :: b :: c :: rest ∧ rest.length ≤ sizeLine ∧ ∀ p, H p = none → sp [a, b, c, .ref p] (upd H p (.tup rest)) Q E) ∨
      ∃ a b, vs = [a, b] ∧ ∀ p, H p = none → sp [a, b, .non, .ref p] (upd H p (.tup [])) Q E) := by
  intro A outer s H us vs Q E hr e0 r hsp
  have hn : H s.heap.objs.size = none := e0.hok.fresh (Nat.le_refl _)
  have KX : K.In s.heap := e0.mod.kin.keeps fun b o e => (e0.bs b o e).1
  have go : ∀ (a b c : V) (ua ub uc : Value) (rest : List V) (ur : List Value) (args : Args), RelV a ua → RelV b ub → RelV c uc → Vals rest ur → rest.length ≤ sizeLine → (∀ p, H p = none → sp [a, b, c, .ref p] (upd H p (.tup rest)) Q E) →
      (∃ kk, bindArgs (PySem.W.fnOf name qual params body scope (.ref T) kV doc pm an cdv ct) args = seqItems? (.ref T) >>= kk ∧ kk (some #[Value.none]) = (newTuple ur >>= fun t => pure [(p1, ua), (p2, ub), (p3, uc), (pv, t)])) →
      codeAny (model P w) A (.call (.ref f) args) (CR CX outer P w H s Q E) s := by
    intro a b c ua ub uc rest ur args ra rb rc rr hz hq hbind
    obtain ⟨kk, e1, e2⟩ := hbind
    have hl2 : ur.length ≤ sizeLine := by rw [← rr.length]; exact hz
    refine run_bnd lk hcd S hr e0 (G := fun xs H2 => ∃ p, H p = none ∧ xs = [a, b, c, V.ref p] ∧ H2 = upd H p (.tup rest)) (fun A' Ex Q' h => ?_) fun s2 H2 xs ⟨p, hp, ex, eH⟩ hr' => ?_
    · rw [e1]
      refine wpAny_bind (wpAny_seqItems (KX _ _ lT) dT ?_)
      rw [e2]
      refine wpAny_bind (wpAny_newTuple (wpAny_pure ?_) hl2)
      have new : ObjOk P w (upd H s.heap.objs.size (.tup rest)) (s.heap.push ({ cls := .type "tuple", data := .seq ur.toArray } : Obj)) s.heap.objs.size (.tup rest) := ⟨hz, ur, rr, ⟨_, Heap.get?_push_size _ rfl, rfl, _, rfl⟩⟩
      have un := un_laid (fs := frs outer) (s := s) (o := ({ cls := .type "tuple", data := .seq ur.toArray } : Obj)) (u := .tup rest) hn
      exact h _ _ [a, b, c, V.ref s.heap.objs.size] [ua, ub, uc, Value.ref s.heap.objs.size] (env0_laid e0 new) un rfl (fun e s' => hCX outer s H _ _ E e s' un (fun b o q => Heap.get?_push_of_some _ q) rfl) (.cons ra (.cons rb (.cons rc (.cons rfl .nil)))) rfl ⟨_, hn, rfl, rfl⟩
    · subst ex eH
      exact hbody A outer s2 _ _ Q E hr' (hq p hp)
  rcases hsp with ⟨a, b, c, rest, rfl, hz, hq⟩ | ⟨a, b, rfl, hq⟩
  · cases r with
    | cons ra r =>
      cases r with
      | cons rb r =>
        cases r with
        | cons rc rr => exact go a b c _ _ _ rest _ _ ra rb rc rr hz hq (hb3 _ _ _ _)
  · cases r with
    | cons ra r =>
      cases r with
      | cons rb rr =>
        cases rr
        exact go a b .non _ _ .none [] [] _ ra rb rfl .nil (Nat.zero_le _) hq (hb2 _ _)
end
section
variable {X : Cx} {CX : CXT} {k : Nat} {f C : Addr} {sp : Sp} {E : XK} {x : Str} {e : Expr} {es : List Expr} {t : TA} {p pos : Pos}
/-- C(e, .., *y) -/
theorem pe_makeS (M : Mk X.K C f) (F : FnR X.prog X.w X.K X.mg X.base CX k f sp) (hr : Room (k + 1) X.A) (hg : Gl X x) (hm : X.mg x = some (.ref C)) (hx : Passes CX X E) (ha : PA X (e :: es) t) (hdb : (x == ("__debug__" : Str)) = false := by decide)
    (he : starEach (e :: es) X.env = (false, eval e X.env) :: starEach es X.env := by rfl) (hst : (backTo pos (starEach es X.env)).any (·.1) = true := by rfl) : PE X (.Call (.Name x p) (e :: es) [] pos) (tMakeR C sp E t) := by
  refine ⟨fun pins s σ H Q I h => ?_⟩
  refine wpAny_Call_Name_kw (ld_glob I hg hm ?_ hdb)
  refine PySem.W.callWith_S2 (h₀ := X.base) I.ok.mod.kin M.kp (thn (ha.run pos pins s σ H _ I h) fun us s1 ⟨vs, H1, I1, r, q⟩ => ⟨I1.kIn, ?_⟩) he hst
  exact run_makeR M F hr hx I1 r q
end
end VW

/-! isinstance of a caught own error that has a field -/
namespace PySem.W
open PySem PySem.Spec PySem.Calls PyProof.Rows
section
variable {prog : Program} {w : World} {A : Around} {E : Value → Shared → Prop} {s : Shared} {K : Frag} {x D : Addr} {ox : Obj} {od : Option Obj}
theorem vw_findObj {C : Addr} {name : Str} {a g : Value} (hc : (clsIn K C).isSome = true) (ha : findIn K (.ref C) name = some (some a)) (hg : specialIn K a "__get__" = some (some g)) (ht : takesIn K a = some true) : findObj K C od name = some (.bind g a) := by
  obtain ⟨cd, hc⟩ := Option.isSome_iff_exists.mp hc
  unfold findObj
  rw [hc, Option.bind_some, ha, Option.bind_some]
  simp [hg, ht]
theorem vw_classE {Q : Option Value → Shared → Prop} (hga : findIn K (.ref D) "__getattribute__" = some (some (.builtin "BaseException.__getattribute__"))) (hgt : findIn K (.ref D) "__getattr__" = some none) (hsub : subIn K (.ref D) (.type "BaseException") = some true)
    (hdct : hasDictIn K D = true) (ha : findIn K (.ref D) "__class__" = some (some (.builtin "object.__class__")))
    (hn : specialIn K (.builtin "object.__class__") "__get__" = some (some (.builtin "getset_descriptor.__get__"))) (htk : takesIn K (.builtin "object.__class__") = some true) (hm : mroIn K D (.type "object") = some true)
    (X : K.In s.heap) (I : InstAt s.heap x ox D od) (h : Q (some (.ref D)) { s with toks := s.toks + 1 }) : wpAny (model prog w) A (getAttr? (.ref x) "__class__") Q E s := by
  have hf : findObj K D od "__class__" = some (.bind (.builtin "getset_descriptor.__get__") (.builtin "object.__class__")) := vw_findObj (by obtain ⟨cd, hc, _⟩ := any_some hdct; rw [hc]; rfl) ha hn htk
  obtain ⟨hp, g, d, t, os⟩ := s
  have L0 := I.type (M := model prog w)
  have L1 := looks_findIn (M := model prog w) X hga
  have L2 := looks_findIn (M := model prog w) X hgt
  have L3 := looks_find (M := model prog w) X I hf
  have sub : Looks (model prog w) hp (isInstance (.ref x) (.type "BaseException")) true := L0.andThen (looks_subIn X hsub)
  have hx0 : (false && onTheHeap (Value.builtin "BaseException.__getattribute__")) = false := rfl
  have hx2 : (Value.builtin "BaseException.__getattribute__" == Value.builtin "object.__getattribute__") = false := by decide +kernel
  have hx1 : (onTheHeap (Value.ref D) && Value.builtin "BaseException.__getattribute__" == Value.builtin "object.__getattribute__") = false := by rw [hx2]; rfl
  unfold getAttr? getAttrBy? getAttrBy
  refine wpAny_bind (wpAny_mkText (wpAny_bind (wpAny_attempt (wpAny_holding (wpAny_bind (L0.at (wpAny_bind (L1.at ?_))))))))
  show wpAny _ _ (if (onTheHeap (Value.ref D) && Value.builtin "BaseException.__getattribute__" == Value.builtin "object.__getattribute__") = true then _ else _) _ _ _
  rw [hx1, if_neg Bool.false_ne_true]
  unfold getAttrByItsOwn hookBefore
  refine wpAny_bind ?_
  rw [if_pos (show onTheHeap (Value.ref D) = true from rfl)]
  refine L2.at ?_
  refine wpAny_bind (wpAny_attempt (wpAny_holding ?_))
  unfold callGetattribute
  rw [hx0, if_neg Bool.false_ne_true]
  unfold boundAndCalled
  rw [PySem.F.excAttr_ValueError.ga.bind (.ref x)]
  refine wpAny_bind (wpAny_pure ?_)
  show wpAny _ _ (call (.builtin "BaseException.__getattribute__") [.ref x, .str "__class__" t]) _ _ _
  refine wpAny_call (codeAny_call_builtin PySem.F.excAttr_ValueError.ga.plain PySem.F.entry_bexc_ga ?_)
  refine @check_slot (model prog w) _ _ ⟨hp, g, d, t + 1, os⟩ "BaseException.__getattribute__" "BaseException" "__getattribute__" (.ref x) [.str "__class__" t] [] _ (by decide +kernel) (by decide +kernel) sub (PySem.F.args_bexc_ga (.ref x) (.str "__class__" t)) ?_
  unfold Builtin.«object.__getattribute__»
  refine wpAny_bind (wpAny_of_eq (a := ((Value.ref x : Value), [Value.str "__class__" t])) (by first | rfl | (simp only [slotArgs]; rfl)) ?_)
  refine wpAny_bind (wpAny_pure (wpAny_bind (L0.at (wpAny_bind (L3.at ?_)))))
  show wpAny _ _ (holding [Value.builtin "object.__class__"] (call (.builtin "getset_descriptor.__get__") [.builtin "object.__class__", .ref x, .ref D]) >>= ret) _ _ _
  refine wpAny_bind (wpAny_holding (wpAny_call (class_get (s := ⟨hp, g, d, t + 1, os⟩) (ox := ox) (od := od) X I hm ?_)))
  refine wpAny_pure ?_
  show wpAny _ _ (handedOut (.ref D)) _ _ _
  rw [handedOut_of (v := .ref D) rfl]
  first
    | exact wpAny_pure (wpAny_pure h)
    | exact wpAny_pure h
    | exact wpAny_pure (wpAny_bind (wpAny_pure (wpAny_pure h)))
theorem vw_kitx (hga : findIn K (.ref D) "__getattribute__" = some (some (.builtin "BaseException.__getattribute__"))) (hgt : findIn K (.ref D) "__getattr__" = some none) (hsub : subIn K (.ref D) (.type "BaseException") = some true) (hdct : hasDictIn K D = true) (ha : findIn K (.ref D) "__class__" = some (some (.builtin "object.__class__")))
    (hn : specialIn K (.builtin "object.__class__") "__get__" = some (some (.builtin "getset_descriptor.__get__"))) (htk : takesIn K (.builtin "object.__class__") = some true) (hm : mroIn K D (.type "object") = some true) :
    KitX K (.ref x) (.ref D) (fun h => InstAt h x ox D od) where
  ty := fun _ _ _ I => I.type
  it := fun _ _ X _ => by
    obtain ⟨cdD, hcD, _⟩ := any_some hdct
    unfold clsIn at hcD
    split at hcD
    · rename_i c' d' cd' sl' ho
      intro A' Q' E' s' k q
      unfold isType loadHead
      exact wpAny_bind (wpAny_loadPart (k _ _ (X _ _ ho)) (wpAny_pure q))
    · cases hcD
  ne := fun h tp dd its n sl X htp => by
    obtain ⟨cdD, hcD, _⟩ := any_some hdct
    refine Bool.eq_false_iff.mpr fun q => ?_
    have e : D = tp := Value.ref.inj (beq_iff_eq.mp q)
    subst e
    unfold clsIn at hcD
    split at hcD
    · rename_i c' d' cd' sl' ho
      have z := (X _ _ ho).symm.trans htp
      cases z
    · cases hcD
  ca := fun X I k => vw_classE hga hgt hsub hdct ha hn htk hm X I k
end
end PySem.W
namespace VW
open PySem PySem.Spec PyProof.Rows L2
/-- isinstance(e, c), e the exception that the suite holds, of the class D, with the dict dd -/
def rIsD (K : PySem.W.Frag) (D a : Addr) (cls : Value) (d : Option Addr) : List V → Hp → VK → Prop := fun xs H Q => ∃ (c : V) (cv : Value) (b : Bool) (dd : Addr) (fs : List (Str × V)), xs = [.ref a, c] ∧ cls = .ref D ∧ d = some dd ∧ H dd = some (.xd fs) ∧ ClsV c cv ∧ PySem.W.kitOne K (.ref D) cv = some b ∧ Q (.bl b) H
theorem call_isD {X : Cx} {a D : Addr} {oe : Obj} {cls : Value} {d : Option Addr} {pn : List (Addr × Obj)} (C : ExcC X.K D) (hz : Zc cls d oe) (hf : ∃ vs, oe.data = .fields vs) : CallR (X.suite a ((a, oe) :: pn)) (.builtin "isinstance") (rIsD X.K D a cls d) := by
  intro pins s σ H xs us Q I r h
  obtain ⟨c, cv, b, dd, fs, rfl, ec, ed, hd, k, e, q⟩ := h
  subst ec
  subst ed
  obtain ⟨u1, u2, rfl, rx, rt⟩ := vals2 r
  cases (show u1 = Value.ref a from rx)
  have e2 := k.eq rt
  subst e2
  obtain ⟨hget, _⟩ := I.pin (a, oe) (List.mem_append.mpr (.inl List.mem_cons_self))
  obtain ⟨vs, hv⟩ := hf
  obtain ⟨mA, hns, hr⟩ := (show ObjOk X.prog X.w H s.heap dd (.xd fs) from I.hok dd _ hd)
  obtain ⟨od, ho, hl⟩ := lookIn_ns hns
  have J : PySem.W.InstAt s.heap a oe D (some od) := ⟨hget, hz.1, by unfold PySem.W.notCls; rw [hv] <;> rfl, by rw [hz.2]; exact ho⟩
  exact PySem.W.kia_one (PySem.W.vw_kitx C.hg C.hk C.hs C.hd C.ha C.hn C.ht C.hm) I.kIn J e (fun z => nomatch z) fun tk => ⟨.bl b, H, I.kept (t' := tk) fun _ _ z => z, rfl, q⟩
end VW

/-! what is shown of lists and tuples: promises for calls under no guard -/
namespace VW
open PySem PySem.Spec PyProof.Rows L2
section
variable {P : Program} {w : World} {K : PySem.W.Frag} {mg : Str → Option Value} {base : Heap} {CX : CXT} {k : Nat} {f : Addr} {fd : FuncData} {ps : List Str} {sp : Sp}
/-- a promise that holds where no repr is under way -/
structure FnG (P : Program) (w : World) (K : PySem.W.Frag) (mg : Str → Option Value) (base : Heap) (CX : CXT) (k : Nat) (f : Addr) (fd : FuncData) (ps : List Str) (sp : Sp) : Prop where
  len : ∀ vs H Q E, sp vs H Q E → vs.length = ps.length
  run : ∀ (A : Around) (outer : List Env) (s : Shared) (H : Hp) (args : Args) (us : List Value) (vs : List V) (Q : VK) (E : XK), A.guards = some [] → Room k A → Env0 P w K mg base A outer s H → BindsTo s fd args (ps.zip us) → Vals vs us → sp vs H Q E →
    codeAny (model P w) A (.call (.ref f) args) (CR CX outer P w H s Q E) s
theorem okG {x qual : Str} {st : Stmt} {N : List Str} (F : Fun K x qual st f fd) (S : FnScope N ps (defScope st)) (len : ∀ vs H Q E, sp vs H Q E → vs.length = ps.length)
    (hbody : ∀ (cdv : Value) (A : Around) (outer : List Env) (s : Shared) (H : Hp) (vs : List V) (Q : VK) (E : XK), A.guards = some [] → Room k (A.deeper (envOfC qual (defScope st) s.heap.objs.size f cdv)) → sp vs H Q E →
      ∃ t, PSs (cxOf CX0 P w K mg base N qual (defScope st) f cdv A outer s H E).nox (defBody st) t ∧ t { nx := fun _ H' => Q .non H', rt := Q } (start N vs) H) : FnG P w K mg base CX0 (k + 1) f fd ps sp := by
  obtain ⟨oc, od, kV, doc, pm, an, cdv, ct, osl, rfl, lk, hcd⟩ := F.ex
  refine ⟨len, fun A outer s H args us vs Q E hg hr e0 hb r hsp => ?_⟩
  refine StX.run_bnd lk hcd S hr e0 (G := fun xs H2 => xs = vs ∧ H2 = H ∧ True) (fun A' Ex Q' h => hb _ _ _ _ (h s H vs us e0 (Un.refl ..) rfl (fun _ _ z => z) r (len _ _ _ _ hsp) ⟨rfl, rfl, trivial⟩)) fun s2 H2 xs hG hr' => ?_
  obtain ⟨rfl, rfl, _⟩ := hG
  obtain ⟨t, h1, h2⟩ := hbody cdv A outer s2 _ _ Q E hg hr' hsp
  exact ⟨t, h1.nox, h2⟩
end
section
variable {X : Cx} {CX : CXT} {k : Nat} {f : Addr} {fd : FuncData} {ps : List Str} {sp : Sp} {E : XK} {x : Str} {e : Expr} {es : List Expr} {t : TA} {p pos : Pos}
theorem run_fnG {pins : List (Addr × Obj)} {σ : L2.St} {H : Hp} {s : Shared} {Q : VK} {us : List Value} {vs : List V} (hgd : X.A.guards = some []) (F : FnG X.prog X.w X.K X.mg X.base CX k f fd ps sp) (hr : Room k X.A) (hb : Binds X.K fd ps []) (hx : Passes CX X E)
    (I : Inv X pins σ H s) (r : Vals vs us) (h : sp vs H Q E) : wpAny (model X.prog X.w) X.A (call (.ref f) us) (EP X pins σ Q) X.xe s := by
  have hl : us.length = ps.length := by rw [← r.length]; exact F.len _ _ _ _ h
  have hb' := hb s us I.kIn (by rw [List.append_nil]; exact hl)
  rw [List.append_nil] at hb'
  refine wpAny_call (codeAny_mono (F.run X.A X.stack s H ⟨us, []⟩ us vs Q E hgd hr I.env0 hb' r h) fun r s' hq => ?_)
  cases r with
  | error e => exact hx pins σ H s e s' I hq
  | ok fl =>
    cases fl with
    | ret u => exact I.after hq
    | next => exact False.elim hq
    | brk => exact False.elim hq
    | cont => exact False.elim hq
theorem pe_callG (hgd : X.A.guards = some []) (F : FnG X.prog X.w X.K X.mg X.base CX k f fd ps sp) (hr : Room k X.A) (hg : Gl X x) (hm : X.mg x = some (.ref f)) (hk : PySem.W.keepIn X.K (.ref f) = true) (hb : Binds X.K fd ps []) (hx : Passes CX X E)
    (ha : PA X (e :: es) t) (hdb : (x == ("__debug__" : Str)) = false := by decide) (he : starEach (e :: es) X.env = (false, eval e X.env) :: starEach es X.env := by rfl) (hpl : (backTo pos (starEach es X.env)).any (·.1) = false := by rfl) :
    PE X (.Call (.Name x p) (e :: es) [] pos) (fun σ H Q => t σ H fun vs H1 => sp vs H1 Q E) := by
  refine ⟨fun pins s σ H Q I h => ?_⟩
  refine wpAny_Call_Name_kw (ld_glob I hg hm ?_ hdb)
  refine PySem.W.callWith_K (h₀ := X.base) I.ok.mod.kin hk (thn (ha.run pos pins s σ H _ I h) fun us s1 ⟨vs, H1, I1, r, q⟩ => ⟨I1.kIn, ?_⟩) he hpl
  exact run_fnG hgd F hr hb hx I1 r q
/-- the text that repr gives: scalars, or data of lists and tuples -/
inductive ReprD (K : PySem.W.Frag) (H : Hp) : V → Str → Prop
  | sc {v : V} {z : Str} (h : ReprIs v z) : ReprD K H v z
  | dt {a : Addr} {d : PyData} (h : Dp K H (.ref a) d) (h1 : d.showable = true) (h2 : d.hasDict = false) (h3 : d.depth ≤ 60) (h4 : d.shown.length ≤ sizeLine) : ReprD K H (.ref a) d.shown
theorem call_reprG (hgd : X.A.guards = some []) (hu : X.A.units + 64 < cLine) : CallR X (.builtin "repr") (fun xs H Q => ∃ v z, xs = [v] ∧ ReprD X.K H v z ∧ Q (.str z) H) := by
  intro pins s σ H xs us Q I r h
  obtain ⟨v, z, rfl, hz, q⟩ := h
  cases hz with
  | sc hz => exact call_reprF pins s σ H _ us Q I r ⟨v, z, rfl, hz, q⟩
  | dt hd h1 h2 h3 h4 =>
    rename_i a d
    obtain ⟨u, rfl, ru⟩ := vals1 r
    cases (show u = Value.ref a from ru)
    obtain ⟨as, rd⟩ := Dp.reads I d _ _ hd ru
    exact PySem.repr_of_reads' rd h1 (fun e => by rw [h2] at e; cases e) hgd (by omega) (fun _ _ z => z) (fun h' u tk hk => ⟨.str _, H, I.kept (t' := tk) hk, ⟨_, rfl⟩, q⟩) h4
end
/-! ### the head -/
theorem law_callG {P : Program} {w : World} {K : PySem.W.Frag} {mg mb : Str → Option Value} {CX : CXT} {k : Nat} {fa a : Addr} {fd : FuncData} {x : Str} {sp : Sp} {s₁ : Shared} {vs : List Value} {ns : List Int}
    (KX : K.In s₁.heap) (hns : s₁.heap.Ns mainGlobals mg) (hb : s₁.heap.Ns builtinsNs mb) (hbb : ∀ x : Str, x ≠ "__name__" → mb x = bootBuiltins x) (hlim : s₁.heap.NoLimit) (hg : s₁.gens = #[])
    (ha : s₁.heap.get? a = some { cls := .type "list", data := .seq vs.toArray }) (hi : IntsAre vs ns) (hl : ns.length ≤ sizeLine) (hr : Room k callerA)
    (F : ∀ base : Heap, K.In base → base.Ns mainGlobals mg → FnG P w K mg base CX k fa fd [x] sp) (hbind : ∀ (s : Shared) (u : Value), BindsTo s fd ⟨[u], []⟩ [(x, u)])
    (hsp : ∀ H : Hp, Only H → SqL K H a (ns.map V.int) → sp [.ref a] H (fun v _ => v = .bl true) fun _ _ _ => False)
    (hCX : ∀ H e s', CX [] H s₁ (fun _ _ _ => False) e s' → False) :
    codeAny (model P w) callerA (.call (.ref fa) ⟨[.ref a], []⟩) (fun r s' => r = .ok (.ret (.bool true)) ∧ OldK s₁.heap s'.heap ∧ s'.os = s₁.os ∧ AllBare s'.gens) s₁ := by
  -- what is tracked at the start: the script, if it is not the module's own
  obtain ⟨H, hO, hS, hok, own⟩ : ∃ H : Hp, Only H ∧ SqL K H a (ns.map V.int) ∧ HOk P w H s₁.heap ∧ ∀ b, H b ≠ none → b = a ∧ K.lookup b = none := by
    have rv := vals_ints hi
    cases hk : K.lookup a with
    | some o =>
      have e := KX a o hk
      rw [ha] at e
      cases e
      refine ⟨fun _ => none, fun _ => .inl rfl, .inr ⟨_, vs.toArray, _, hk, rfl, rfl, rfl, ?_, by simpa using rv⟩, fun b u z => ?_, fun b z => absurd rfl z⟩
      · rw [List.size_toArray, hi.length]
        exact hl
      · exact absurd (show (none : Option HO) = some u from z) (by simp)
    | none =>
      have other : ∀ b, b ≠ a → (upd (fun _ => none) a (.frz { cls := .type "list", data := .seq vs.toArray } (.lst (ns.map V.int))) : Hp) b = none := fun b n => upd_ne n
      refine ⟨upd (fun _ => none) a (.frz { cls := .type "list", data := .seq vs.toArray } (.lst (ns.map V.int))), fun b => ?_, .inl (.inr ⟨_, upd_same⟩), fun b u z => ?_, fun b z => ?_⟩
      · by_cases c : b = a
        · rw [c]
          exact .inr ⟨_, _, upd_same⟩
        · exact .inl (other b c)
      · by_cases c : b = a
        · subst c
          rw [upd_same] at z
          cases z
          exact ⟨ha, by rw [List.length_map]; exact hl, vs, _, rv, ha⟩
        · rw [other b c] at z
          cases z
      · by_cases c : b = a
        · rw [c]
          exact ⟨rfl, hk⟩
        · exact absurd (other b c) z
  have free : ∀ b o, s₁.heap.get? b = some o → (∀ xs n, o.data ≠ .seq xs n) → H b = none := fun b o e d => by
    cases q : H b with
    | none => rfl
    | some u =>
      obtain ⟨e', _⟩ := own b (by rw [q]; simp)
      rw [e', ha] at e
      cases e
      exact absurd rfl (d _ _)
  have ns' : ∀ {b : Addr} {m : Str → Option Value}, s₁.heap.Ns b m → (hidT s₁.heap H).Ns b m := fun {b m} ⟨o, es, ep, e, d, r⟩ => ⟨o, es, ep, hidT_get e (free b o e fun xs n z => by rw [d] at z; cases z), d, r⟩
  have kin : K.In (hidT s₁.heap H) := fun b o e => hidT_get (KX b o e) (by
    cases q : H b with
    | none => rfl
    | some u =>
      obtain ⟨_, e'⟩ := own b (by rw [q]; simp)
      rw [e'] at e
      cases e)
  have e0 : Env0 P w K mg (hidT s₁.heap H) callerA [] s₁ H := { frames := rfl, mod := ⟨kin, ns' hns, ⟨mb, ns' hb, hbb⟩, let ⟨mc, h1, h2⟩ := hlim; ⟨mc, ns' h1, h2⟩⟩, bs := fun b o e => of_hidT e, bsz := Nat.le_of_eq (hidT_size _ _), funs := trivial, frf := fun b hb => (by cases hb), hok := hok, bare := .of_eq hg }
  refine codeAny_mono ((F _ kin (ns' hns)).run callerA [] s₁ H ⟨[.ref a], []⟩ [.ref a] [.ref a] _ _ rfl hr e0 (hbind s₁ (.ref a)) (.cons rfl .nil) (hsp H hO hS)) fun r s' h => ?_
  cases r with
  | error e => exact (hCX H e s' h).elim
  | ok fl =>
    cases fl with
    | next => exact False.elim h
    | brk => exact False.elim h
    | cont => exact False.elim h
    | ret u =>
      obtain ⟨v, H', os, bare, un, hok', r', q⟩ := h
      cases (show v = .bl true from q)
      cases (show u = Value.bool true from r')
      refine ⟨rfl, OldK.of_keep fun b o e => ?_, os, bare⟩
      rcases hO b with z | ⟨ob, xs, z⟩
      · exact un.keep b o e z (fun z => by cases z) (by simp)
      · have e1 := (hok b _ z).1
        rw [e] at e1
        cases e1
        exact (hok' b _ (un.frzs b _ _ z)).1
theorem walk_ofG {l : PySem.W.OpenLaw} {n k : Nat} {q : Program} {loose : List Str} {XP : (Str → Option Value) → Heap → Prop} {YP : World → Heap → Prop} {d : DefRec} {K : Params → PySem.W.Frag} {CX : World → CXT} {sp : World → Sp} {x : Str}
    (hn : l.most = some n) (hn2 : n ≤ sizeLine) (hdf : d.params.defaults = []) (hr : Room k callerA)
    (hY : ∀ (w : World) (h : Heap), YP w h → (K w.params).In h)
    (F : ∀ (w : World) (mg : Str → Option Value) (fa : Addr) (h : Heap), (K w.params).In h → h.Ns mainGlobals mg → mg d.name = some (.ref fa) →
      ∃ fd : FuncData, (∀ (s : Shared) (u : Value), BindsTo s fd ⟨[u], []⟩ [(x, u)]) ∧
        ∀ base : Heap, (K w.params).In base → base.Ns mainGlobals mg → FnG l.prog w (K w.params) mg base (CX w) k fa fd [x] (sp w))
    (hsp : ∀ (w : World) (H : Hp) (a : Addr) (ns : List Int), ns.length ≤ n → Only H → SqL (K w.params) H a (ns.map V.int) → sp w [.ref a] H (fun v _ => v = .bl true) fun _ _ _ => False)
    (hCX : ∀ (w : World) (H : Hp) (s : Shared) (e : Value) (s' : Shared), CX w [] H s (fun _ _ _ => False) e s' → False) :
    PySem.W.WalkO q loose XP YP l.row.toRowW d [] (fun f vs => PySem.call f vs) := by
  refine Att.attach_call hn hdf fun w s₀ s₁ mg mb fa o pm cd doc a vs ns G Y ho hd hcd hmg hobj hints hlen hg => ?_
  have KX := hY w _ Y
  obtain ⟨fd, hb, hF⟩ := F w mg fa _ KX G.T.g hmg
  exact law_callG KX G.T.g G.T.b G.T.builtins G.T.nolimit hg hobj hints (Nat.le_trans hlen hn2) hr hF hb (fun H hO hS => hsp w H a ns hlen hO hS) fun H e s' => hCX w H s₁ e s'
end VW

namespace Law
open PySem L2 VW
abbrev PRG : Program := PySem.Challenge.pw_vectorwidths_k05_statements_moved
def top (i : Nat) : Stmt := PySem.Challenge.pw_vectorwidths_k05_statements_moved.main.body.getD i (.Pass ⟨0, 0, 0, 0⟩)
abbrev s_is_integer : Stmt := top 10
abbrev N_is_integer : List Str := ["value"]
theorem sc_is_integer : FnScope N_is_integer ["value"] (defScope s_is_integer) := ⟨rfl, rfl, rfl, by decide +kernel, rfl, by decide +kernel, by decide +kernel⟩
abbrev s_is_between : Stmt := top 11
abbrev N_is_between : List Str := ["value", "low", "high"]
theorem sc_is_between : FnScope N_is_between ["value", "low", "high"] (defScope s_is_between) := ⟨rfl, rfl, rfl, by decide +kernel, rfl, by decide +kernel, by decide +kernel⟩
abbrev s_is_name : Stmt := top 12
abbrev N_is_name : List Str := ["value", "sign"]
theorem sc_is_name : FnScope N_is_name ["value"] (defScope s_is_name) := ⟨rfl, rfl, rfl, by decide +kernel, rfl, by decide +kernel, by decide +kernel⟩
abbrev s_is_offset : Stmt := top 13
abbrev N_is_offset : List Str := ["value"]
theorem sc_is_offset : FnScope N_is_offset ["value"] (defScope s_is_offset) := ⟨rfl, rfl, rfl, by decide +kernel, rfl, by decide +kernel, by decide +kernel⟩
abbrev s_is_ref : Stmt := top 14
abbrev N_is_ref : List Str := ["value"]
theorem sc_is_ref : FnScope N_is_ref ["value"] (defScope s_is_ref) := ⟨rfl, rfl, rfl, by decide +kernel, rfl, by decide +kernel, by decide +kernel⟩
abbrev s_Statement___init__ : Stmt := inClass (top 17) 0
abbrev N_Statement___init__ : List Str := ["self", "name", "target", "sources", "source"]
theorem sc_Statement___init__ : FnScope N_Statement___init__ ["self", "name", "target", "sources"] (defScope s_Statement___init__) := ⟨rfl, rfl, rfl, by decide +kernel, rfl, by decide +kernel, by decide +kernel⟩
abbrev s_Statement_refs : Stmt := inClass (top 17) 5
abbrev N_Statement_refs : List Str := ["self", "found"]
theorem sc_Statement_refs : FnScope N_Statement_refs ["self"] (defScope s_Statement_refs) := ⟨rfl, rfl, rfl, by decide +kernel, rfl, by decide +kernel, by decide +kernel⟩
abbrev s_Statement___eq__ : Stmt := inClass (top 17) 10
abbrev N_Statement___eq__ : List Str := ["self", "other"]
theorem sc_Statement___eq__ : FnScope N_Statement___eq__ ["self", "other"] (defScope s_Statement___eq__) := ⟨rfl, rfl, rfl, by decide +kernel, rfl, by decide +kernel, by decide +kernel⟩
abbrev s_Statement_moved : Stmt := inClass (top 17) 11
abbrev N_Statement_moved : List Str := ["self", "by", "line", "offset", "target", "sources"]
theorem sc_Statement_moved : FnScope N_Statement_moved ["self", "by"] (defScope s_Statement_moved) := ⟨rfl, rfl, rfl, by decide +kernel, rfl, by decide +kernel, by decide +kernel⟩
abbrev s__law_begin : Stmt := top 19
abbrev N__law_begin : List Str := ["script"]
theorem sc__law_begin : FnScope N__law_begin ["script"] (defScope s__law_begin) := ⟨rfl, rfl, rfl, by decide +kernel, rfl, by decide +kernel, by decide +kernel⟩
abbrev s__law_draw : Stmt := top 20
abbrev N__law_draw : List Str := ["source", "limit", "cell", "digit"]
theorem sc__law_draw : FnScope N__law_draw ["source", "limit"] (defScope s__law_draw) := ⟨rfl, rfl, rfl, by decide +kernel, rfl, by decide +kernel, by decide +kernel⟩
abbrev s__law_pick : Stmt := top 21
abbrev N__law_pick : List Str := ["source", "items"]
theorem sc__law_pick : FnScope N__law_pick ["source", "items"] (defScope s__law_pick) := ⟨rfl, rfl, rfl, by decide +kernel, rfl, by decide +kernel, by decide +kernel⟩
abbrev s__law_mixed : Stmt := top 22
abbrev N__law_mixed : List Str := ["source", "items", "left", "found"]
theorem sc__law_mixed : FnScope N__law_mixed ["source", "items"] (defScope s__law_mixed) := ⟨rfl, rfl, rfl, by decide +kernel, rfl, by decide +kernel, by decide +kernel⟩
abbrev s__law_stem : Stmt := top 23
abbrev N__law_stem : List Str := ["source", "letters"]
theorem sc__law_stem : FnScope N__law_stem ["source"] (defScope s__law_stem) := ⟨rfl, rfl, rfl, by decide +kernel, rfl, by decide +kernel, by decide +kernel⟩
abbrev s__law_names : Stmt := top 24
abbrev N__law_names : List Str := ["source", "many", "stem", "letters", "letter"]
theorem sc__law_names : FnScope N__law_names ["source", "many"] (defScope s__law_names) := ⟨rfl, rfl, rfl, by decide +kernel, rfl, by decide +kernel, by decide +kernel⟩
abbrev s__law_ref : Stmt := top 25
abbrev N__law_ref : List Str := ["source", "rows", "wide"]
theorem sc__law_ref : FnScope N__law_ref ["source", "rows", "wide"] (defScope s__law_ref) := ⟨rfl, rfl, rfl, by decide +kernel, rfl, by decide +kernel, by decide +kernel⟩
abbrev s__law_rows : Stmt := top 26
abbrev N__law_rows : List Str := ["source", "most", "strides", "word"]
theorem sc__law_rows : FnScope N__law_rows ["source", "most", "strides"] (defScope s__law_rows) := ⟨rfl, rfl, rfl, by decide +kernel, rfl, by decide +kernel, by decide +kernel⟩
abbrev s__law_deed : Stmt := top 27
abbrev N__law_deed : List Str := ["deed", "word", "goal", "loads"]
theorem sc__law_deed : FnScope N__law_deed ["deed"] (defScope s__law_deed) := ⟨rfl, rfl, rfl, by decide +kernel, rfl, by decide +kernel, by decide +kernel⟩
abbrev s__law_moved : Stmt := top 28
abbrev N__law_moved : List Str := ["deed", "by", "goal", "word", "off"]
theorem sc__law_moved : FnScope N__law_moved ["deed", "by"] (defScope s__law_moved) := ⟨rfl, rfl, rfl, by decide +kernel, rfl, by decide +kernel, by decide +kernel⟩
abbrev s__law_told : Stmt := top 29
abbrev N__law_told : List Str := ["made", "by", "e"]
theorem sc__law_told : FnScope N__law_told ["made", "by"] (defScope s__law_told) := ⟨rfl, rfl, rfl, by decide +kernel, rfl, by decide +kernel, by decide +kernel⟩
abbrev s__law_fits : Stmt := top 30
abbrev N__law_fits : List Str := ["deed", "offs", "ref", "off"]
theorem sc__law_fits : FnScope N__law_fits ["deed"] (defScope s__law_fits) := ⟨rfl, rfl, rfl, by decide +kernel, rfl, by decide +kernel, by decide +kernel⟩
abbrev s_law : Stmt := top 31
abbrev N_law : List Str := ["script", "source", "turn", "rows", "goal", "deed", "k", "made", "by", "more", "after", "odd"]
theorem sc_law : FnScope N_law ["script"] (defScope s_law) := ⟨rfl, rfl, rfl, by decide +kernel, rfl, by decide +kernel, by decide +kernel⟩
structure Ad where
  C_InvalidNumber : Addr
  i_InvalidNumber : Addr
  C_InvalidName : Addr
  i_InvalidName : Addr
  C_InvalidRef : Addr
  i_InvalidRef : Addr
  C_WidthError : Addr
  C_Statement : Addr
  a_is_integer : Addr
  fd_is_integer : FuncData
  a_is_between : Addr
  fd_is_between : FuncData
  a_is_name : Addr
  fd_is_name : FuncData
  a_is_offset : Addr
  fd_is_offset : FuncData
  a_is_ref : Addr
  fd_is_ref : FuncData
  a_Statement___init__ : Addr
  fd_Statement___init__ : FuncData
  a_Statement_refs : Addr
  fd_Statement_refs : FuncData
  a_Statement___eq__ : Addr
  fd_Statement___eq__ : FuncData
  a_Statement_moved : Addr
  fd_Statement_moved : FuncData
  a__law_begin : Addr
  fd__law_begin : FuncData
  a__law_draw : Addr
  fd__law_draw : FuncData
  a__law_pick : Addr
  fd__law_pick : FuncData
  a__law_mixed : Addr
  fd__law_mixed : FuncData
  a__law_stem : Addr
  fd__law_stem : FuncData
  a__law_names : Addr
  fd__law_names : FuncData
  a__law_ref : Addr
  fd__law_ref : FuncData
  a__law_rows : Addr
  fd__law_rows : FuncData
  a__law_deed : Addr
  fd__law_deed : FuncData
  a__law_moved : Addr
  fd__law_moved : FuncData
  a__law_told : Addr
  fd__law_told : FuncData
  a__law_fits : Addr
  fd__law_fits : FuncData
  a_law : Addr
  fd_law : FuncData
structure Tx (P : Program) (A : Ad) (K : PySem.W.Frag) (mg : Str → Option Value) : Prop where
  er_InvalidNumber : ErTxt P K mg "InvalidNumber" "value" A.C_InvalidNumber A.i_InvalidNumber
  er_InvalidName : ErTxt P K mg "InvalidName" "value" A.C_InvalidName A.i_InvalidName
  er_InvalidRef : ErTxt P K mg "InvalidRef" "value" A.C_InvalidRef A.i_InvalidRef
  g_WidthError : mg "WidthError" = some (.ref A.C_WidthError)
  xc_InvalidNumber : ExcC K A.C_InvalidNumber
  ks_InvalidNumber_WidthError : PySem.W.kitOne K (.ref A.C_InvalidNumber) (.ref A.C_WidthError) = some true
  g_Statement : mg "Statement" = some (.ref A.C_Statement)
  cl_Statement : Cls K A.C_Statement
  n_Statement_kept_name : NoAttr K A.C_Statement "kept_name"
  n_Statement_kept_target : NoAttr K A.C_Statement "kept_target"
  n_Statement_kept_sources : NoAttr K A.C_Statement "kept_sources"
  M_Statement : Mk K A.C_Statement A.a_Statement___init__
  oc_Statement : OwnC K A.C_Statement
  eq_Statement : EqC K A.C_Statement A.a_Statement___eq__
  F_is_integer : Fun K "is_integer" "is_integer" s_is_integer A.a_is_integer A.fd_is_integer
  b_is_integer : Binds K A.fd_is_integer ["value"] []
  g_is_integer : mg "is_integer" = some (.ref A.a_is_integer)
  F_is_between : Fun K "is_between" "is_between" s_is_between A.a_is_between A.fd_is_between
  b_is_between : Binds K A.fd_is_between ["value", "low", "high"] []
  g_is_between : mg "is_between" = some (.ref A.a_is_between)
  F_is_name : Fun K "is_name" "is_name" s_is_name A.a_is_name A.fd_is_name
  b_is_name : Binds K A.fd_is_name ["value"] []
  g_is_name : mg "is_name" = some (.ref A.a_is_name)
  F_is_offset : Fun K "is_offset" "is_offset" s_is_offset A.a_is_offset A.fd_is_offset
  b_is_offset : Binds K A.fd_is_offset ["value"] []
  g_is_offset : mg "is_offset" = some (.ref A.a_is_offset)
  F_is_ref : Fun K "is_ref" "is_ref" s_is_ref A.a_is_ref A.fd_is_ref
  b_is_ref : Binds K A.fd_is_ref ["value"] []
  g_is_ref : mg "is_ref" = some (.ref A.a_is_ref)
  F_Statement___init__ : FunD K "__init__" "Statement.__init__" (defArgs s_Statement___init__) (defBody s_Statement___init__) (defScope s_Statement___init__) [.non] [] A.a_Statement___init__ A.fd_Statement___init__
  me_Statement___init__ : Meth K A.C_Statement "__init__" A.a_Statement___init__
  F_Statement_refs : Fun K "refs" "Statement.refs" s_Statement_refs A.a_Statement_refs A.fd_Statement_refs
  b_Statement_refs : Binds K A.fd_Statement_refs ["self"] []
  me_Statement_refs : Meth K A.C_Statement "refs" A.a_Statement_refs
  F_Statement___eq__ : Fun K "__eq__" "Statement.__eq__" s_Statement___eq__ A.a_Statement___eq__ A.fd_Statement___eq__
  b_Statement___eq__ : Binds K A.fd_Statement___eq__ ["self", "other"] []
  me_Statement___eq__ : Meth K A.C_Statement "__eq__" A.a_Statement___eq__
  F_Statement_moved : Fun K "moved" "Statement.moved" s_Statement_moved A.a_Statement_moved A.fd_Statement_moved
  b_Statement_moved : Binds K A.fd_Statement_moved ["self", "by"] []
  me_Statement_moved : Meth K A.C_Statement "moved" A.a_Statement_moved
  F__law_begin : Fun K "_law_begin" "_law_begin" s__law_begin A.a__law_begin A.fd__law_begin
  b__law_begin : Binds K A.fd__law_begin ["script"] []
  g__law_begin : mg "_law_begin" = some (.ref A.a__law_begin)
  F__law_draw : Fun K "_law_draw" "_law_draw" s__law_draw A.a__law_draw A.fd__law_draw
  b__law_draw : Binds K A.fd__law_draw ["source", "limit"] []
  g__law_draw : mg "_law_draw" = some (.ref A.a__law_draw)
  F__law_pick : Fun K "_law_pick" "_law_pick" s__law_pick A.a__law_pick A.fd__law_pick
  b__law_pick : Binds K A.fd__law_pick ["source", "items"] []
  g__law_pick : mg "_law_pick" = some (.ref A.a__law_pick)
  F__law_mixed : Fun K "_law_mixed" "_law_mixed" s__law_mixed A.a__law_mixed A.fd__law_mixed
  b__law_mixed : Binds K A.fd__law_mixed ["source", "items"] []
  g__law_mixed : mg "_law_mixed" = some (.ref A.a__law_mixed)
  F__law_stem : Fun K "_law_stem" "_law_stem" s__law_stem A.a__law_stem A.fd__law_stem
  b__law_stem : Binds K A.fd__law_stem ["source"] []
  g__law_stem : mg "_law_stem" = some (.ref A.a__law_stem)
  F__law_names : Fun K "_law_names" "_law_names" s__law_names A.a__law_names A.fd__law_names
  b__law_names : Binds K A.fd__law_names ["source", "many"] []
  g__law_names : mg "_law_names" = some (.ref A.a__law_names)
  F__law_ref : Fun K "_law_ref" "_law_ref" s__law_ref A.a__law_ref A.fd__law_ref
  b__law_ref : Binds K A.fd__law_ref ["source", "rows", "wide"] []
  g__law_ref : mg "_law_ref" = some (.ref A.a__law_ref)
  F__law_rows : Fun K "_law_rows" "_law_rows" s__law_rows A.a__law_rows A.fd__law_rows
  b__law_rows : Binds K A.fd__law_rows ["source", "most", "strides"] []
  g__law_rows : mg "_law_rows" = some (.ref A.a__law_rows)
  F__law_deed : Fun K "_law_deed" "_law_deed" s__law_deed A.a__law_deed A.fd__law_deed
  b__law_deed : Binds K A.fd__law_deed ["deed"] []
  g__law_deed : mg "_law_deed" = some (.ref A.a__law_deed)
  F__law_moved : Fun K "_law_moved" "_law_moved" s__law_moved A.a__law_moved A.fd__law_moved
  b__law_moved : Binds K A.fd__law_moved ["deed", "by"] []
  g__law_moved : mg "_law_moved" = some (.ref A.a__law_moved)
  F__law_told : Fun K "_law_told" "_law_told" s__law_told A.a__law_told A.fd__law_told
  b__law_told : Binds K A.fd__law_told ["made", "by"] []
  g__law_told : mg "_law_told" = some (.ref A.a__law_told)
  F__law_fits : Fun K "_law_fits" "_law_fits" s__law_fits A.a__law_fits A.fd__law_fits
  b__law_fits : Binds K A.fd__law_fits ["deed"] []
  g__law_fits : mg "_law_fits" = some (.ref A.a__law_fits)
  F_law : Fun K "law" "law" s_law A.a_law A.fd_law
  b_law : Binds K A.fd_law ["script"] []
  g_law : mg "law" = some (.ref A.a_law)
  m_all : mg "all" = none
  m_bool : mg "bool" = none
  m_int : mg "int" = none
  m_isinstance : mg "isinstance" = none
  m_len : mg "len" = none
  m_list : mg "list" = none
  m_range : mg "range" = none
  m_repr : mg "repr" = none
  m_str : mg "str" = none
  m_tuple : mg "tuple" = none
  c_LETTERS : ∃ t, mg "LETTERS" = some (.str "abcdefghijklmnopqrstuvwxyz" t)
  c_MOST_LETTERS : ∃ t, mg "MOST_LETTERS" = some (.int 8 t)
  c_MOST_OFFSET : ∃ t, mg "MOST_OFFSET" = some (.int 9 t)
  c_MOST_SOURCES : ∃ t, mg "MOST_SOURCES" = some (.int 3 t)
section
variable {P : Program} {w : World} {K : PySem.W.Frag} {mg : Str → Option Value} {base : Heap} {A : Ad}
/-- an error of the class at C with the value v is let out -/
def Rz (E : XK) (C : Addr) (H : Hp) (v : V) : Prop := ∀ (d : Addr) (H' : Hp), Same H H' → H d = none → H' d = some (.xd [(("value" : Str), v)]) → E (.ref C) (some d) H'
theorem Rz.go {E : XK} {C d : Addr} {H H1 : Hp} {v : V} (h : Rz E C H v) (s : Same H H1) (n : H1 d = none) : E (.ref C) (some d) (upd H1 d (.xd [(("value" : Str), v)])) :=
  h d _ (s.trans (Same.new n)) (s.free n) upd_same
theorem _root_.VW.Src.kpx {H H' : Hp} {s L p : Addr} (h : Src H s L) (n : p ≠ s ∧ p ≠ L) (k : Kp p H H') : Src H' s L := by
  obtain ⟨i, q, z, ns, h1, h2, r⟩ := h
  exact ⟨i, q, z, ns, k _ _ h1 n.1.symm, k _ _ h2 n.2.symm, r⟩
/-- the three fields of a statement -/
def sf (nm : Str) (g so : V) : List (Str × V) := [("kept_name", .str nm), ("kept_target", g), ("kept_sources", so)]
theorem sf_name (nm : Str) (g so : V) : (sf nm g so).lookup ("kept_name" : Str) = some (.str nm) := by first | rfl | kernel_rfl
theorem sf_target (nm : Str) (g so : V) : (sf nm g so).lookup ("kept_target" : Str) = some g := by first | rfl | kernel_rfl
theorem sf_sources (nm : Str) (g so : V) : (sf nm g so).lookup ("kept_sources" : Str) = some so := by first | rfl | kernel_rfl
theorem sf_made (nm : Str) (g so : V) : putF "kept_sources" so (putF "kept_target" g (putF "kept_name" (.str nm) [])) = sf nm g so := by first | rfl | kernel_rfl
/-- at p a statement -/
def StAt (A : Ad) (K : PySem.W.Frag) (H : Hp) (p : Addr) (nm : Str) (tg : Option Rf) (so : List Rf) : Prop := ∃ dx g t, H p = some (.ins A.C_Statement dx (sf nm g t)) ∧ Dp K H g (tgD tg) ∧ Dp K H t (.tuple (so.map refD))
theorem so_noL (so : List Rf) : noL (.tuple (so.map refD)) = true := by
  show noLs (so.map refD) = true
  exact refs_noL so
theorem StAt.same {A : Ad} {K : PySem.W.Frag} {H H' : Hp} {p : Addr} {nm : Str} {tg : Option Rf} {so : List Rf} (e : Same H H') (h : StAt A K H p nm tg so) : StAt A K H' p nm tg so := by
  obtain ⟨dx, g, t, h, h1, h2⟩ := h
  exact ⟨dx, g, t, e _ _ h, dp_same e _ _ h1, dp_same e _ _ h2⟩
theorem StAt.kp {A : Ad} {K : PySem.W.Frag} {H H' : Hp} {s L p : Addr} {nm : Str} {tg : Option Rf} {so : List Rf} (e : Kp s H H') (S : Src H s L) (h : StAt A K H p nm tg so) : StAt A K H' p nm tg so := by
  obtain ⟨dx, g, t, h, h1, h2⟩ := h
  obtain ⟨xs, hs⟩ := S.at
  exact ⟨dx, g, t, e _ _ h (ne_of h hs (by intro z; cases z)), dp_kp e S _ _ (tgD_noL tg) h1, dp_kp e S _ _ (so_noL so) h2⟩
/-- each is a ref or not -/
def RefsAre (K : PySem.W.Frag) (H : Hp) (xs : List V) (bs : List Bool) : Prop := xs.length = bs.length ∧ ∀ (i : Nat) (x : V), xs[i]? = some x → ∃ b, bs[i]? = some b ∧ RefIs K H x b
def TgIs (K : PySem.W.Frag) (H : Hp) (g : V) (b : Bool) : Prop := (g = .non ∧ b = true) ∨ (g ≠ .non ∧ RefIs K H g b)
theorem kit_self {K : PySem.W.Frag} (C : Addr) : PySem.W.kitOne K (.ref C) (.ref C) = some true := by
  unfold PySem.W.kitOne
  rw [if_pos (beq_self_eq_true _)]
def allR (tg : Option Rf) (so : List Rf) : List Rf := so ++ tg.toList
def mvR (b : Int) (r : Rf) : Rf := (r.1, r.2 + b)
def offOk (b : Int) (r : Rf) : Bool := btw (.int (r.2 + b)) (-9) 9
def movOk (v : V) (rs : List Rf) : Bool := match v with
  | .int b => rs.all (offOk b)
  | _ => false
theorem tup_val {K : PySem.W.Frag} {H : Hp} {v : V} {ds : List PyData} (h : Dp K H v (.tuple ds)) : ∃ t ws, v = .ref t ∧ SqT K H t ws ∧ DpAll K H ws ds := by
  cases h with
  | tup h1 h2 => exact ⟨_, _, rfl, h1, h2⟩
theorem dpRefs_get {K : PySem.W.Frag} {H : Hp} {ws : List V} {rs : List Rf} {i : Nat} {v : V} (h : DpAll K H ws (rs.map refD)) (e : ws[i]? = some v) : ∃ r, rs[i]? = some r ∧ Dp K H v (refD r) := by
  obtain ⟨d, h1, h2⟩ := dpAll_get h e
  rw [List.getElem?_map] at h1
  cases hr : rs[i]? with
  | none => rw [hr] at h1; cases h1
  | some r =>
    rw [hr] at h1
    cases h1
    exact ⟨r, rfl, h2⟩
theorem good_ascii {r : Rf} (h : isNm r.1 = true) : ascii r.1 := by
  unfold isNm at h
  simp only [Bool.and_eq_true, List.all_eq_true] at h
  exact lets_ascii h.2
theorem btw_iff {i : Int} : btw (.int i) (-9) 9 = true ↔ (-9 ≤ i ∧ i ≤ 9) := by
  show (decide ((-9 : Int) ≤ i) && decide (i ≤ 9)) = true ↔ _
  rw [Bool.and_eq_true, decide_eq_true_eq, decide_eq_true_eq]
theorem isNm_size {z : Str} (h : isNm z = true) : z.length ≤ sizeLine := by
  unfold isNm at h
  simp only [Bool.and_eq_true, decide_eq_true_eq] at h
  exact sz_of (by omega)
/-- a deed: [word, goal, [ref, ..]] -/
def DeedAt (K : PySem.W.Frag) (H : Hp) (s dd : Addr) (nm : Str) (tg : Option Rf) (so : List Rf) : Prop := ∃ g lo ws, H dd = some (.lst [.str nm, g, .ref lo]) ∧ dd ≠ s ∧ lo ≠ s ∧ Dp K H g (tgD tg) ∧ H lo = some (.lst ws) ∧ DpAll K H ws (so.map refD)
theorem DeedAt.same {K : PySem.W.Frag} {H H' : Hp} {s dd : Addr} {nm : Str} {tg : Option Rf} {so : List Rf} (e : Same H H') (h : DeedAt K H s dd nm tg so) : DeedAt K H' s dd nm tg so := by
  obtain ⟨g, lo, ws, h1, n1, n2, h2, h3, h4⟩ := h
  exact ⟨g, lo, ws, e _ _ h1, n1, n2, dp_same e _ _ h2, e _ _ h3, dpAll_same e _ _ h4⟩
theorem DeedAt.kp {K : PySem.W.Frag} {H H' : Hp} {s L dd : Addr} {nm : Str} {tg : Option Rf} {so : List Rf} (e : Kp s H H') (S : Src H s L) (h : DeedAt K H s dd nm tg so) : DeedAt K H' s dd nm tg so := by
  obtain ⟨g, lo, ws, h1, n1, n2, h2, h3, h4⟩ := h
  exact ⟨g, lo, ws, e _ _ h1 n1, n1, n2, dp_kp e S _ _ (tgD_noL tg) h2, e _ _ h3 n2, dpAll_kp e S _ _ (refs_noL so) h4⟩
/-- rows: [[word, number], ..] -/
def RowsAt (H : Hp) (s ro : Addr) : Prop := ∃ rs : List Addr, H ro = some (.lst (rs.map V.ref)) ∧ ro ≠ s ∧ 0 < rs.length ∧ rs.length ≤ 26 ∧ ∀ r ∈ rs, r ≠ s ∧ ∃ (nm : Str) (n : Int), H r = some (.lst [.str nm, .int n]) ∧ lets nm ∧ 1 ≤ nm.length ∧ nm.length ≤ 6
theorem RowsAt.kp {H H' : Hp} {s ro : Addr} (e : Kp s H H') (h : RowsAt H s ro) : RowsAt H' s ro := by
  obtain ⟨rs, h1, n1, l0, l1, h2⟩ := h
  refine ⟨rs, e _ _ h1 n1, n1, l0, l1, fun r hr => ?_⟩
  obtain ⟨n, nm, k, h3, h4⟩ := h2 r hr
  exact ⟨n, nm, k, e _ _ h3 n, h4⟩
def fitR (r : Rf) : Bool := btw (.int r.2) (-9) 9
theorem fits_mov (b : Int) (tg : Option Rf) (so : List Rf) : (allR (tg.map (mvR b)) (so.map (mvR b))).all fitR = movOk (.int b) (allR tg so) := by
  have e : allR (tg.map (mvR b)) (so.map (mvR b)) = (allR tg so).map (mvR b) := by
    unfold allR
    rw [List.map_append]
    cases tg <;> rfl
  rw [e, List.all_map]
  rfl
/-- what is free behind was free before -/
theorem _root_.VW.Kp.free {s L p : Addr} {H H' : Hp} (e : Kp s H H') (S : Src H' s L) (n : H' p = none) : H p = none := by
  cases q : H p with
  | none => rfl
  | some o => exact absurd n (by rw [e _ _ q (S.fresh n).1]; simp)

def sp_is_integer (K : PySem.W.Frag) : Sp := fun vs H Q _ => ∃ (v : V) (k : Kd), vs = [v] ∧ Kn K H v k ∧ Q (.bl (decide (k = .int))) H
theorem ok_is_integer (T : Tx P A K mg) : FnOk P w K mg base CX0 1 A.a_is_integer A.fd_is_integer ["value"] (sp_is_integer K) := by
  refine T.F_is_integer.ok sc_is_integer (fun vs H Q E h => ?_) (fun cdv A' outer s H vs Q E hr h => ?_)
  · obtain ⟨v, k, rfl, _⟩ := h
    rfl
  · obtain ⟨v, k, rfl, hk, q⟩ := h
    refine ⟨_, (pss_one (ps_ret (pe_and (pe_callB call_isi (by rfl) T.m_isinstance bb_isinstance (pa_cons (pv 0) (pa_cons (pe_bltn (v := .ty "int") (by rfl) T.m_int bb_int rfl) pa_nil))) (pe_one (pe_not (pe_callB call_isi (by rfl) T.m_isinstance bb_isinstance (pa_cons (pv 0) (pa_cons (pe_bltn (v := .ty "bool") (by rfl) T.m_bool bb_bool rfl) pa_nil)))))))), ?_⟩
    obtain ⟨t, h1, h2⟩ := hk.ty
    refine ⟨_, rfl, _, _, t, _, _, rfl, .ty _, h1, h2 "int" (by decide), _, rfl, ?_⟩
    cases k with
    | int => exact iteT ⟨_, rfl, _, _, t, _, _, rfl, .ty _, h1, h2 "bool" (by decide), _, rfl, q⟩
    | bl => exact iteT ⟨_, rfl, _, _, t, _, _, rfl, .ty _, h1, h2 "bool" (by decide), _, rfl, q⟩
    | _ => exact iteF q

def sp_is_between (K : PySem.W.Frag) : Sp := fun vs H Q _ => ∃ (v : V) (k : Kd) (lo hi : Int), vs = [v, .int lo, .int hi] ∧ Kn K H v k ∧ Q (.bl (btw v lo hi)) H
theorem ok_is_between (T : Tx P A K mg) : FnOk P w K mg base CX0 2 A.a_is_between A.fd_is_between ["value", "low", "high"] (sp_is_between K) := by
  refine T.F_is_between.ok sc_is_between (fun vs H Q E h => ?_) (fun cdv A' outer s H vs Q E hr h => ?_)
  · obtain ⟨v, k, lo, hi, rfl, _⟩ := h
    rfl
  · obtain ⟨v, k, lo, hi, rfl, hk, q⟩ := h
    refine ⟨_, (pss_one (ps_ret (pe_and (pe_call (ok_is_integer T) (hr.mono (by decide)) (by rfl) T.g_is_integer T.F_is_integer.kp T.b_is_integer .nil pass0 (pa_cons (pv 0) pa_nil)) (pe_one (pe_chain op_le op_le (pv 1) (pv 0) (pv 2)))))), ?_⟩
    refine ⟨_, rfl, v, k, rfl, hk, _, rfl, ?_⟩
    by_cases hi' : k = .int
    · subst hi'
      cases hk with
      | int i =>
        refine iteT ⟨_, rfl, _, rfl, _, _, rfl, rfl, _, rfl, ?_⟩
        by_cases c : lo ≤ i
        · rw [if_pos (decide_eq_true c)]
          refine ⟨_, rfl, _, _, rfl, rfl, ?_⟩
          have e : btw (.int i) lo hi = decide (i ≤ hi) := by
            show (decide (lo ≤ i) && decide (i ≤ hi)) = _
            rw [decide_eq_true c, Bool.true_and]
          rw [e] at q
          exact q
        · rw [decide_eq_false c]
          refine iteF ?_
          have e : btw (.int i) lo hi = false := by
            show (decide (lo ≤ i) && decide (i ≤ hi)) = _
            rw [decide_eq_false c, Bool.false_and]
          rw [e] at q
          exact q
    · rw [decide_eq_false hi']
      refine iteF ?_
      rw [hk.notInt hi'] at q
      exact q

def sp_is_name (K : PySem.W.Frag) : Sp := fun vs H Q _ => ∃ (v : V) (k : Kd), vs = [v] ∧ Kn K H v k ∧ ∀ H', Same H H' → Q (.bl (nmV v)) H'
theorem ok_is_name (T : Tx P A K mg) : FnOk P w K mg base CX0 1 A.a_is_name A.fd_is_name ["value"] (sp_is_name K) := by
  refine T.F_is_name.ok sc_is_name (fun vs H Q E h => ?_) (fun cdv A' outer s H vs Q E hr h => ?_)
  · obtain ⟨v, k, rfl, _⟩ := h
    rfl
  · obtain ⟨v, k, rfl, hk, q⟩ := h
    refine ⟨_, (pss_cons (ps_if (PW.pt (pw_or (pt_not (pt_val (pe_callB call_isi (by rfl) T.m_isinstance bb_isinstance (pa_cons (pv 0) (pa_cons (pe_bltn (v := .ty "str") (by rfl) T.m_str bb_str rfl) pa_nil))))) (pw_or1 (pt_not (pt_chain op_le op_le pe_int (pe_callB call_len_str (by rfl) T.m_len bb_len (pa_cons (pv 0) pa_nil)) (pe_glob (v := .int 8) (by rfl) T.c_MOST_LETTERS.choose_spec ⟨_, rfl⟩)))))) (pss_one (ps_ret pe_bl)) pss_nil)
      (pss_one (ps_ret (pe_callB (cr_all rfl) (by rfl) T.m_all bb_all (pa_cons (pe_lc (own := [("sign", 1)]) (g := gName 1) (tt := tYes) (by rfl) sc_is_name.nd (pi_str (pv 0)) (blkOk_by (own := [("sign", 1)]) (N := N_is_name) (sc := defScope s_is_name) (by decide +kernel)) (fun _ _ _ _ _ => (pg_name (i := 1) sc_is_name.nd rfl (.inl rfl))) (fun _ _ _ _ _ => pts_nil) (fun _ _ _ _ _ => (pe_cmpR op_in_sign (pv 1) (pe_glob (v := .str "abcdefghijklmnopqrstuvwxyz") (by rfl) T.c_LETTERS.choose_spec ⟨_, rfl⟩) (by rfl)))) pa_nil))))), ?_⟩
    obtain ⟨t, h1, h2⟩ := hk.ty
    refine ⟨_, rfl, _, _, t, _, _, rfl, .ty _, h1, h2 "str" (by decide), _, rfl, ?_⟩
    by_cases hs : k = .str
    · subst hs
      cases hk with
      | @str z hz =>
        have e0 : (!isk .str "str") = false := by decide
        rw [e0]
        refine iteF ?_
        refine ⟨_, rfl, z, rfl, hz, _, _, rfl, rfl, _, rfl, ?_⟩
        by_cases c1 : (1 : Int) ≤ (z.length : Int)
        · rw [if_pos (decide_eq_true c1)]
          refine ⟨_, _, rfl, rfl, _, rfl, ?_⟩
          by_cases c2 : (z.length : Int) ≤ 8
          · rw [decide_eq_true c2]
            refine iteF ?_
            refine ⟨_, rfl, z, rfl, fun D hD => ?_⟩
            refine lc_it (walk_str (z := z)) (fun i H' => Same H H' ∧ H' D = some (.lst ((((z.cps.toList).take i).map isLet).map V.bl))) ⟨Same.new hD, upd_same⟩ (fun _ _ _ _ => trivial) ?_ ?_
            · rintro i x H1 H2 hi ⟨s1, d1⟩ ⟨rfl, c, hc, rfl⟩
              refine ⟨rfl, _, rfl, c, LET, rfl, rfl, _, d1, ?_, s1.mut hD, ?_⟩
              · rw [List.length_map, List.length_map, List.length_take]
                have : z.cps.toList.length = z.length := by simp [PySem.Str.length]
                exact sz_lt (by omega)
              · rw [upd_same, take_succ_of (by rw [Array.getElem?_toList]; exact hc), List.map_append, List.map_append]
                rfl
            · rintro H1 ⟨s1, d1⟩
              refine ⟨D, _, rfl, SqL.of d1, ?_⟩
              have e : isNm z = List.all (((z.cps.toList).take z.cps.size).map isLet) id := by
                unfold isNm
                rw [decide_eq_true (show 1 ≤ z.length by omega), decide_eq_true (show z.length ≤ 8 by omega), show z.cps.size = z.cps.toList.length by simp, List.take_length, List.all_map]
                rfl
              have q1 : Q (.bl (isNm z)) H1 := q H1 s1
              rw [e] at q1
              exact q1
          · rw [decide_eq_false c2]
            refine iteT ?_
            have e : isNm z = false := by
              unfold isNm
              rw [decide_eq_false (show ¬ z.length ≤ 8 by omega), Bool.and_false, Bool.false_and]
            have q1 : Q (.bl (isNm z)) H := q H (Same.refl H)
            rw [e] at q1
            exact q1
        · rw [decide_eq_false c1]
          refine iteF ⟨_, rfl, iteT ?_⟩
          have e : isNm z = false := by
            unfold isNm
            rw [decide_eq_false (show ¬ 1 ≤ z.length by omega), Bool.false_and, Bool.false_and]
          have q1 : Q (.bl (isNm z)) H := q H (Same.refl H)
          rw [e] at q1
          exact q1
    · have e0 : (!isk k "str") = true := by cases k <;> first | decide | exact absurd rfl hs
      refine ifT e0 ?_
      have q1 := q H (Same.refl H)
      rw [hk.notStr hs] at q1
      exact q1

def sp_is_offset (K : PySem.W.Frag) : Sp := fun vs H Q _ => ∃ (v : V) (k : Kd), vs = [v] ∧ Kn K H v k ∧ Q (.bl (btw v (-9) 9)) H
theorem ok_is_offset (T : Tx P A K mg) : FnOk P w K mg base CX0 3 A.a_is_offset A.fd_is_offset ["value"] (sp_is_offset K) := by
  refine T.F_is_offset.ok sc_is_offset (fun vs H Q E h => ?_) (fun cdv A' outer s H vs Q E hr h => ?_)
  · obtain ⟨v, k, rfl, _⟩ := h
    rfl
  · obtain ⟨v, k, rfl, hk, q⟩ := h
    refine ⟨_, (pss_one (ps_ret (pe_call (ok_is_between T) (hr.mono (by decide)) (by rfl) T.g_is_between T.F_is_between.kp T.b_is_between .nil pass0 (pa_cons (pv 0) (pa_cons (pe_un un_neg (pe_glob (v := .int 9) (by rfl) T.c_MOST_OFFSET.choose_spec ⟨_, rfl⟩)) (pa_cons (pe_glob (v := .int 9) (by rfl) T.c_MOST_OFFSET.choose_spec ⟨_, rfl⟩) pa_nil)))))), ?_⟩
    exact ⟨_, rfl, _, rfl, v, k, -9, 9, rfl, hk, q⟩

def sp_is_ref (K : PySem.W.Frag) : Sp := fun vs H Q _ => ∃ (v : V) (b : Bool), vs = [v] ∧ RefIs K H v b ∧ ∀ H', Same H H' → Q (.bl b) H'
theorem ok_is_ref (T : Tx P A K mg) : FnOk P w K mg base CX0 4 A.a_is_ref A.fd_is_ref ["value"] (sp_is_ref K) := by
  refine T.F_is_ref.ok sc_is_ref (fun vs H Q E h => ?_) (fun cdv A' outer s H vs Q E hr h => ?_)
  · obtain ⟨v, b, rfl, _⟩ := h
    rfl
  · obtain ⟨v, b, rfl, hk, q⟩ := h
    refine ⟨_, (pss_one (ps_ret (pe_and (pe_callB call_isi (by rfl) T.m_isinstance bb_isinstance (pa_cons (pv 0) (pa_cons (pe_bltn (v := .ty "tuple") (by rfl) T.m_tuple bb_tuple rfl) pa_nil))) (pe_and (pe_cmpR op_eq (pe_callB call_len_seq (by rfl) T.m_len bb_len (pa_cons (pv 0) pa_nil)) pe_int (nomark _)) (pe_and (pe_call (ok_is_name T) (hr.mono (by decide)) (by rfl) T.g_is_name T.F_is_name.kp T.b_is_name .nil pass0 (pa_cons (pe_ix ix_tup (pv 0) pe_int (fun _ _ => rfl)) pa_nil)) (pe_one (pe_call (ok_is_offset T) (hr.mono (by decide)) (by rfl) T.g_is_offset T.F_is_offset.kp T.b_is_offset .nil pass0 (pa_cons (pe_ix ix_tup (pv 0) pe_int (fun _ _ => rfl)) pa_nil)))))))), ?_⟩
    cases hk with
    | @not v k hk n =>
      obtain ⟨t, h1, h2⟩ := hk.ty
      refine ⟨_, rfl, _, _, t, _, _, rfl, .ty _, h1, h2 "tuple" (by decide), _, rfl, ?_⟩
      have e0 : isk k "tuple" = false := by cases k <;> first | decide | exact absurd rfl n
      rw [e0]
      exact iteF (q H (Same.refl H))
    | @len a xs h n =>
      obtain ⟨t, h1, h2⟩ := (Kn.tup h).ty
      refine ⟨_, rfl, _, _, t, _, _, rfl, .ty _, h1, h2 "tuple" (by decide), _, rfl, iteT ⟨_, rfl, a, xs, rfl, .inr h, rfl, _, rfl, ?_⟩⟩
      have e0 : decide (V.int (xs.length : Int) = V.int 2) = false := decide_eq_false fun z => n (by have z' := V.int.inj z; omega)
      rw [e0]
      exact iteF (q H (Same.refl H))
    | @two a x y kx ky h hx hy =>
      obtain ⟨t, h1, h2⟩ := (Kn.tup h).ty
      refine ⟨_, rfl, _, _, t, _, _, rfl, .ty _, h1, h2 "tuple" (by decide), _, rfl, iteT ⟨_, rfl, a, [x, y], rfl, .inr h, rfl, _, rfl, ?_⟩⟩
      have e0 : decide (V.int (([x, y] : List V).length : Int) = V.int 2) = true := decide_eq_true rfl
      rw [e0]
      refine iteT ⟨_, rfl, a, [x, y], 0, x, rfl, rfl, h, rfl, x, kx, rfl, hx, fun H1 s1 => ⟨_, rfl, ?_⟩⟩
      cases e1 : nmV x with
      | false =>
        refine iteF ?_
        rw [e1, Bool.false_and] at q
        exact q H1 s1
      | true =>
        refine iteT ⟨_, rfl, a, [x, y], 1, y, rfl, rfl, same_t s1 h, rfl, y, ky, rfl, hy.same s1, ?_⟩
        rw [e1, Bool.true_and] at q
        exact q H1 s1

/-- the body's promise: self, name, target, the tuple of the sources -/
def sp_St (A : Ad) (K : PySem.W.Frag) : Sp := fun vs H Q E => ∃ (p dx t : Addr) (x g : V) (kx : Kd) (xs : List V) (bs : List Bool) (bg : Bool), vs = [.ref p, x, g, .ref t] ∧ H p = some (.ins A.C_Statement dx []) ∧ Kn K H x kx ∧ TgIs K H g bg ∧ SqT K H t xs ∧ RefsAre K H xs bs ∧
  (nmV x = false → Rz E A.C_InvalidName H x) ∧ (nmV x = true → bg = false → Rz E A.C_InvalidRef H g) ∧ (nmV x = true → bg = true → 3 < xs.length → Rz E A.C_InvalidRef H (.ref t)) ∧
  (nmV x = true → bg = true → xs.length ≤ 3 → ∀ (i : Nat) (v : V), xs[i]? = some v → bs[i]? = some false → (∀ j, j < i → bs[j]? = some true) → Rz E A.C_InvalidRef H v) ∧
  (∀ nm : Str, x = .str nm → isNm nm = true → bg = true → xs.length ≤ 3 → (∀ b ∈ bs, b = true) → ∀ H', Kp p H H' → H' p = some (.ins A.C_Statement dx (sf nm g (.ref t))) → Q .non H')
theorem body_St (T : Tx P A K mg) {cdv : Value} {A' : Around} {outer : List Env} {s : Shared} {H : Hp} {vs : List V} {Q : VK} {E : XK} (hr : Room 4 (A'.deeper (PyProof.Rows.envOfC "Statement.__init__" (defScope s_Statement___init__) s.heap.objs.size A.a_Statement___init__ cdv))) (h : sp_St A K vs H Q E) :
    ∃ t, PSs (cxOf (L2.CX P w) P w K mg base N_Statement___init__ "Statement.__init__" (defScope s_Statement___init__) A.a_Statement___init__ cdv A' outer s H E) (defBody s_Statement___init__) t ∧ t { nx := fun _ H' => Q .non H', rt := Q } (start N_Statement___init__ vs) H := by
  obtain ⟨p, dx, t, x, g, kx, xs, bs, bg, rfl, hp, hx, hg, ht, hrs, e1, e2, e3, e4, q⟩ := h
  refine ⟨_, (pss_cons (ps_if (pt_not (pt_val (pe_call (ok_is_name T) (hr.mono (by decide)) (by rfl) T.g_is_name T.F_is_name.kp T.b_is_name .nil pass0 (pa_cons (pv 1) pa_nil)))) (pss_one (ps_raiseEr (by rfl) T.er_InvalidName (hr.mono (Nat.zero_le _)) (takes_of rfl rfl rfl rfl) (pa_cons (pv 1) pa_nil) (by rfl))) pss_nil)
      (C8.pss_cut (ps_if (PW.pt (pw_and (pt_cmpR op_notN (pv 2) pe_non (nomark _)) (pw_and1 (pt_not (pt_val (pe_call (ok_is_ref T) (hr.mono (by decide)) (by rfl) T.g_is_ref T.F_is_ref.kp T.b_is_ref .nil pass0 (pa_cons (pv 2) pa_nil))))))) (pss_one (ps_raiseEr (by rfl) T.er_InvalidRef (hr.mono (Nat.zero_le _)) (takes_of rfl rfl rfl rfl) (pa_cons (pv 2) pa_nil) (by rfl))) pss_nil)
      (pss_cons (ps_if (pt_cmpR op_gt (pe_callB call_len_seq (by rfl) T.m_len bb_len (pa_cons (pv 3) pa_nil)) (pe_glob (v := .int 3) (by rfl) T.c_MOST_SOURCES.choose_spec ⟨_, rfl⟩) (nomark _)) (pss_one (ps_raiseEr (by rfl) T.er_InvalidRef (hr.mono (Nat.zero_le _)) (takes_of rfl rfl rfl rfl) (pa_cons (pv 3) pa_nil) (by rfl))) pss_nil)
      (pss_cons (ps_for (passes_of rfl) rfl (pi_tup (pv 3)) (pg_name (i := 4) sc_Statement___init__.nd rfl (.inl rfl))
      (pss_one (ps_if (pt_not (pt_val (pe_call (ok_is_ref T) (hr.mono (by decide)) (by rfl) T.g_is_ref T.F_is_ref.kp T.b_is_ref .nil pass0 (pa_cons (pv 4) pa_nil)))) (pss_one (ps_raiseEr (by rfl) T.er_InvalidRef (hr.mono (Nat.zero_le _)) (takes_of rfl rfl rfl rfl) (pa_cons (pv 4) pa_nil) (by rfl))) pss_nil)))
      (pss_cons (ps_fld (pv 0) (pv 1) rfl)
      (pss_cons (ps_fld (pv 0) (pv 2) rfl)
      (pss_one (ps_fld (pv 0) (pe_callTy call_tuple_of (by rfl) T.m_tuple bb_tuple (pa_cons (pv 3) pa_nil)) rfl)))))))), ?_⟩
  refine ⟨_, rfl, x, kx, rfl, hx, fun H1 s1 => ⟨_, rfl, ?_⟩⟩
  cases c1 : nmV x with
  | false => exact ⟨_, rfl, _, rfl, fun d hd => (e1 c1).go s1 hd⟩
  | true =>
    obtain ⟨nm, rfl⟩ : ∃ nm, x = .str nm := by cases hx <;> first | exact ⟨_, rfl⟩ | cases c1
    refine ⟨fun σ H' => σ = [some (.ref p), some (.str nm), some g, some (.ref t), none] ∧ Same H H' ∧ bg = true, ?_, ?_⟩
    · rcases hg with ⟨rfl, hb⟩ | ⟨hn, hg⟩
      · exact ⟨_, rfl, rfl, _, rfl, rfl, s1, hb⟩
      · refine ⟨_, rfl, rfl, _, rfl, ?_⟩
        refine ifT (by rw [decide_eq_false hn]; rfl) ?_
        refine ⟨_, rfl, g, bg, rfl, hg.same s1, fun H2 s2 => ⟨_, rfl, ?_⟩⟩
        cases bg with
        | false => exact ⟨_, rfl, _, rfl, fun d hd => (e2 c1 rfl).go (s1.trans s2) hd⟩
        | true => exact ⟨rfl, s1.trans s2, rfl⟩
    · rintro σ H2 ⟨rfl, s2, hb⟩
      refine ⟨_, rfl, t, xs, rfl, .inr (same_t s2 ht), _, _, rfl, rfl, _, rfl, ?_⟩
      by_cases c3 : 3 < xs.length
      · refine ifT (decide_eq_true (by omega)) ?_
        exact ⟨_, rfl, _, rfl, fun d hd => (e3 c1 hb c3).go s2 hd⟩
      · refine ifF (decide_eq_false (by omega)) ?_
        refine ⟨_, rfl, t, rfl, ⟨xs, same_t s2 ht⟩, ?_⟩
        refine for_tup (K := K) (a := t) (xs := xs) (fun i σ H' => (∃ v, σ = [some (.ref p), some (.str nm), some g, some (.ref t), v]) ∧ Same H H' ∧ ∀ j, j < i → bs[j]? = some true) ⟨⟨_, rfl⟩, s2, by omega⟩ ?_ ?_ ?_
        · rintro i σ H' _ ⟨_, s3, _⟩
          exact same_t s3 ht
        · rintro i z σ H' hi ⟨⟨v, rfl⟩, s3, hj⟩
          obtain ⟨b, h1, h2⟩ := hrs.2 i z hi
          refine ⟨_, rfl, z, b, rfl, h2.same s3, fun H4 s4 => ⟨_, rfl, ?_⟩⟩
          cases b with
          | false => exact ⟨_, rfl, _, rfl, fun d hd => (e4 c1 hb (by omega) i z hi h1 hj).go (s3.trans s4) hd⟩
          | true =>
            refine ⟨⟨_, rfl⟩, s3.trans s4, fun j hlt => ?_⟩
            by_cases cj : j < i
            · exact hj j cj
            · have : j = i := by omega
              subst this
              exact h1
        · rintro σ H' ⟨⟨v, rfl⟩, s3, hj⟩
          refine ⟨_, rfl, _, rfl, p, A.C_Statement, dx, _, rfl, s3 _ _ hp, T.cl_Statement, T.n_Statement_kept_name, by show 0 < 1000; decide, ?_⟩
          refine ⟨_, rfl, _, rfl, p, A.C_Statement, dx, _, rfl, upd_same, T.cl_Statement, T.n_Statement_kept_target, by show 1 < 1000; decide, ?_⟩
          have ht' : SqT K (upd (upd H' p (.ins A.C_Statement dx (putF "kept_name" (.str nm) []))) p (.ins A.C_Statement dx (putF "kept_target" g (putF "kept_name" (.str nm) [])))) t xs := by
            rw [upd_upd]
            have h3 := same_t s3 ht
            have hp3 := s3 _ _ hp
            rcases h3 with (h | ⟨o, h⟩) | h
            · exact .inl (.inl (by rw [upd_ne (ne_of h hp3 (by intro z; cases z))]; exact h))
            · exact .inl (.inr ⟨o, by rw [upd_ne (ne_of h hp3 (by intro z; cases z))]; exact h⟩)
            · exact .inr h
          refine ⟨_, rfl, t, xs, rfl, .inr ⟨ht', _, rfl, p, A.C_Statement, dx, _, rfl, upd_same, T.cl_Statement, T.n_Statement_kept_sources, by show 2 < 1000; decide, ?_⟩⟩
          rw [sf_made, upd_upd, upd_upd]
          refine q nm rfl c1 hb (by omega) (fun b hb' => ?_) _ (fun b o e n => ?_) upd_same
          · obtain ⟨i, hi⟩ := List.getElem?_of_mem hb'
            have hlt := (List.getElem?_eq_some_iff.mp hi).1
            have h5 := hj i (by rw [hrs.1]; exact hlt)
            rw [hi] at h5
            exact Option.some.inj h5
          · rw [upd_ne n]
            exact s3 _ _ e
def sp_Statement___init__ (A : Ad) (K : PySem.W.Frag) : Sp := fun vs H Q E => (∃ a b c rest, vs = a :: b :: c :: rest ∧ rest.length ≤ sizeLine ∧ ∀ p, H p = none → sp_St A K [a, b, c, .ref p] (upd H p (.tup rest)) Q E) ∨
  ∃ a b, vs = [a, b] ∧ ∀ p, H p = none → sp_St A K [a, b, .non, .ref p] (upd H p (.tup [])) Q E
theorem ok_Statement___init__ (T : Tx P A K mg) : FnR P w K mg base (L2.CX P w) 5 A.a_Statement___init__ (sp_Statement___init__ A K) := by
  obtain ⟨oc, od, dV, kV, doc, pm, an, cdv, ct, osl, hfd, lk, hcd, hdf, _⟩ := T.F_Statement___init__.ex
  rcases hdf with ⟨z, _⟩ | ⟨_, Td, o, its, n, rfl, lT, dT, hv⟩
  · cases z
  · cases hv with
    | cons r1 r2 =>
      cases r2
      cases r1
      rw [hfd] at lk
      refine fn_starD lk hcd lT dT sc_Statement___init__ StX.cxUp ?_ ?_ (fun A' outer s H vs Q E hr h => body_St T hr h)
      · intro a b c rest
        cases rest <;> exact ⟨_, rfl, rfl⟩
      · intro a b
        exact ⟨_, rfl, rfl⟩
theorem mk_St {H : Hp} {x dx : Addr} {nm : Str} {g : V} {ws : List V} {tg : Option Rf} {so : List Rf} {Q : VK} {E : XK} (hx : H x = none) (hdx : H dx = none) (ne : dx ≠ x) (hnm : isNm nm = true) (hg : Dp K H g (tgD tg)) (hws : DpAll K H ws (so.map refD)) (good : ∀ r ∈ allR tg so, goodRf r) (hl : so.length ≤ 3)
    (q : ∀ H', Same H H' → StAt A K H' x nm tg so → Q .non H') : ∀ p, upd (upd H dx (.own x)) x (.ins A.C_Statement dx []) p = none → sp_St A K [.ref x, .str nm, g, .ref p] (upd (upd (upd H dx (.own x)) x (.ins A.C_Statement dx [])) p (.tup ws)) Q E := by
  intro p hp
  have s0 : Same H (upd (upd H dx (.own x)) x (.ins A.C_Statement dx [])) := fun b o e => by
    rw [upd_ne (ne_of_none e hx), upd_ne (ne_of_none e hdx)]
    exact e
  have s1 := s0.trans (Same.new (o := .tup ws) hp)
  have hlw : ws.length = so.length := by
    have := dpAll_len hws
    rw [List.length_map] at this
    exact this
  have hin : upd (upd (upd H dx (.own x)) x (.ins A.C_Statement dx [])) p (.tup ws) x = some (.ins A.C_Statement dx []) := (Same.new hp) _ _ upd_same
  refine ⟨x, dx, p, .str nm, g, .str, ws, ws.map fun _ => true, true, rfl, hin, .str (isNm_size hnm), ?_, SqT.of upd_same, ⟨by rw [List.length_map], fun i v hi => ⟨true, by rw [List.getElem?_map, hi]; rfl, ?_⟩⟩, fun z => ?_, fun _ z => Bool.noConfusion z, fun _ _ z => ?_, fun _ _ _ i v _ h1 _ => ?_, fun nm' e1 _ _ _ _ H' k' h' => ?_⟩
  · cases tg with
    | none => cases hg; exact .inl ⟨rfl, rfl⟩
    | some r =>
      obtain ⟨tr, rfl, _⟩ := ref_val hg
      exact .inr ⟨fun z => V.noConfusion z, ref_good (dp_same s1 _ _ hg) (good r (by simp [allR]))⟩
  · obtain ⟨r, hr, hd⟩ := dpRefs_get hws hi
    exact ref_good (dp_same s1 _ _ hd) (good r (List.mem_append_left _ (List.mem_of_getElem? hr)))
  · have z' : isNm nm = false := z
    rw [hnm] at z'
    cases z'
  · exfalso
    omega
  · rw [List.getElem?_map] at h1
    cases hv : ws[i]? with
    | none => rw [hv] at h1; cases h1
    | some y => rw [hv] at h1; cases h1
  · cases e1
    have s2 : Same H H' := fun b o e => k' b o (s1 b o e) (ne_of_none e hx)
    refine q H' s2 ⟨dx, g, .ref p, h', dp_same s2 _ _ hg, .tup ?_ (dpAll_same s2 _ _ hws)⟩
    exact SqT.of (k' _ _ upd_same (fun z => by rw [z, upd_same] at hp; cases hp))
theorem mk_St3 {H : Hp} {x dx : Addr} {nm : Str} {g : V} {ws : List V} {tg : Option Rf} {so : List Rf} {Q : VK} {E : XK} (hx : H x = none) (hdx : H dx = none) (ne : dx ≠ x) (hnm : isNm nm = true) (hg : Dp K H g (tgD tg)) (hws : DpAll K H ws (so.map refD)) (good : ∀ r ∈ allR tg so, goodRf r) (hl : so.length ≤ 3)
    (q : ∀ H', Same H H' → StAt A K H' x nm tg so → Q .non H') : sp_Statement___init__ A K (.ref x :: .str nm :: g :: ws) (upd (upd H dx (.own x)) x (.ins A.C_Statement dx [])) Q E := by
  refine .inl ⟨_, _, _, _, rfl, ?_, mk_St hx hdx ne hnm hg hws good hl q⟩
  have := dpAll_len hws
  rw [List.length_map] at this
  exact sz_of (by omega)

def sp_Statement_refs (A : Ad) (K : PySem.W.Frag) : Sp := fun vs H Q _ => ∃ (p : Addr) (nm : Str) (tg : Option Rf) (so : List Rf), vs = [.ref p] ∧ StAt A K H p nm tg so ∧ so.length ≤ 100 ∧
  ∀ (r : Addr) (ws : List V) H', H r = none → Same H H' → H' r = some (.lst ws) → DpAll K H' ws ((allR tg so).map refD) → Q (.ref r) H'
theorem ok_Statement_refs (T : Tx P A K mg) : FnOk P w K mg base CX0 1 A.a_Statement_refs A.fd_Statement_refs ["self"] (sp_Statement_refs A K) := by
  refine T.F_Statement_refs.ok sc_Statement_refs (fun vs H Q E h => ?_) (fun cdv A' outer s H vs Q E hr h => ?_)
  · obtain ⟨p, nm, tg, so, rfl, _⟩ := h
    rfl
  · obtain ⟨p, nm, tg, so, rfl, ⟨dx, g, t, hp, hg, ht⟩, hl, q⟩ := h
    refine ⟨_, (pss_cons (ps_set (i := 1) sc_Statement_refs.nd rfl (.inl rfl) (pe_callTy call_list_of (by rfl) T.m_list bb_list (pa_cons (pe_fld (pv 0) rfl) pa_nil)))
      (C8.pss_cut (ps_if (pt_cmpR op_notN (pe_fld (pv 0) rfl) pe_non (nomark _)) (pss_one (ps_expr (pe_bm PySem.F.plainAttrs_list PySem.F.slot_list_append PySem.F.type_list_append mt_append (pv 1) (pa_cons (pe_fld (pv 0) rfl) pa_nil)))) pss_nil)
      (pss_one (ps_ret (pv 1))))), ?_⟩
    obtain ⟨ta, ws, rfl, hta, hws⟩ := tup_val ht
    refine ⟨_, rfl, p, A.C_Statement, dx, _, _, rfl, hp, T.cl_Statement, T.n_Statement_kept_sources, sf_sources _ _ _, ta, ws, rfl, .inr hta, fun l hl0 => ?_⟩
    have s1 := Same.new (o := .lst ws) hl0
    refine ⟨fun σ H' => σ = [some (.ref p), some (.ref l)] ∧ Same H H' ∧ ∃ ws', H' l = some (.lst ws') ∧ DpAll K H' ws' ((allR tg so).map refD), ?_, ?_⟩
    · refine ⟨_, rfl, p, A.C_Statement, dx, _, _, rfl, s1 _ _ hp, T.cl_Statement, T.n_Statement_kept_target, sf_target _ _ _, rfl, _, rfl, ?_⟩
      cases tg with
      | none =>
        cases hg
        refine ifF rfl ⟨rfl, s1, ws, upd_same, ?_⟩
        have e : allR none so = so := by simp [allR]
        rw [e]
        exact dpAll_same s1 _ _ hws
      | some r =>
        obtain ⟨tr, rfl, hr'⟩ := ref_val hg
        refine ifT rfl ?_
        refine ⟨_, rfl, .inl ⟨rfl, _, SqL.of upd_same⟩, _, rfl, p, A.C_Statement, dx, _, _, rfl, s1 _ _ hp, T.cl_Statement, T.n_Statement_kept_target, sf_target _ _ _, l, _, _, rfl, rfl, upd_same, ?_, ?_⟩
        · have := dpAll_len hws
          rw [List.length_map] at this
          exact sz_lt (by omega)
        · have s2 : Same H (upd (upd H l (.lst ws)) l (.lst (ws ++ [V.ref tr]))) := s1.mut hl0
          refine ⟨rfl, s2, _, upd_same, ?_⟩
          have e : (allR (some r) so).map refD = so.map refD ++ [refD r] := by simp [allR]
          rw [e]
          exact dpAll_app (dpAll_same s2 _ _ hws) (.cons (dp_same s2 _ _ hg) .nil)
    · rintro σ H' ⟨rfl, s2, ws', h1, h2⟩
      exact ⟨_, rfl, q l ws' H' hl0 s2 h1 h2⟩

def sp_Statement___eq__ (A : Ad) (K : PySem.W.Frag) : Sp := fun vs H Q _ => ∃ (p p' : Addr) (nm nm' : Str) (tg tg' : Option Rf) (so so' : List Rf), vs = [.ref p, .ref p'] ∧ StAt A K H p nm tg so ∧ StAt A K H p' nm' tg' so' ∧
  (∀ r ∈ allR tg so, isNm r.1 = true) ∧ (∀ r ∈ allR tg' so', isNm r.1 = true) ∧ Q (.bl (decide (nm = nm') && (decide (tg = tg') && decide (so = so')))) H
theorem ok_Statement___eq__ (T : Tx P A K mg) : FnOk P w K mg base CX0 1 A.a_Statement___eq__ A.fd_Statement___eq__ ["self", "other"] (sp_Statement___eq__ A K) := by
  refine T.F_Statement___eq__.ok sc_Statement___eq__ (fun vs H Q E h => ?_) (fun cdv A' outer s H vs Q E hr h => ?_)
  · obtain ⟨p, p', nm, nm', tg, tg', so, so', rfl, _⟩ := h
    rfl
  · obtain ⟨p, p', nm, nm', tg, tg', so, so', rfl, ⟨dx, g, t, hp, hg, ht⟩, ⟨dx', g', t', hp', hg', ht'⟩, ok, ok', q⟩ := h
    refine ⟨_, (pss_cons (ps_if (PW.pt (pw_or (pt_not (pt_val (pe_callB call_isi (by rfl) T.m_isinstance bb_isinstance (pa_cons (pv 1) (pa_cons (pe_glob (v := .ref A.C_Statement) (by rfl) T.g_Statement rfl) pa_nil))))) (pw_or1 (pt_cmpR op_ne (pe_fld (pv 0) rfl) (pe_fld (pv 1) rfl) (nomark _))))) (pss_one (ps_ret pe_bl)) pss_nil)
      (pss_one (ps_ret (pe_and (pe_cmpR (op_eqD hr.units) (pe_fld (pv 0) rfl) (pe_fld (pv 1) rfl) (nomark _)) (pe_one (pe_cmpR (op_eqD hr.units) (pe_fld (pv 0) rfl) (pe_fld (pv 1) rfl) (nomark _))))))), ?_⟩
    have c := T.oc_Statement
    refine ⟨_, rfl, _, _, _, _, _, rfl, .own _, .base (.ins hp' c.cl c.ha c.hn c.htk c.hm), kit_self _, _, rfl, ?_⟩
    refine ⟨_, rfl, p, A.C_Statement, dx, _, _, rfl, hp, T.cl_Statement, T.n_Statement_kept_name, sf_name _ _ _, _, rfl, p', A.C_Statement, dx', _, _, rfl, hp', T.cl_Statement, T.n_Statement_kept_name, sf_name _ _ _, rfl, _, rfl, ?_⟩
    by_cases c1 : nm = nm'
    · subst c1
      refine ifF (by rw [decide_eq_true rfl]; rfl) ?_
      rw [decide_eq_true rfl, Bool.true_and] at q
      have lay : ∀ {tg : Option Rf} {so : List Rf}, (∀ r ∈ allR tg so, isNm r.1 = true) → SeqAt.shaped (tgD tg) = true ∧ SeqAt.shaped (.tuple (so.map refD)) = true := fun {tg so} h => ⟨shaped_of (tgD_lay fun r e => good_ascii (h r (by rw [e]; simp [allR]))), shapedT (refs_lay fun r hr => good_ascii (h r (List.mem_append_left _ hr)))⟩
      refine ⟨_, rfl, p, A.C_Statement, dx, _, _, rfl, hp, T.cl_Statement, T.n_Statement_kept_target, sf_target _ _ _, _, rfl, p', A.C_Statement, dx', _, _, rfl, hp', T.cl_Statement, T.n_Statement_kept_target, sf_target _ _ _, _, _, hg, hg', (lay ok).1, (lay ok').1, _, rfl, ?_⟩
      rw [tgD_eqv]
      by_cases c2 : tg = tg'
      · rw [decide_eq_true c2, Bool.true_and] at q
        refine ifT (decide_eq_true c2) ?_
        refine ⟨_, rfl, p, A.C_Statement, dx, _, _, rfl, hp, T.cl_Statement, T.n_Statement_kept_sources, sf_sources _ _ _, _, rfl, p', A.C_Statement, dx', _, _, rfl, hp', T.cl_Statement, T.n_Statement_kept_sources, sf_sources _ _ _, _, _, ht, ht', (lay ok).2, (lay ok').2, ?_⟩
        have e : PyData.eqv (.tuple (so.map refD)) (.tuple (so'.map refD)) = decide (so = so') := refs_eqv so so'
        rw [e]
        exact q
      · rw [decide_eq_false c2, Bool.false_and] at q
        rw [decide_eq_false c2]
        exact ifF rfl q
    · refine ifT (by rw [decide_eq_false (fun z => c1 (V.str.inj z))]; rfl) ?_
      rw [decide_eq_false c1, Bool.false_and] at q
      exact q

def sp_Statement_moved (A : Ad) (K : PySem.W.Frag) : Sp := fun vs H Q E => ∃ (p : Addr) (nm : Str) (tg : Option Rf) (so : List Rf) (v : V) (k : Kd), vs = [.ref p, v] ∧ StAt A K H p nm tg so ∧ isNm nm = true ∧ so.length ≤ 3 ∧ (∀ r ∈ allR tg so, goodRf r) ∧ Kn K H v k ∧
  (movOk v (allR tg so) = false → Rz E A.C_InvalidNumber H v) ∧
  ∀ b : Int, v = .int b → movOk v (allR tg so) = true → ∀ (r : Addr) H', H r = none → Same H H' → StAt A K H' r nm (tg.map (mvR b)) (so.map (mvR b)) → Q (.ref r) H'
theorem ok_Statement_moved (T : Tx P A K mg) : FnOk P w K mg base (L2.CX P w) 8 A.a_Statement_moved A.fd_Statement_moved ["self", "by"] (sp_Statement_moved A K) := by
  refine T.F_Statement_moved.okX sc_Statement_moved (fun vs H Q E h => ?_) (fun cdv A' outer s H vs Q E hr h => ?_)
  · obtain ⟨p, nm, tg, so, v, k, rfl, _⟩ := h
    rfl
  · obtain ⟨p, nm, tg, so, v, k, rfl, hS, hnm, hlen, hgood, hv, e, q⟩ := h
    refine ⟨_, (pss_cons (ps_if (PW.pt (pw_or (pt_not (pt_val (pe_call (ok_is_integer T) (hr.mono (by decide)) (by rfl) T.g_is_integer T.F_is_integer.kp T.b_is_integer .nil pass0 (pa_cons (pv 1) pa_nil)))) (pw_or1 (pt_not (pt_val (pe_callB (cr_all rfl) (by rfl) T.m_all bb_all (pa_cons (pe_lc (own := [("line", 2), ("offset", 3)]) (g := gTup K 2 (gCons (gName 2) (gCons (gName 3) gNil))) (tt := tYes) (by rfl) sc_Statement_moved.nd (pi_list (pe_meth0 (pv 0) T.cl_Statement T.me_Statement_refs (ok_Statement_refs T) (hr.mono (by decide)) T.b_Statement_refs .nil pass0 )) (blkOk_by (own := [("line", 2), ("offset", 3)]) (N := N_Statement_moved) (sc := defScope s_Statement_moved) (by decide +kernel)) (fun _ _ _ _ _ => (pg_tup (by rfl) (pgs_cons (pg_name (i := 2) sc_Statement_moved.nd rfl (.inl rfl)) (pgs_cons (pg_name (i := 3) sc_Statement_moved.nd rfl (.inl rfl)) pgs_nil)))) (fun _ _ _ _ _ => pts_nil) (fun _ _ _ _ _ => (pe_call (ok_is_offset T) (hr.mono (by decide)) (by rfl) T.g_is_offset T.F_is_offset.kp T.b_is_offset .nil pass0 (pa_cons (pe_op op_add (pv 3) (pv 1)) pa_nil)))) pa_nil))))))) (pss_one (ps_raiseEr (by rfl) T.er_InvalidNumber (hr.mono (Nat.zero_le _)) (takes_of rfl rfl rfl rfl) (pa_cons (pv 1) pa_nil) (by rfl))) pss_nil)
      (pss_cons (ps_set (i := 4) sc_Statement_moved.nd rfl (.inl rfl) pe_non)
      (C8.pss_cut (ps_if (pt_cmpR op_notN (pe_fld (pv 0) rfl) pe_non (nomark _)) (pss_one (ps_set (i := 4) sc_Statement_moved.nd rfl (.inl rfl) (pe_tup (pa_cons (pe_ix ix_tup (pe_fld (pv 0) rfl) pe_int (fun _ _ => rfl)) (pa_cons (pe_op op_add (pe_ix ix_tup (pe_fld (pv 0) rfl) pe_int (fun _ _ => rfl)) (pv 1)) pa_nil))))) pss_nil)
      (pss_cons (ps_setLc (i := 5) (own := [("line", 2), ("offset", 3)]) (g := gTup K 2 (gCons (gName 2) (gCons (gName 3) gNil))) (tt := tYes) (by rfl) sc_Statement_moved.nd rfl rfl (sw_true rfl rfl rfl (by decide +kernel)) (pi_tup (pe_fld (pv 0) rfl)) (blkOk_by (own := [("line", 2), ("offset", 3)]) (N := N_Statement_moved) (sc := defScope s_Statement_moved) (by decide +kernel)) (fun _ _ _ _ _ => (pg_tup (by rfl) (pgs_cons (pg_name (i := 2) sc_Statement_moved.nd rfl (.inl rfl)) (pgs_cons (pg_name (i := 3) sc_Statement_moved.nd rfl (.inl rfl)) pgs_nil)))) (fun _ _ _ _ _ => pts_nil) (fun _ _ _ _ _ => (pe_tup (pa_cons (pv 2) (pa_cons (pe_op op_add (pv 3) (pv 1)) pa_nil)))))
      (pss_one (ps_ret (pe_makeS T.M_Statement (ok_Statement___init__ T) (hr.mono (by decide)) (by rfl) T.g_Statement (passE (takes_of rfl rfl rfl rfl)) (pa_cons (pe_fld (pv 0) rfl) (pa_cons (pv 4) (StX.pa_star (pv 5) pa_nil)))))))))), ?_⟩
    refine ⟨_, rfl, v, k, rfl, hv, _, rfl, ?_⟩
    by_cases hk : k = .int
    · subst hk
      cases hv with
      | int b =>
        have rl : (allR tg so).length ≤ 4 := by
          unfold allR
          rw [List.length_append]
          cases tg <;> simp <;> omega
        obtain ⟨dx, g, t, hp, hg, ht⟩ := id hS
        refine ⟨_, rfl, p, dx, _, rfl, hp, by first | rfl | kernel_rfl, p, nm, tg, so, rfl, hS, by omega, fun r ws H1 hr1 s1 h1 hws => ⟨r, rfl, ⟨_, SqL.of h1⟩, fun D hD => ?_⟩⟩
        refine lc_list (K := K) (a := r) (xs := ws) (fun i H' => Same H1 H' ∧ H' D = some (.lst ((((allR tg so).take i).map (offOk b)).map V.bl))) ⟨Same.new hD, upd_same⟩ ?_ ?_ ?_
        · rintro i H' _ ⟨s2, _⟩
          exact SqL.of (s2 _ _ h1)
        · rintro i x H' hi ⟨s2, d2⟩
          obtain ⟨rf, hrf, hx⟩ := dpRefs_get hws hi
          obtain ⟨tx, rfl, htx⟩ := ref_val hx
          refine ⟨tx, _, rfl, same_t s2 htx, rfl, _, _, rfl, _, _, rfl, rfl, rfl, _, rfl, _, rfl, _, _, rfl, rfl, _, .int, rfl, .int _, _, d2, ?_, s2.mut hD, ?_⟩
          · rw [List.length_map, List.length_map, List.length_take]
            exact sz_lt (by omega)
          · rw [upd_same, take_succ_of hrf, List.map_append, List.map_append]
            rfl
        · rintro H2 ⟨s2, d2⟩
          have s12 := s1.trans s2
          have hle := dpAll_len hws
          rw [List.length_map] at hle
          rw [hle, List.take_length] at d2
          refine ⟨D, _, rfl, SqL.of d2, _, rfl, ?_⟩
          have eall : List.all ((allR tg so).map (offOk b)) id = movOk (.int b) (allR tg so) := by
            show _ = (allR tg so).all (offOk b)
            rw [List.all_map]
            rfl
          rw [eall]
          cases c : movOk (.int b) (allR tg so) with
          | false => exact ⟨_, rfl, _, rfl, fun d hd => (e c).go s12 hd⟩
          | true =>
            have hmv : ∀ r ∈ allR tg so, goodRf (mvR b r) := fun r hr => by
              have h1 := List.all_eq_true.mp c r hr
              obtain ⟨h2, h3⟩ := btw_iff.mp h1
              exact ⟨(hgood r hr).1, h2, h3⟩
            have hp2 := s12 _ _ hp
            refine ⟨fun σ H' => ∃ g2, σ = [some (.ref p), some (.int b), none, none, some g2, none] ∧ Same H H' ∧ Dp K H' g2 (tgD (tg.map (mvR b))), ?_, ?_⟩
            · refine ⟨_, rfl, p, A.C_Statement, dx, _, _, rfl, hp2, T.cl_Statement, T.n_Statement_kept_target, sf_target _ _ _, rfl, _, rfl, ?_⟩
              cases tg with
              | none =>
                cases hg
                exact ifF rfl ⟨_, rfl, s12, .non⟩
              | some rf =>
                obtain ⟨tr, rfl, hr'⟩ := ref_val hg
                have hr2 := same_t s12 hr'
                refine ifT rfl ?_
                refine ⟨_, rfl, p, A.C_Statement, dx, _, _, rfl, hp2, T.cl_Statement, T.n_Statement_kept_target, sf_target _ _ _, tr, _, 0, _, rfl, rfl, hr2, rfl, _, rfl, p, A.C_Statement, dx, _, _, rfl, hp2, T.cl_Statement, T.n_Statement_kept_target, sf_target _ _ _, tr, _, 1, _, rfl, rfl, hr2, rfl, _, rfl, _, _, rfl, rfl, by show 2 ≤ sizeLine; decide, fun tt htt => ?_⟩
                exact ⟨_, rfl, s12.trans (Same.new htt), .tup (SqT.of upd_same) (.cons (.str _) (.cons (.int _) .nil))⟩
            · rintro σ H3 ⟨g2, rfl, s3, hg2⟩
              have hp3 := s3 _ _ hp
              obtain ⟨ta, ws, rfl, hta, hws⟩ := tup_val ht
              have hlw : ws.length = so.length := by
                have := dpAll_len hws
                rw [List.length_map] at this
                exact this
              refine ⟨_, rfl, p, A.C_Statement, dx, _, _, rfl, hp3, T.cl_Statement, T.n_Statement_kept_sources, sf_sources _ _ _, ta, rfl, ⟨_, same_t s3 hta⟩, fun D hD => ?_⟩
              refine lc_tup (K := K) (a := ta) (xs := ws) (fun i H' => Same H3 H' ∧ ∃ us, H' D = some (.lst us) ∧ DpAll K H' us (((so.take i).map (mvR b)).map refD)) ⟨Same.new hD, _, upd_same, .nil⟩ ?_ ?_ ?_
              · rintro i H' _ ⟨s4, _⟩
                exact same_t (s3.trans s4) hta
              · rintro i x H' hi ⟨s4, us, d4, hus⟩
                obtain ⟨rf, hrf, hx⟩ := dpRefs_get hws hi
                obtain ⟨tx, rfl, htx⟩ := ref_val hx
                have hul : us.length ≤ 3 := by
                  have := dpAll_len hus
                  rw [List.length_map, List.length_map, List.length_take] at this
                  omega
                refine ⟨tx, _, rfl, same_t (s3.trans s4) htx, rfl, _, _, rfl, _, _, rfl, rfl, rfl, _, rfl, _, rfl, _, rfl, _, _, rfl, rfl, by show 2 ≤ sizeLine; decide, fun tt htt => ?_⟩
                have s5 := Same.new (o := .tup [V.str rf.1, .int (rf.2 + b)]) htt
                have d5 := s5 _ _ d4
                refine ⟨us, d5, sz_lt (by omega), (s4.trans s5).mut hD, _, upd_same, ?_⟩
                have e1 : ((so.take (i + 1)).map (mvR b)).map refD = ((so.take i).map (mvR b)).map refD ++ [refD (mvR b rf)] := by
                  rw [take_succ_of hrf, List.map_append, List.map_append]
                  rfl
                rw [e1]
                refine dpAll_kpl Kp.self d5 _ _ ?_ (dpAll_app (dpAll_same s5 _ _ hus) (.cons (.tup (SqT.of upd_same) (.cons (.str _) (.cons (.int _) .nil))) .nil))
                rw [← e1]
                exact refs_noL _
              · rintro H4 ⟨s4, us, d4, hus⟩
                rw [hlw, List.take_length] at hus
                have s34 := s3.trans s4
                refine ⟨_, rfl, p, A.C_Statement, dx, _, _, rfl, s34 _ _ hp, T.cl_Statement, T.n_Statement_kept_name, sf_name _ _ _, _, rfl, _, rfl, D, us, rfl, .inr (SqL.of d4), ?_⟩
                intro x dx' hx hdx ne
                rw [List.append_nil]
                refine mk_St3 hx hdx ne hnm (dp_same s4 _ _ hg2) hus (fun r hr => ?_) (by rw [List.length_map]; exact hlen) fun H' s' h' => ⟨rfl, q b rfl c x H' (s34.free hx) (s34.trans s') h'⟩
                have : r ∈ (allR tg so).map (mvR b) := by
                  unfold allR at hr ⊢
                  rw [List.map_append]
                  rcases List.mem_append.mp hr with h | h
                  · exact List.mem_append_left _ h
                  · refine List.mem_append_right _ ?_
                    cases tg with
                    | none => cases h
                    | some r0 => simpa using h
                obtain ⟨r0, h0, rfl⟩ := List.mem_map.mp this
                exact hmv r0 h0
    · rw [decide_eq_false hk]
      have ng : movOk v (allR tg so) = false := by cases hv <;> first | rfl | exact absurd rfl hk
      exact ⟨_, rfl, _, rfl, fun d hd => (e ng).go (Same.refl H) hd⟩

def sp__law_begin (K : PySem.W.Frag) : Sp := fun vs H Q _ => ∃ (a : Addr) (ns : List Int), vs = [.ref a] ∧ SqL K H a (ns.map V.int) ∧ ns.length ≤ 63 ∧ ∀ s L H', H s = none → Same H H' → Src H' s L → Q (.ref s) H'
theorem ok__law_begin (T : Tx P A K mg) : FnOk P w K mg base CX0 1 A.a__law_begin A.fd__law_begin ["script"] (sp__law_begin K) := by
  refine T.F__law_begin.ok sc__law_begin (fun vs H Q E h => ?_) (fun cdv A' outer s H vs Q E hr h => ?_)
  · obtain ⟨a, ns, rfl, _⟩ := h
    rfl
  · obtain ⟨a, ns, rfl, hS, hl, q⟩ := h
    refine ⟨_, (pss_one (ps_ret (pe_lst (pa_cons (pe_callTy call_list_of (by rfl) T.m_list bb_list (pa_cons (pe_slice sl_list (pv 0) po_none (po_some pe_int)) pa_nil)) (pa_cons pe_int (pa_cons pe_int (pa_cons pe_int pa_nil))))))), ?_⟩
    refine ⟨_, rfl, _, rfl, a, _, rfl, hS, fun p hp => ⟨p, _, rfl, .inl (SqL.of upd_same), fun l hl' => ⟨by show 4 ≤ sizeLine; decide, fun s' hs' => ?_⟩⟩⟩
    have nlp : l ≠ p := fun z => by rw [z, upd_same] at hl'; cases hl'
    have nsl : s' ≠ l := fun z => by rw [z, upd_same] at hs'; cases hs'
    have nsp : s' ≠ p := fun z => by rw [z, upd_ne nlp.symm, upd_same] at hs'; cases hs'
    have h1 : H s' = none := by rw [upd_ne nsl, upd_ne nsp] at hs'; exact hs'
    have hl0 : H l = none := by rw [upd_ne nlp] at hl'; exact hl'
    refine q s' l _ h1 (((Same.new hp).trans (Same.new hl')).trans (Same.new hs')) ⟨0, 0, 7, ns, upd_same, ?_, by omega, by omega, hl, by omega, by omega, by omega⟩
    rw [upd_ne nsl.symm, upd_same]
    congr 2
    have e : cutV (ns.map V.int) none (some 63) = (ns.map V.int).take 63 := by
      unfold cutV
      have e1 : HT.sIx (ns.map V.int).length (ns.map V.int).length (some 63) = min 63 (ns.map V.int).length := HT.sIx_nat _ _ 63
      rw [HT.sIx_none, e1, List.drop_zero, Nat.sub_zero]
      rw [List.take_eq_take_iff]
      simp
    rw [e]
    exact List.take_of_length_le (by rw [List.length_map]; exact hl)

def sp__law_draw : Sp := fun vs H Q _ => ∃ (s L : Addr) (n : Int), vs = [.ref s, .int n] ∧ Src H s L ∧ 0 < n ∧ n < 2 ^ 200 ∧ ∀ (d : Int) H', 0 ≤ d → d < n → Kp s H H' → Src H' s L → Q (.int d) H'
theorem ok__law_draw (T : Tx P A K mg) : FnOk P w K mg base CX0 1 A.a__law_draw A.fd__law_draw ["source", "limit"] sp__law_draw := by
  refine T.F__law_draw.ok sc__law_draw (fun vs H Q E h => ?_) (fun cdv A' outer s H vs Q E hr h => ?_)
  · obtain ⟨s, L, n, rfl, _⟩ := h
    rfl
  · obtain ⟨s, L, n, rfl, S, n0, n1, q⟩ := h
    refine ⟨_, (C8.pss_cut (ps_if (PW.pt (pw_and (pt_cmpR op_lt (pe_ix ix_list (pv 0) pe_int (fun _ _ => rfl)) (pe_op op_pow pe_int pe_int) (nomark _)) (pw_and1 (pt_cmpR op_lt (pe_ix ix_list (pv 0) pe_int (fun _ _ => rfl)) (pe_callB call_len_seq (by rfl) T.m_len bb_len (pa_cons (pe_ix ix_list (pv 0) pe_int (fun _ _ => rfl)) pa_nil)) (nomark _))))) (pss_cons (ps_set (i := 2) sc__law_draw.nd rfl (.inl rfl) (pe_callTy call_int1 (by rfl) T.m_int bb_int (pa_cons (pe_ix ix_list (pe_ix ix_list (pv 0) pe_int (fun _ _ => rfl)) (pe_ix ix_list (pv 0) pe_int (fun _ _ => rfl)) (fun _ _ => rfl)) pa_nil)))
      (pss_cons (ps_asg (pe_op op_add (pe_ix ix_list (pv 0) pe_int (fun _ _ => rfl)) pe_int) (pg_sub (pv 0) pe_int set_list))
      (pss_cons (ps_asg pe_int (pg_sub (pv 0) pe_int set_list))
      (C8.pss_cut (ps_if (pt_cmpR op_ge (pv 2) (pe_op op_pow pe_int pe_int) (nomark _)) (pss_one (ps_asg (pv 2) (pg_sub (pv 0) pe_int set_list))) pss_nil)
      (pss_one (ps_asg (pe_op op_mod (pe_callTy call_int1 (by rfl) T.m_int bb_int (pa_cons (pe_op op_add (pe_op op_add (pe_op op_mul (pe_ix ix_list (pv 0) pe_int (fun _ _ => rfl)) pe_int) (pe_op op_mod (pv 2) pe_int)) pe_int) pa_nil)) pe_int) (pg_sub (pv 0) pe_int set_list))))))) pss_nil)
      (pss_cons (ps_if (pt_cmpR op_ge (pe_ix ix_list (pv 0) pe_int (fun _ _ => rfl)) (pe_op op_pow pe_int pe_int) (nomark _)) (pss_cons (ps_set (i := 3) sc__law_draw.nd rfl (.inl rfl) (pe_op op_mod (pe_callTy call_int1 (by rfl) T.m_int bb_int (pa_cons (pe_ix ix_list (pv 0) pe_int (fun _ _ => rfl)) pa_nil)) (pv 1)))
      (pss_cons (ps_asg (pe_op op_fdivW (pe_ix ix_list (pv 0) pe_int (fun _ _ => rfl)) (pv 1)) (pg_sub (pv 0) pe_int set_list))
      (pss_one (ps_ret (pv 3))))) pss_nil)
      (pss_cons (ps_asg (pe_op op_mod (pe_callTy call_int1 (by rfl) T.m_int bb_int (pa_cons (pe_op op_add (pe_op op_mul (pe_ix ix_list (pv 0) pe_int (fun _ _ => rfl)) pe_int) pe_int) pa_nil)) pe_int) (pg_sub (pv 0) pe_int set_list))
      (pss_one (ps_ret (pe_op op_mod (pe_callTy call_int1 (by rfl) T.m_int bb_int (pa_cons (pe_op op_fdiv (pe_ix ix_list (pv 0) pe_int (fun _ _ => rfl)) pe_int) pa_nil)) (pv 1))))))), ?_⟩
    obtain ⟨i, qq, z, ns, hs, hL, i0, i1, hn, q0, z0, z1⟩ := id S
    have nLs : L ≠ s := ne_of hL hs (src_ne _ _ _ _ _)
    refine ⟨fun σ' H1 => ∃ v, σ' = [some (.ref s), some (.int n), v, none] ∧ Kp s H H1 ∧ Src H1 s L, ?_, ?_⟩
    · refine ⟨_, rfl, s, _, 2, _, rfl, rfl, SqL.of hs, rfl, _, _, rfl, rfl, ⟨by decide, by decide, by decide⟩, _, _, rfl, rfl, _, rfl, ?_⟩
      refine ite2 (fun c => ?_) (fun c => iteF ⟨_, rfl, Kp.refl s H, S⟩)
      refine ⟨_, rfl, s, _, 1, _, rfl, rfl, SqL.of hs, rfl, _, rfl, s, _, 0, _, rfl, rfl, SqL.of hs, rfl, L, _, rfl, .inl (SqL.of hL), _, _, rfl, rfl, _, rfl, ?_⟩
      refine ite2 (fun c2 => ?_) (fun c2 => ⟨_, rfl, Kp.refl s H, S⟩)
      have c3 : i < (ns.length : Int) := by
        have := of_decide_eq_true c2
        rw [List.length_map] at this
        exact this
      obtain ⟨j, rfl⟩ := Int.eq_ofNat_of_zero_le i0
      have hj : j < ns.length := by omega
      have ej : (ns.map V.int)[j]? = some (.int ns[j]) := by simp [hj]
      -- cell = int(source[0][source[1]])
      refine ⟨_, rfl, s, _, 0, _, rfl, rfl, SqL.of hs, rfl, _, rfl, s, _, 1, _, rfl, rfl, SqL.of hs, rfl, L, _, _, _, rfl, rfl, SqL.of hL, atI_nat ej, .inl ⟨_, rfl, ?_⟩⟩
      -- source[1] = source[1] + 1; source[2] = 0
      refine ⟨_, rfl, s, _, 1, _, rfl, rfl, SqL.of hs, rfl, _, _, rfl, rfl, _, rfl, s, _, 1, 1, rfl, rfl, hs, rfl, ?_⟩
      refine ⟨_, rfl, s, _, 2, 2, rfl, rfl, upd_same, rfl, ?_⟩
      refine ⟨fun σ' H1 => ∃ q', σ' = [some (.ref s), some (.int n), some (.int ns[j]), none] ∧ 0 ≤ q' ∧ Kp s H H1 ∧ H1 s = some (.lst [.ref L, .int ((j : Int) + 1), .int q', .int z]), ?_, ?_⟩
      · refine ⟨_, rfl, _, _, rfl, rfl, ⟨by decide, by decide, by decide⟩, _, _, rfl, rfl, _, rfl, ?_⟩
        refine ite2 (fun c4 => ?_) (fun c4 => ?_)
        · refine ⟨_, rfl, _, rfl, s, _, 2, 2, rfl, rfl, upd_same, rfl, ?_⟩
          have c5 := of_decide_eq_true c4
          rw [e18] at c5
          exact ⟨ns[j], rfl, by omega, (Kp.self.trans Kp.self).trans Kp.self, upd_same⟩
        · exact ⟨0, rfl, by omega, Kp.self.trans Kp.self, upd_same⟩
      · rintro σ' H1 ⟨q', rfl, hq', k1, h1⟩
        refine ⟨_, rfl, s, _, 3, _, rfl, rfl, SqL.of h1, rfl, _, _, rfl, rfl, .inr ⟨by decide, by decide⟩, _, rfl, _, _, rfl, rfl, by show (0 : Int) < 2147483629; decide, _, _, rfl, rfl, _, _, rfl, rfl, .inl ⟨_, rfl, _, _, rfl, rfl, by show (0 : Int) < 2147483647; decide, _, rfl, s, _, 3, 3, rfl, rfl, h1, rfl, ?_⟩⟩
        refine ⟨_, rfl, k1.trans Kp.self, (j : Int) + 1, q', _, ns, upd_same, ?_, by omega, by omega, hn, hq', Int.emod_nonneg _ (by decide), Int.emod_lt_of_pos _ (by decide)⟩
        rw [upd_ne nLs]
        exact k1 L _ hL nLs
    · rintro σ' H1 ⟨v, rfl, k1, S1⟩
      obtain ⟨i, qq, z, ns, hs, hL, i0, i1, hn, q0, z0, z1⟩ := S1
      refine ⟨_, rfl, s, _, 2, _, rfl, rfl, SqL.of hs, rfl, _, _, rfl, rfl, ⟨by decide, by decide, by decide⟩, _, _, rfl, rfl, _, rfl, ?_⟩
      refine ite2 (fun c => ?_) (fun c => ?_)
      · refine ⟨_, rfl, s, _, 2, _, rfl, rfl, SqL.of hs, rfl, .inl ⟨_, rfl, _, rfl, _, _, rfl, rfl, n0, ?_⟩⟩
        refine ⟨_, rfl, s, _, 2, _, rfl, rfl, SqL.of hs, rfl, _, rfl, _, _, rfl, rfl, wide_div n0 (b := 200) (by omega) (by decide) (by decide), _, rfl, s, _, 2, 2, rfl, rfl, hs, rfl, ?_⟩
        refine ⟨_, rfl, q _ _ (Int.emod_nonneg _ (by omega)) (Int.emod_lt_of_pos _ n0) (k1.trans Kp.self) ?_⟩
        refine ⟨i, qq / n, z, ns, upd_same, ?_, i0, i1, hn, Int.ediv_nonneg q0 (by omega), z0, z1⟩
        rw [upd_ne (ne_of hL hs (src_ne _ _ _ _ _))]
        exact hL
      · refine ⟨_, rfl, s, _, 3, _, rfl, rfl, SqL.of hs, rfl, _, _, rfl, rfl, .inr ⟨by decide, by decide⟩, _, _, rfl, rfl, .inl ⟨_, rfl, _, _, rfl, rfl, by show (0 : Int) < 2147483647; decide, _, rfl, s, _, 3, 3, rfl, rfl, hs, rfl, ?_⟩⟩
        refine ⟨_, rfl, s, _, 3, _, rfl, rfl, SqL.of upd_same, rfl, _, _, rfl, rfl, ⟨by decide, by decide⟩, .inl ⟨_, rfl, _, rfl, _, _, rfl, rfl, n0, ?_⟩⟩
        refine q _ _ (Int.emod_nonneg _ (by omega)) (Int.emod_lt_of_pos _ n0) (k1.trans Kp.self) ?_
        refine ⟨i, qq, _, ns, upd_same, ?_, i0, i1, hn, q0, Int.emod_nonneg _ (by decide), Int.emod_lt_of_pos _ (by decide)⟩
        rw [upd_ne (ne_of hL hs (src_ne _ _ _ _ _))]
        exact hL

def sp__law_pick (K : PySem.W.Frag) : Sp := fun vs H Q _ => ∃ (s L : Addr) (v : V), vs = [.ref s, v] ∧ Src H s L ∧
  ((∃ (p : Addr) (xs : List V), v = .ref p ∧ p ≠ s ∧ SqL K H p xs ∧ 0 < xs.length ∧ xs.length ≤ 100000 ∧ ∀ x ∈ xs, ∀ H', Kp s H H' → Src H' s L → Q x H') ∨
   (∃ z : Str, v = .str z ∧ 0 < z.length ∧ z.length ≤ 100000 ∧ ∀ c ∈ z.cps.toList, ∀ H', Kp s H H' → Src H' s L → Q (.str ⟨#[c]⟩) H'))
theorem ok__law_pick (T : Tx P A K mg) : FnOk P w K mg base CX0 2 A.a__law_pick A.fd__law_pick ["source", "items"] (sp__law_pick K) := by
  refine T.F__law_pick.ok sc__law_pick (fun vs H Q E h => ?_) (fun cdv A' outer s H vs Q E hr h => ?_)
  · obtain ⟨s, L, v, rfl, _⟩ := h
    rfl
  · obtain ⟨s, L, v, rfl, S, h⟩ := h
    refine ⟨_, (pss_one (ps_ret (pe_ix ix_seq (pv 1) (pe_call (ok__law_draw T) (hr.mono (by decide)) (by rfl) T.g__law_draw T.F__law_draw.kp T.b__law_draw .nil pass0 (pa_cons (pv 0) (pa_cons (pe_callB call_len (by rfl) T.m_len bb_len (pa_cons (pv 1) pa_nil)) pa_nil))) (fun _ _ => rfl)))), ?_⟩
    rcases h with ⟨p, xs, rfl, nps, hp, l0, l1, q⟩ | ⟨z, rfl, l0, l1, q⟩
    · refine ⟨_, rfl, _, rfl, _, rfl, _, _, rfl, .inl ⟨xs, hp, rfl⟩, s, L, _, rfl, S, by omega, big_of l1, fun d H' d0 d1 k1 S1 => .inl ?_⟩
      obtain ⟨j, rfl⟩ := Int.eq_ofNat_of_zero_le d0
      have hj : j < xs.length := by omega
      exact ⟨p, xs, _, xs[j], rfl, rfl, k1.l nps hp, atI_nat (by simp [hj]), q _ (List.getElem_mem hj) _ k1 S1⟩
    · refine ⟨_, rfl, _, rfl, _, rfl, _, _, rfl, ⟨sz_of l1, rfl⟩, s, L, _, rfl, S, by omega, big_of l1, fun d H' d0 d1 k1 S1 => .inr (.inr ?_)⟩
      obtain ⟨j, rfl⟩ := Int.eq_ofNat_of_zero_le d0
      have hj : j < z.cps.toList.length := by
        have e : z.length = z.cps.toList.length := by simp [PySem.Str.length]
        omega
      exact ⟨z, _, z.cps.toList[j], rfl, rfl, sz_of l1, atI_nat (by simp only [List.getElem?_eq_getElem hj]), q _ (List.getElem_mem hj) _ k1 S1⟩

def sp__law_mixed (K : PySem.W.Frag) : Sp := fun vs H Q _ => ∃ (s L p : Addr) (zs : List Str), vs = [.ref s, .ref p] ∧ Src H s L ∧ SqL K H p (zs.map V.str) ∧ zs.length ≤ 100 ∧ (∀ z ∈ zs, ascii z) ∧
  ∀ (r : Addr) (ys : List Str) H', H r = none → ys.Perm zs → Kp s H H' → Src H' s L → H' r = some (.lst (ys.map V.str)) → Q (.ref r) H'
theorem ok__law_mixed (T : Tx P A K mg) : FnOk P w K mg base CX0 2 A.a__law_mixed A.fd__law_mixed ["source", "items"] (sp__law_mixed K) := by
  refine T.F__law_mixed.ok sc__law_mixed (fun vs H Q E h => ?_) (fun cdv A' outer s H vs Q E hr h => ?_)
  · obtain ⟨s, L, p, zs, rfl, _⟩ := h
    rfl
  · obtain ⟨s, L, p, zs, rfl, S, hp, hn, ha, q⟩ := h
    refine ⟨_, (pss_cons (ps_par (i := 2) (j := 3) (by rfl) sc__law_mixed.nd rfl rfl (by decide) rfl rfl (pa_cons (pe_callTy call_list_of (by rfl) T.m_list bb_list (pa_cons (pv 1) pa_nil)) (pa_cons (pe_lst pa_nil) pa_nil)) (by rfl))
      (pss_cons (ps_while PassesOwn.never (pt_cmpR (op_neD hr.units) (pv 2) (pe_lst pa_nil) (nomark _))
      (pss_one (ps_expr (pe_bm PySem.F.plainAttrs_list PySem.F.slot_list_append PySem.F.type_list_append mt_append (pv 3) (pa_cons (pe_bm PySem.F.plainAttrs_list PySem.F.slot_list_pop PySem.F.type_list_pop mt_popAt (pv 2) (pa_cons (pe_call (ok__law_draw T) (hr.mono (by decide)) (by rfl) T.g__law_draw T.F__law_draw.kp T.b__law_draw .nil pass0 (pa_cons (pv 0) (pa_cons (pe_callB call_len_seq (by rfl) T.m_len bb_len (pa_cons (pv 2) pa_nil)) pa_nil))) pa_nil)) pa_nil)))))
      (pss_one (ps_ret (pv 3))))), ?_⟩
    refine ⟨_, rfl, p, _, rfl, .inl hp, fun l hl => ⟨Nat.zero_le _, fun r hr' => ⟨_, _, rfl, ?_⟩⟩⟩
    have nl := S.fresh hl
    have S1 := S.new (o := .lst (zs.map V.str)) hl
    have nr := S1.fresh hr'
    have nrl : r ≠ l := fun z => by rw [z, upd_same] at hr'; cases hr'
    have hr0 : H r = none := by rw [upd_ne nrl] at hr'; exact hr'
    refine ⟨fun m σ H' => ∃ left found : List Str, σ = [some (.ref s), some (.ref p), some (.ref l), some (.ref r)] ∧ m = left.length ∧ (left ++ found).Perm zs ∧ H' l = some (.lst (left.map V.str)) ∧ H' r = some (.lst (found.map V.str)) ∧ Kp s H H' ∧ Src H' s L, ⟨_, zs, [], rfl, rfl, by rw [List.append_nil], by rw [upd_ne nrl.symm, upd_same], upd_same, (Kp.new hl).trans (Kp.new hr'), S1.new hr'⟩, ?_⟩
    rintro m σ H1 ⟨left, found, rfl, rfl, pm, h1, h2, k1, S2⟩
    have hle : left.length + found.length = zs.length := by
      rw [← pm.length_eq, List.length_append]
    have hal : ∀ z ∈ left, ascii z := fun z hz => ha z (pm.mem_iff.mp (List.mem_append_left _ hz))
    refine ⟨_, rfl, Nat.zero_le _, fun e he => ⟨.list (left.map PyData.str), .list [], .lst (SqL.of ((Same.new he) _ _ h1)) (dp_strs _), .lst (SqL.of upd_same) .nil, shaped_strs _ hal, rfl, _, rfl, ?_⟩⟩
    cases left with
    | nil =>
      refine ifF rfl ?_
      refine ⟨_, rfl, q r found _ hr0 pm (k1.trans (Kp.new he)) (S2.new he) ?_⟩
      rw [upd_ne (ne_of_none h2 he)]
      exact h2
    | cons a left =>
      refine ifT rfl ?_
      have S3 := S2.new (o := .lst []) he
      have h1' := (Same.new (o := .lst []) he) _ _ h1
      have h2' := (Same.new (o := .lst []) he) _ _ h2
      have k1' := k1.trans (Kp.new (o := .lst []) he)
      refine ⟨_, fun _ _ h => h, ?_⟩
      refine ⟨_, rfl, .inl ⟨rfl, _, SqL.of h2'⟩, _, rfl, .inl ⟨rfl, _, SqL.of h1'⟩, _, rfl, _, rfl, l, _, rfl, .inl (SqL.of h1'), s, L, _, rfl, S3, ?_, ?_, fun d H3 d0 d1 k3 S4 => ?_⟩
      · rw [List.length_map, List.length_cons]
        omega
      · rw [List.length_map]
        refine big_of ?_
        rw [List.length_cons] at hle ⊢
        omega
      obtain ⟨j, rfl⟩ := Int.eq_ofNat_of_zero_le d0
      have hj : j < (a :: left).length := by rw [List.length_map] at d1; omega
      have h3 := k3 _ _ h1' nl.1
      have h4 := k3 _ _ h2' nr.1
      have hlen : (a :: left).length ≤ 100 := by rw [List.length_cons] at hle ⊢; omega
      refine ⟨l, _, _, j, .str (a :: left)[j], rfl, rfl, h3, by omega, by omega, ?_, ?_, ?_⟩
      · rw [List.length_map]
        exact seqIndex_nat hj
      · rw [List.getElem?_map, List.getElem?_eq_getElem hj]
        rfl
      · refine ⟨r, _, _, rfl, rfl, by rw [upd_ne nrl]; exact h4, ?_, ?_⟩
        · rw [List.length_map]
          refine sz_lt ?_
          rw [List.length_cons] at hle
          omega
        · refine ⟨((a :: left).eraseIdx j).length, ?_, (a :: left).eraseIdx j, found ++ [(a :: left)[j]], rfl, rfl, ?_, ?_, ?_, ?_, ?_⟩
          · rw [List.length_eraseIdx_of_lt hj]
            omega
          · refine List.Perm.trans ?_ pm
            refine List.Perm.trans ?_ ((erase_perm _ j hj).append_right found)
            rw [← List.append_assoc]
            exact List.perm_append_comm
          · rw [upd_ne nrl.symm, upd_same, map_erase]
          · rw [upd_same, List.map_append]
            rfl
          · exact ((k1'.trans k3).mut hl).mut hr0
          · exact (S4.mut nl).mut nr

def sp__law_stem (K : PySem.W.Frag) : Sp := fun vs H Q _ => ∃ (s L : Addr), vs = [.ref s] ∧ Src H s L ∧ ∀ (z : Str) H', z.length ≤ 5 → lets z → Kp s H H' → Src H' s L → Q (.str z) H'
theorem ok__law_stem (T : Tx P A K mg) : FnOk P w K mg base CX0 3 A.a__law_stem A.fd__law_stem ["source"] (sp__law_stem K) := by
  refine T.F__law_stem.ok sc__law_stem (fun vs H Q E h => ?_) (fun cdv A' outer s H vs Q E hr h => ?_)
  · obtain ⟨s, L, rfl, _⟩ := h
    rfl
  · obtain ⟨s, L, rfl, S, q⟩ := h
    refine ⟨_, (pss_cons (ps_set (i := 1) sc__law_stem.nd rfl (.inl rfl) pe_str)
      (pss_one (ps_ret (pe_op op_add_str (pe_op op_mulS (pe_call (ok__law_pick T) (hr.mono (by decide)) (by rfl) T.g__law_pick T.F__law_pick.kp T.b__law_pick .nil pass0 (pa_cons (pv 0) (pa_cons (pv 1) pa_nil))) (pe_call (ok__law_draw T) (hr.mono (by decide)) (by rfl) T.g__law_draw T.F__law_draw.kp T.b__law_draw .nil pass0 (pa_cons (pv 0) (pa_cons pe_int pa_nil)))) (pe_call (ok__law_pick T) (hr.mono (by decide)) (by rfl) T.g__law_pick T.F__law_pick.kp T.b__law_pick .nil pass0 (pa_cons (pv 0) (pa_cons (pe_lst (pa_cons pe_str (pa_cons pe_str (pa_cons pe_str pa_nil)))) pa_nil))))))), ?_⟩
    refine ⟨_, rfl, _, rfl, s, L, _, rfl, S, .inr ⟨LET, rfl, by decide, by decide, fun c hc H1 k1 S1 => ?_⟩⟩
    refine ⟨_, rfl, s, L, 4, rfl, S1, by decide, by decide, fun n H2 n0 n1 k2 S2 => ⟨_, _, rfl, rfl, mulOk_small n0 (by omega) (by show 1 ≤ 100; decide), ?_⟩⟩
    refine ⟨_, rfl, by show 3 ≤ sizeLine; decide, fun p hp => ?_⟩
    refine ⟨s, L, _, rfl, S2.new hp, .inl ⟨p, _, rfl, (S2.fresh hp).1, SqL.of upd_same, by decide, by decide, fun x hx H3 k3 S3 => ?_⟩⟩
    obtain ⟨x, rfl, hx1, hx2⟩ : ∃ y : Str, x = .str y ∧ y.length ≤ 2 ∧ lets y := by
      simp only [List.mem_cons, List.not_mem_nil, or_false] at hx
      rcases hx with rfl | rfl | rfl
      · exact ⟨_, rfl, by decide, fun c hc => by cases hc⟩
      · exact ⟨_, rfl, by decide, by unfold lets; decide +kernel⟩
      · exact ⟨_, rfl, by decide, by unfold lets; decide +kernel⟩
    obtain ⟨m1, m2⟩ := mul_cps ⟨#[c]⟩ n
    have m3 : (PySem.Txt.mul ⟨#[c]⟩ n).length ≤ 3 := by
      have e : (⟨#[c]⟩ : Str).length = 1 := rfl
      rw [e] at m2
      omega
    refine ⟨_, _, rfl, rfl, sz_of (by omega), ?_⟩
    refine q _ _ ?_ ?_ (((k1.trans k2).trans (Kp.new hp)).trans k3) S3
    · rw [PySem.Str.length_append]
      omega
    · intro c' hc'
      rcases app_mem hc' with h | h
      · have := m1 c' h
        have e : c' = c := by simpa using this
        rw [e]
        exact decide_eq_true hc
      · exact hx2 c' h

def sp__law_names (K : PySem.W.Frag) : Sp := fun vs H Q _ => ∃ (s L : Addr) (n : Nat), vs = [.ref s, .int n] ∧ Src H s L ∧ n ≤ 26 ∧
  ∀ (r : Addr) (ws : List Str) H', H r = none → ws.length = n → (∀ w ∈ ws, lets w ∧ 1 ≤ w.length ∧ w.length ≤ 6) → ws.Nodup → Kp s H H' → Src H' s L → H' r = some (.lst (ws.map V.str)) → Q (.ref r) H'
theorem ok__law_names (T : Tx P A K mg) : FnOk P w K mg base CX0 4 A.a__law_names A.fd__law_names ["source", "many"] (sp__law_names K) := by
  refine T.F__law_names.ok sc__law_names (fun vs H Q E h => ?_) (fun cdv A' outer s H vs Q E hr h => ?_)
  · obtain ⟨s, L, n, rfl, _⟩ := h
    rfl
  · obtain ⟨s, L, n, rfl, S, hn, q⟩ := h
    refine ⟨_, (pss_cons (ps_set (i := 2) sc__law_names.nd rfl (.inr rfl) (pe_call (ok__law_stem T) (hr.mono (by decide)) (by rfl) T.g__law_stem T.F__law_stem.kp T.b__law_stem .nil pass0 (pa_cons (pv 0) pa_nil)))
      (pss_cons (ps_set (i := 3) sc__law_names.nd rfl (.inl rfl) (pe_call (ok__law_mixed T) (hr.mono (by decide)) (by rfl) T.g__law_mixed T.F__law_mixed.kp T.b__law_mixed .nil pass0 (pa_cons (pv 0) (pa_cons (pe_callTy (call_listS (by rfl)) (by rfl) T.m_list bb_list (pa_cons pe_str pa_nil)) pa_nil))))
      (pss_one (ps_ret (pe_lc (own := [("letter", 4)]) (g := gName 4) (tt := tYes) (by rfl) sc__law_names.nd (pi_list (pe_slice sl_list (pv 3) po_none (po_some (pv 1)))) (blkOk_by (own := [("letter", 4)]) (N := N__law_names) (sc := defScope s__law_names) (by decide +kernel)) (fun _ _ _ _ _ => (pg_name (i := 4) sc__law_names.nd rfl (.inl rfl))) (fun _ _ _ _ _ => pts_nil) (fun _ _ _ _ _ => (pe_op op_add_str (pv 2) (pv 4)))))))), ?_⟩
    refine ⟨_, rfl, s, L, rfl, S, fun st H1 st5 stl k1 S1 => ?_⟩
    refine ⟨_, rfl, LET, rfl, by decide, fun l0 hl0 => ?_⟩
    have el : (LET.cps.toList.map fun c => V.str ⟨#[c]⟩) = (LET.cps.toList.map fun c => (⟨#[c]⟩ : Str)).map V.str := by rw [List.map_map]; rfl
    refine ⟨s, L, l0, _, rfl, S1.new hl0, SqL.of (by rw [upd_same, el]), by decide, ?_, fun r0 ys H2 hr0 pm k2 S2 h2 => ?_⟩
    · intro z hz
      obtain ⟨c, hc, rfl⟩ := List.mem_map.mp hz
      intro c' hc'
      have e : c' = c := by simpa using hc'
      rw [e]
      exact (by decide : ∀ c ∈ LET.cps.toList, c < 128) c hc
    have ylen : ys.length = 26 := by rw [pm.length_eq]; decide
    have yone : ∀ y ∈ ys, lets y ∧ y.length = 1 := by
      intro y hy
      obtain ⟨c, hc, rfl⟩ := List.mem_map.mp (pm.mem_iff.mp hy)
      refine ⟨fun c' hc' => ?_, rfl⟩
      have e : c' = c := by simpa using hc'
      rw [e]
      exact decide_eq_true hc
    have ynd : ys.Nodup := pm.nodup_iff.mpr (by decide +kernel)
    refine ⟨_, rfl, _, rfl, _, rfl, r0, _, rfl, SqL.of h2, fun c hc => ⟨c, rfl, ⟨_, SqL.of upd_same⟩, fun D hD => ?_⟩⟩
    have ecut : cutV (ys.map V.str) none (some (n : Int)) = (ys.take n).map V.str := by
      unfold cutV
      have e1 : HT.sIx (ys.map V.str).length (ys.map V.str).length (some (n : Int)) = min n (ys.map V.str).length := HT.sIx_nat _ _ n
      rw [HT.sIx_none, e1, List.drop_zero, Nat.sub_zero, List.length_map, ylen, Nat.min_eq_left hn, List.map_take]
    rw [ecut] at hD ⊢
    have hDc : D ≠ c := fun z => by rw [z, upd_same] at hD; cases hD
    have S3 := S2.new (o := .lst ((ys.take n).map V.str)) hc
    have nD := S3.fresh hD
    have hD0 : H2 D = none := by rw [upd_ne hDc] at hD; exact hD
    have kH2 : Kp s H H2 := (k1.trans (Kp.new hl0)).trans k2
    have tl : (ys.take n).length = n := by rw [List.length_take, ylen]; omega
    refine lc_list (K := K) (a := c) (xs := (ys.take n).map V.str) (fun i H' => H' c = some (.lst ((ys.take n).map V.str)) ∧ Kp s H H' ∧ Src H' s L ∧ H' D = some (.lst ((((ys.take n).take i).map fun y => st ++ y).map V.str))) ?_ ?_ ?_ ?_
    · exact ⟨by rw [upd_ne hDc.symm, upd_same], (kH2.trans (Kp.new hc)).trans (Kp.new hD), S3.new hD, upd_same⟩
    · rintro i H' _ ⟨h, _⟩
      exact SqL.of h
    · rintro i x H' hi ⟨hc', k', S', hd'⟩
      obtain ⟨y, hy, rfl⟩ : ∃ y, (ys.take n)[i]? = some y ∧ x = .str y := by
        rw [List.getElem?_map] at hi
        cases e : (ys.take n)[i]? with
        | none => rw [e] at hi; cases hi
        | some y => rw [e] at hi; exact ⟨y, rfl, (Option.some.inj hi).symm⟩
      have hmem : y ∈ ys := List.mem_of_mem_take (List.mem_of_getElem? hy)
      have y1 := (yone y hmem).2
      refine ⟨rfl, _, rfl, _, rfl, st, y, rfl, rfl, sz_of (by omega), _, hd', ?_, ?_, ?_, S'.mut nD, ?_⟩
      · rw [List.length_map, List.length_map, List.length_take]
        refine sz_lt (Nat.lt_of_le_of_lt (Nat.min_le_right _ _) (by omega))
      · rw [upd_ne hDc.symm]
        exact hc'
      · exact k'.mut (by
          cases e : H D with
          | none => rfl
          | some o =>
            have := kH2 D o e nD.1
            rw [hD0] at this
            cases this)
      · rw [upd_same, take_succ_of hy, List.map_append, List.map_append]
        rfl
    · rintro H' ⟨hc', k', S', hd'⟩
      rw [List.length_map, List.take_length] at hd'
      refine q D ((ys.take n).map fun y => st ++ y) H' ?_ (by rw [List.length_map, tl]) ?_ ?_ k' S' hd'
      · cases e : H D with
        | none => rfl
        | some o =>
          have := kH2 D o e nD.1
          rw [hD0] at this
          cases this
      · intro w hw
        obtain ⟨y, hy, rfl⟩ := List.mem_map.mp hw
        have hy' := yone y (List.mem_of_mem_take hy)
        refine ⟨fun c hc => ?_, ?_, ?_⟩
        · rcases app_mem hc with h | h
          · exact stl c h
          · exact hy'.1 c h
        · rw [PySem.Str.length_append, hy'.2]
          omega
        · rw [PySem.Str.length_append, hy'.2]
          omega
      · exact nodup_map (fun a b e => app_inj e) (List.Nodup.sublist (List.take_sublist _ _) ynd)

def sp__law_ref : Sp := fun vs H Q _ => ∃ (s L ro : Addr) (n : Int), vs = [.ref s, .ref ro, .int n] ∧ Src H s L ∧ RowsAt H s ro ∧ 0 ≤ n ∧ n ≤ 100 ∧
  ∀ (t : Addr) (nm : Str) (o : Int) H', lets nm → 1 ≤ nm.length → nm.length ≤ 6 → -n ≤ o → o ≤ n → H t = none → Kp s H H' → Src H' s L → H' t = some (.tup [.str nm, .int o]) → Q (.ref t) H'
theorem ok__law_ref (T : Tx P A K mg) : FnOk P w K mg base CX0 3 A.a__law_ref A.fd__law_ref ["source", "rows", "wide"] sp__law_ref := by
  refine T.F__law_ref.ok sc__law_ref (fun vs H Q E h => ?_) (fun cdv A' outer s H vs Q E hr h => ?_)
  · obtain ⟨s, L, ro, n, rfl, _⟩ := h
    rfl
  · obtain ⟨s, L, ro, n, rfl, S, ⟨rs, h1, n1, l0, l1, h2⟩, n0, n9, q⟩ := h
    refine ⟨_, (pss_one (ps_ret (pe_tup (pa_cons (pe_ix ix_list (pe_call (ok__law_pick T) (hr.mono (by decide)) (by rfl) T.g__law_pick T.F__law_pick.kp T.b__law_pick .nil pass0 (pa_cons (pv 0) (pa_cons (pv 1) pa_nil))) pe_int (fun _ _ => rfl)) (pa_cons (pe_op op_sub (pe_call (ok__law_draw T) (hr.mono (by decide)) (by rfl) T.g__law_draw T.F__law_draw.kp T.b__law_draw .nil pass0 (pa_cons (pv 0) (pa_cons (pe_op op_add (pe_op op_mul pe_int (pv 2)) pe_int) pa_nil))) (pv 2)) pa_nil))))), ?_⟩
    refine ⟨_, rfl, _, rfl, s, L, _, rfl, S, .inl ⟨ro, _, rfl, n1, SqL.of h1, by rw [List.length_map]; exact l0, by rw [List.length_map]; omega, fun x hx H1 k1 S1 => ?_⟩⟩
    obtain ⟨r, hr', rfl⟩ := List.mem_map.mp hx
    obtain ⟨nr, nm, k, h3, a1, a2, a3⟩ := h2 r hr'
    refine ⟨r, _, 0, _, rfl, rfl, SqL.of (k1 _ _ h3 nr), rfl, ?_⟩
    refine ⟨_, rfl, _, rfl, _, _, rfl, rfl, .inl ⟨by omega, by omega⟩, _, _, rfl, rfl, s, L, _, rfl, S1, by omega, ?_, fun d H2 d0 d1 k2 S2 => ⟨_, rfl, _, _, rfl, rfl, by show 2 ≤ sizeLine; decide, fun t ht => ?_⟩⟩
    · have : (2 : Int) ^ 200 > 100000 := by decide
      omega
    · exact q t nm _ _ a1 a2 a3 (by omega) (by omega) ((Kp.trans k1 k2).free S2 ht) ((k1.trans k2).trans (Kp.new ht)) (S2.new ht) upd_same

def sp__law_rows : Sp := fun vs H Q _ => ∃ (s L : Addr) (m n : Int), vs = [.ref s, .int m, .int n] ∧ Src H s L ∧ 1 ≤ m ∧ m ≤ 25 ∧ 1 ≤ n ∧ n ≤ 100 ∧
  ∀ (ro : Addr) H', H ro = none → Kp s H H' → Src H' s L → RowsAt H' s ro → Q (.ref ro) H'
theorem ok__law_rows (T : Tx P A K mg) : FnOk P w K mg base CX0 5 A.a__law_rows A.fd__law_rows ["source", "most", "strides"] sp__law_rows := by
  refine T.F__law_rows.ok sc__law_rows (fun vs H Q E h => ?_) (fun cdv A' outer s H vs Q E hr h => ?_)
  · obtain ⟨s, L, m, n, rfl, _⟩ := h
    rfl
  · obtain ⟨s, L, m, n, rfl, S, m1, m9, n1, n9, q⟩ := h
    refine ⟨_, (pss_one (ps_ret (pe_lc (own := [("word", 3)]) (g := gName 3) (tt := tYes) (by rfl) sc__law_rows.nd (pi_list (pe_call (ok__law_names T) (hr.mono (by decide)) (by rfl) T.g__law_names T.F__law_names.kp T.b__law_names .nil pass0 (pa_cons (pv 0) (pa_cons (pe_op op_add pe_int (pe_call (ok__law_draw T) (hr.mono (by decide)) (by rfl) T.g__law_draw T.F__law_draw.kp T.b__law_draw .nil pass0 (pa_cons (pv 0) (pa_cons (pv 1) pa_nil)))) pa_nil)))) (blkOk_by (own := [("word", 3)]) (N := N__law_rows) (sc := defScope s__law_rows) (by decide +kernel)) (fun _ _ _ _ _ => (pg_name (i := 3) sc__law_rows.nd rfl (.inl rfl))) (fun _ _ _ _ _ => pts_nil) (fun _ _ _ _ _ => (pe_lst (pa_cons (pv 3) (pa_cons (pe_op op_add pe_int (pe_call (ok__law_draw T) (hr.mono (by decide)) (by rfl) T.g__law_draw T.F__law_draw.kp T.b__law_draw .nil pass0 (pa_cons (pv 0) (pa_cons (pv 2) pa_nil)))) pa_nil))))))), ?_⟩
    have big : (2 : Int) ^ 200 > 100000 := by decide
    refine ⟨_, rfl, _, rfl, _, rfl, s, L, m, rfl, S, by omega, by omega, fun d H1 d0 d1 k1 S1 => ⟨_, _, rfl, rfl, s, L, (1 + d).toNat, ?_, S1, by omega, fun r ws H2 hr0 wl wp wnd k2 S2 h2 => ⟨r, rfl, ⟨_, SqL.of h2⟩, fun D hD => ?_⟩⟩⟩
    · rw [Int.toNat_of_nonneg (by omega)]
      rfl
    · have hrs : r ≠ s := fun z => by
        obtain ⟨xs, hs⟩ := S1.at
        rw [z, hs] at hr0
        cases hr0
      have k12 := k1.trans k2
      have nD := S2.fresh hD
      refine lc_list (K := K) (a := r) (xs := ws.map V.str) (fun i H' => Kp s H H' ∧ Src H' s L ∧ H' r = some (.lst (ws.map V.str)) ∧ ∃ rs : List Addr, rs.length = i ∧ H' D = some (.lst (rs.map V.ref)) ∧ ∀ x ∈ rs, x ≠ s ∧ ∃ (nm : Str) (n : Int), H' x = some (.lst [.str nm, .int n]) ∧ lets nm ∧ 1 ≤ nm.length ∧ nm.length ≤ 6) ?_ ?_ ?_ ?_
      · refine ⟨k12.trans (Kp.new hD), S2.new hD, (Same.new hD) _ _ h2, [], rfl, upd_same, fun x hx => by cases hx⟩
      · rintro i H' _ ⟨_, _, h3, _⟩
        exact SqL.of h3
      · rintro i x H' hi ⟨k3, S3, h3, rs, hl, d3, hrs3⟩
        rw [List.getElem?_map] at hi
        cases hw : ws[i]? with
        | none => rw [hw] at hi; cases hi
        | some z =>
          rw [hw] at hi
          cases hi
          have hilt := (List.getElem?_eq_some_iff.mp hw).1
          refine ⟨rfl, _, rfl, _, rfl, _, rfl, s, L, n, rfl, S3, by omega, by omega, fun e H4 e0 e1 k4 S4 => ⟨_, _, rfl, rfl, by show 2 ≤ sizeLine; decide, fun t ht => ?_⟩⟩
          have sT := Same.new (o := .lst [V.str z, .int (1 + e)]) ht
          have d4 := sT _ _ (k4 _ _ d3 nD.1)
          have hts := S4.fresh ht
          refine ⟨_, d4, by rw [List.length_map]; exact sz_lt (by omega), ?_, ?_, ?_, rs ++ [t], ?_, ?_, ?_⟩
          · exact ((k3.trans k4).trans (Kp.of sT)).mut (k12.free S2 hD)
          · exact (S4.new ht).mut nD
          · rw [upd_ne (ne_of_none h2 hD)]
            exact sT _ _ (k4 _ _ h3 hrs)
          · rw [List.length_append, hl]
            rfl
          · rw [upd_same, List.map_append]
            rfl
          · intro x hx
            rcases List.mem_append.mp hx with hx | hx
            · obtain ⟨a1, nm, k, a2, a3⟩ := hrs3 x hx
              have hxD : x ≠ D := ne_of a2 d3 (by
                intro z
                injection z with z
                cases rs with
                | nil => cases z
                | cons y r => injection z with z _; cases z)
              refine ⟨a1, nm, k, ?_, a3⟩
              rw [upd_ne hxD]
              exact sT _ _ (k4 _ _ a2 a1)
            · cases List.mem_singleton.mp hx
              have htD : t ≠ D := fun z => by rw [z] at ht; rw [k4 _ _ d3 nD.1] at ht; cases ht
              refine ⟨hts.1, z, 1 + e, ?_, wp z (List.mem_of_getElem? hw)⟩
              rw [upd_ne htD]
              exact upd_same
      · rintro H3 ⟨k3, S3, h3, rs, hl, d3, hrs3⟩
        rw [List.length_map, wl] at hl
        exact q D H3 (k12.free S2 hD) k3 S3 ⟨rs, d3, nD.1, by omega, by omega, hrs3⟩

def sp__law_deed (A : Ad) (K : PySem.W.Frag) : Sp := fun vs H Q _ => ∃ (s dd : Addr) (nm : Str) (tg : Option Rf) (so : List Rf), vs = [.ref dd] ∧ DeedAt K H s dd nm tg so ∧ isNm nm = true ∧ so.length ≤ 3 ∧ (∀ r ∈ allR tg so, goodRf r) ∧
  ∀ (p : Addr) H', H p = none → Same H H' → StAt A K H' p nm tg so → Q (.ref p) H'
theorem ok__law_deed (T : Tx P A K mg) : FnOk P w K mg base CX0 7 A.a__law_deed A.fd__law_deed ["deed"] (sp__law_deed A K) := by
  refine T.F__law_deed.ok sc__law_deed (fun vs H Q E h => ?_) (fun cdv A' outer s H vs Q E hr h => ?_)
  · obtain ⟨s, dd, nm, tg, so, rfl, _⟩ := h
    rfl
  · obtain ⟨s, dd, nm, tg, so, rfl, ⟨g, lo, ws, h1, n1, n2, hg, h3, hws⟩, hnm, hlen, good, q⟩ := h
    refine ⟨_, (pss_cons (ps_asg (pv 0) (pg_lst (by rfl) (pgs_cons (pg_name (i := 1) sc__law_deed.nd rfl (.inl rfl)) (pgs_cons (pg_name (i := 2) sc__law_deed.nd rfl (.inl rfl)) (pgs_cons (pg_name (i := 3) sc__law_deed.nd rfl (.inl rfl)) pgs_nil)))))
      (pss_cons (ps_if (pt_cmpR op_eq (pe_callB call_len_seq (by rfl) T.m_len bb_len (pa_cons (pv 3) pa_nil)) pe_int (nomark _)) (pss_one (ps_ret (StX.pe_makeR T.M_Statement (ok_Statement___init__ T) (hr.mono (by decide)) (by rfl) T.g_Statement passC (pa_cons (pv 1) (pa_cons (pv 2) pa_nil))))) pss_nil)
      (pss_cons (ps_if (pt_cmpR op_eq (pe_callB call_len_seq (by rfl) T.m_len bb_len (pa_cons (pv 3) pa_nil)) pe_int (nomark _)) (pss_one (ps_ret (StX.pe_makeR T.M_Statement (ok_Statement___init__ T) (hr.mono (by decide)) (by rfl) T.g_Statement passC (pa_cons (pv 1) (pa_cons (pv 2) (pa_cons (pe_ix ix_list (pv 3) pe_int (fun _ _ => rfl)) pa_nil)))))) pss_nil)
      (pss_cons (ps_if (pt_cmpR op_eq (pe_callB call_len_seq (by rfl) T.m_len bb_len (pa_cons (pv 3) pa_nil)) pe_int (nomark _)) (pss_one (ps_ret (StX.pe_makeR T.M_Statement (ok_Statement___init__ T) (hr.mono (by decide)) (by rfl) T.g_Statement passC (pa_cons (pv 1) (pa_cons (pv 2) (pa_cons (pe_ix ix_list (pv 3) pe_int (fun _ _ => rfl)) (pa_cons (pe_ix ix_list (pv 3) pe_int (fun _ _ => rfl)) pa_nil))))))) pss_nil)
      (pss_one (ps_ret (StX.pe_makeR T.M_Statement (ok_Statement___init__ T) (hr.mono (by decide)) (by rfl) T.g_Statement passC (pa_cons (pv 1) (pa_cons (pv 2) (pa_cons (pe_ix ix_list (pv 3) pe_int (fun _ _ => rfl)) (pa_cons (pe_ix ix_list (pv 3) pe_int (fun _ _ => rfl)) (pa_cons (pe_ix ix_list (pv 3) pe_int (fun _ _ => rfl)) pa_nil)))))))))))), ?_⟩
    have hlw : ws.length = so.length := by
      have := dpAll_len hws
      rw [List.length_map] at this
      exact this
    have fin : ∀ (x dx : Addr), H x = none → H dx = none → dx ≠ x → sp_Statement___init__ A K (.ref x :: .str nm :: g :: ws) (upd (upd H dx (.own x)) x (.ins A.C_Statement dx [])) (fun v H2 => v = .non ∧ Q (.ref x) H2) E0 := fun x dx hx hdx ne =>
      mk_St3 hx hdx ne hnm hg hws good hlen fun H' s' h' => ⟨rfl, q x H' hx s' h'⟩
    refine ⟨_, rfl, dd, _, rfl, SqL.of h1, rfl, _, _, rfl, _, _, rfl, _, _, rfl, rfl, ?_⟩
    refine ⟨_, rfl, lo, ws, rfl, .inl (SqL.of h3), rfl, _, rfl, ?_⟩
    match ws, h3, hlw, fin with
    | [], h3, _, fin => exact ⟨_, rfl, _, rfl, fin⟩
    | [a], h3, _, fin =>
      refine ⟨_, rfl, lo, _, rfl, .inl (SqL.of h3), rfl, _, rfl, ?_⟩
      exact ⟨_, rfl, _, rfl, _, rfl, lo, _, 0, _, rfl, rfl, SqL.of h3, rfl, fin⟩
    | [a, b], h3, _, fin =>
      refine ⟨_, rfl, lo, _, rfl, .inl (SqL.of h3), rfl, _, rfl, ?_⟩
      refine ⟨_, rfl, lo, _, rfl, .inl (SqL.of h3), rfl, _, rfl, ?_⟩
      exact ⟨_, rfl, _, rfl, _, rfl, lo, _, 0, _, rfl, rfl, SqL.of h3, rfl, _, rfl, lo, _, 1, _, rfl, rfl, SqL.of h3, rfl, fin⟩
    | [a, b, c], h3, _, fin =>
      refine ⟨_, rfl, lo, _, rfl, .inl (SqL.of h3), rfl, _, rfl, ?_⟩
      refine ⟨_, rfl, lo, _, rfl, .inl (SqL.of h3), rfl, _, rfl, ?_⟩
      exact ⟨_, rfl, _, rfl, _, rfl, lo, _, 0, _, rfl, rfl, SqL.of h3, rfl, _, rfl, lo, _, 1, _, rfl, rfl, SqL.of h3, rfl, _, rfl, lo, _, 2, _, rfl, rfl, SqL.of h3, rfl, fin⟩
    | _ :: _ :: _ :: _ :: _, _, hlw, _ => exact absurd hlw (by simp only [List.length_cons]; omega)

def sp__law_moved (K : PySem.W.Frag) : Sp := fun vs H Q _ => ∃ (s L dd : Addr) (nm : Str) (tg : Option Rf) (so : List Rf) (b : Int), vs = [.ref dd, .int b] ∧ Src H s L ∧ DeedAt K H s dd nm tg so ∧ so.length ≤ 3 ∧
  ∀ (d' : Addr) H', H d' = none → Same H H' → DeedAt K H' s d' nm (tg.map (mvR b)) (so.map (mvR b)) → Q (.ref d') H'
theorem ok__law_moved (T : Tx P A K mg) : FnOk P w K mg base CX0 1 A.a__law_moved A.fd__law_moved ["deed", "by"] (sp__law_moved K) := by
  refine T.F__law_moved.ok sc__law_moved (fun vs H Q E h => ?_) (fun cdv A' outer s H vs Q E hr h => ?_)
  · obtain ⟨s, L, dd, nm, tg, so, b, rfl, _⟩ := h
    rfl
  · obtain ⟨s, L, dd, nm, tg, so, b, rfl, S, ⟨g, lo, ws, h1, n1, n2, hg, h3, hws⟩, hlen, q⟩ := h
    refine ⟨_, (C8.pss_cut (ps_set (i := 2) sc__law_moved.nd rfl (.inl rfl) (pe_ifExp (pt_cmpR op_isN (pe_ix ix_list (pv 0) pe_int (fun _ _ => rfl)) pe_non (nomark _)) pe_non (pe_tup (pa_cons (pe_ix ix_tup (pe_ix ix_list (pv 0) pe_int (fun _ _ => rfl)) pe_int (fun _ _ => rfl)) (pa_cons (pe_op op_add (pe_ix ix_tup (pe_ix ix_list (pv 0) pe_int (fun _ _ => rfl)) pe_int (fun _ _ => rfl)) (pv 1)) pa_nil)))))
      (pss_one (ps_ret (pe_lst (pa_cons (pe_ix ix_list (pv 0) pe_int (fun _ _ => rfl)) (pa_cons (pv 2) (pa_cons (pe_lc (own := [("word", 3), ("off", 4)]) (g := gTup K 2 (gCons (gName 3) (gCons (gName 4) gNil))) (tt := tYes) (by rfl) sc__law_moved.nd (pi_list (pe_ix ix_list (pv 0) pe_int (fun _ _ => rfl))) (blkOk_by (own := [("word", 3), ("off", 4)]) (N := N__law_moved) (sc := defScope s__law_moved) (by decide +kernel)) (fun _ _ _ _ _ => (pg_tup (by rfl) (pgs_cons (pg_name (i := 3) sc__law_moved.nd rfl (.inl rfl)) (pgs_cons (pg_name (i := 4) sc__law_moved.nd rfl (.inl rfl)) pgs_nil)))) (fun _ _ _ _ _ => pts_nil) (fun _ _ _ _ _ => (pe_tup (pa_cons (pv 3) (pa_cons (pe_op op_add (pv 4) (pv 1)) pa_nil))))) pa_nil))))))), ?_⟩
    have hlw : ws.length = so.length := by
      have := dpAll_len hws
      rw [List.length_map] at this
      exact this
    refine ⟨fun σ H' => ∃ g2, σ = [some (.ref dd), some (.int b), some g2, none, none] ∧ Same H H' ∧ Dp K H' g2 (tgD (tg.map (mvR b))), ?_, ?_⟩
    · refine ⟨_, rfl, dd, _, 1, g, rfl, rfl, SqL.of h1, rfl, rfl, _, rfl, ?_⟩
      cases tg with
      | none =>
        cases hg
        exact ifT rfl ⟨_, rfl, Same.refl H, .non⟩
      | some r =>
        obtain ⟨tr, rfl, ht⟩ := ref_val hg
        refine ifF rfl ?_
        refine ⟨_, rfl, dd, _, 1, _, rfl, rfl, SqL.of h1, rfl, tr, _, 0, _, rfl, rfl, ht, rfl, _, rfl, dd, _, 1, _, rfl, rfl, SqL.of h1, rfl, tr, _, 1, _, rfl, rfl, ht, rfl, _, rfl, _, _, rfl, rfl, by show 2 ≤ sizeLine; decide, fun t ht' => ?_⟩
        exact ⟨_, rfl, Same.new ht', .tup (SqT.of upd_same) (.cons (.str _) (.cons (.int _) .nil))⟩
    · rintro σ H2 ⟨g2, rfl, s2, hg2⟩
      refine ⟨_, rfl, dd, _, 0, _, rfl, rfl, SqL.of (s2 _ _ h1), rfl, _, rfl, _, rfl, dd, _, 2, _, rfl, rfl, SqL.of (s2 _ _ h1), rfl, lo, rfl, ⟨_, SqL.of (s2 _ _ h3)⟩, fun D hD => ?_⟩
      have S2 := S.same s2
      have nD := S2.fresh hD
      refine lc_list (K := K) (a := lo) (xs := ws) (fun i H' => Same H2 H' ∧ ∃ us, H' D = some (.lst us) ∧ DpAll K H' us (((so.take i).map (mvR b)).map refD)) ⟨Same.new hD, _, upd_same, .nil⟩ ?_ ?_ ?_
      · rintro i H' _ ⟨s4, _⟩
        exact SqL.of ((s2.trans s4) _ _ h3)
      · rintro i x H' hi ⟨s4, us, d4, hus⟩
        obtain ⟨rf, hrf, hx⟩ := dpRefs_get hws hi
        obtain ⟨tx, rfl, htx⟩ := ref_val hx
        have hul : us.length ≤ 3 := by
          have := dpAll_len hus
          rw [List.length_map, List.length_map, List.length_take] at this
          omega
        refine ⟨tx, _, rfl, same_t (s2.trans s4) htx, rfl, _, _, rfl, _, _, rfl, rfl, rfl, _, rfl, _, rfl, _, rfl, _, _, rfl, rfl, by show 2 ≤ sizeLine; decide, fun tt htt => ?_⟩
        have s5 := Same.new (o := .tup [V.str rf.1, .int (rf.2 + b)]) htt
        have d5 := s5 _ _ d4
        refine ⟨us, d5, sz_lt (by omega), (s4.trans s5).mut hD, _, upd_same, ?_⟩
        have e1 : ((so.take (i + 1)).map (mvR b)).map refD = ((so.take i).map (mvR b)).map refD ++ [refD (mvR b rf)] := by
          rw [take_succ_of hrf, List.map_append, List.map_append]
          rfl
        rw [e1]
        refine dpAll_kpl Kp.self d5 _ _ ?_ (dpAll_app (dpAll_same s5 _ _ hus) (.cons (.tup (SqT.of upd_same) (.cons (.str _) (.cons (.int _) .nil))) .nil))
        rw [← e1]
        exact refs_noL _
      · rintro H4 ⟨s4, us, d4, hus⟩
        rw [hlw, List.take_length] at hus
        refine ⟨by show 3 ≤ sizeLine; decide, fun d' hd' => ?_⟩
        have s24 := s2.trans s4
        have s5 := Same.new (o := .lst [V.str nm, g2, .ref D]) hd'
        have nd' := (S.same s24).fresh hd'
        exact q d' _ (s24.free hd') (s24.trans s5) ⟨g2, D, us, upd_same, nd'.1, nD.1, dp_same (s4.trans s5) _ _ hg2, s5 _ _ d4, dpAll_same s5 _ _ hus⟩

theorem _root_.VW.ReprD.same {H H' : Hp} {v : V} {z : Str} (e : Same H H') (h : ReprD K H v z) : ReprD K H' v z := by
  cases h with
  | sc h => exact .sc h
  | dt h h1 h2 h3 h4 => exact .dt (dp_same e _ _ h) h1 h2 h3 h4
def sp__law_told (A : Ad) (K : PySem.W.Frag) : Sp := fun vs H Q _ => ∃ (p : Addr) (nm : Str) (tg : Option Rf) (so : List Rf) (v : V) (k : Kd), vs = [.ref p, v] ∧ StAt A K H p nm tg so ∧ isNm nm = true ∧ so.length ≤ 3 ∧ (∀ r ∈ allR tg so, goodRf r) ∧ Kn K H v k ∧
  (movOk v (allR tg so) = false → ∃ z, ReprD K H v z ∧ ∀ (t : Addr) H', H t = none → Same H H' → H' t = some (.tup [.str "number", .str z, .bl true]) → Q (.ref t) H') ∧
  ∀ b : Int, v = .int b → movOk v (allR tg so) = true → ∀ (r : Addr) H', H r = none → Same H H' → StAt A K H' r nm (tg.map (mvR b)) (so.map (mvR b)) → Q (.ref r) H'
def toldT (A : Ad) (K : PySem.W.Frag) (a : Addr) (cls : Value) (d : Option Addr) : TS :=
  tRet (tTup (tCons (tC (.str "number")) (tCons (tCB (fun xs H Q => ∃ v z, xs = [v] ∧ ReprD K H v z ∧ Q (.str z) H) (tCons (tXf a cls d A.C_InvalidNumber "value" (tVar 2)) tNil)) (tCons (tCB (rIsD K A.C_InvalidNumber a cls d) (tCons (tVar 2) (tCons (tC (.ref A.C_WidthError)) tNil))) tNil))))
theorem ok__law_told (T : Tx P A K mg) : FnG P w K mg base CX0 9 A.a__law_told A.fd__law_told ["made", "by"] (sp__law_told A K) := by
  refine okG T.F__law_told sc__law_told (fun vs H Q E h => ?_) (fun cdv A' outer s H vs Q E hgd hr h => ?_)
  · obtain ⟨p, nm, tg, so, v, k, rfl, _⟩ := h
    rfl
  · obtain ⟨p, nm, tg, so, v, k, rfl, hS, hnm, hlen, good, hv, e, q⟩ := h
    refine ⟨_, (pss_one (ps_try_as (i := 2) (tb := fun W => tRet (tMethS A.C_Statement "moved" (sp_Statement_moved A K) (WE W) (tVar 0) (tCons (tVar 1) tNil))) (ts := toldT A K) (Wout := fun _ _ _ _ => False)
      rfl rfl sc__law_told.nd rfl rfl ⟨rfl, by decide, .inl T.er_InvalidNumber.gC⟩ takes0
      (fun W pn xe tk _ => pss_one (ps_ret (pe_methS (pv 0) T.cl_Statement T.me_Statement_moved (ok_Statement_moved T) (hr.mono (by decide)) T.b_Statement_moved (fun σ => passAt tk σ) (pa_cons (pv 1) pa_nil))))
      (fun a oe cls d pn hz hf => pss_one (ps_ret (pe_tup (pa_cons pe_str (pa_cons (pe_callB (call_reprG hgd hr.units) (by rfl) T.m_repr bb_repr (pa_cons (pe_xf (xf_of T.er_InvalidNumber) T.er_InvalidNumber.noN hz hf (pv 2)) pa_nil)) (pa_cons (pe_callB (call_isD T.xc_InvalidNumber hz hf) (by rfl) T.m_isinstance bb_isinstance (pa_cons (pv 2) (pa_cons (pe_glob (v := .ref A.C_WidthError) (by rfl) T.g_WidthError rfl) pa_nil))) pa_nil)))))))), ?_⟩
    obtain ⟨dx, g, t, hp, _⟩ := id hS
    refine ⟨_, rfl, p, dx, _, rfl, hp, by first | rfl | kernel_rfl, _, rfl, p, nm, tg, so, v, k, rfl, hS, hnm, hlen, good, hv, fun c => ?_, q⟩
    obtain ⟨z, rz, q2⟩ := e c
    intro d H' s' nd hd
    refine ⟨true, T.er_InvalidNumber.te, fun _ a _ => ?_, fun z => Bool.noConfusion z⟩
    refine ⟨_, rfl, rfl, rfl, d, _, v, rfl, hd, by simp [List.lookup], v, z, rfl, rz.same s', ?_⟩
    refine ⟨_, rfl, _, _, true, d, _, rfl, rfl, rfl, hd, .own _, T.ks_InvalidNumber_WidthError, by show 3 ≤ sizeLine; decide, fun t ht => ?_⟩
    exact q2 t _ (s'.free ht) (s'.trans (Same.new ht)) upd_same

def sp__law_fits (K : PySem.W.Frag) : Sp := fun vs H Q _ => ∃ (s dd : Addr) (nm : Str) (tg : Option Rf) (so : List Rf), vs = [.ref dd] ∧ DeedAt K H s dd nm tg so ∧ so.length ≤ 3 ∧
  ∀ H', Same H H' → Q (.bl ((allR tg so).all fitR)) H'
theorem eqv_nil : ∀ zs : List Int, PyData.eqv (.list (zs.map PyData.int)) (.list []) = zs.isEmpty
  | [] => rfl
  | _ :: _ => rfl
theorem filt_all (rs : List Rf) : ((rs.filter fun r => !fitR r).map fun r => r.2).isEmpty = rs.all fitR := by
  induction rs with
  | nil => rfl
  | cons r rs ih =>
    rw [List.filter_cons, List.all_cons]
    cases h : fitR r with
    | true => simpa using ih
    | false => rfl
theorem ok__law_fits (T : Tx P A K mg) : FnOk P w K mg base CX0 2 A.a__law_fits A.fd__law_fits ["deed"] (sp__law_fits K) := by
  refine T.F__law_fits.ok sc__law_fits (fun vs H Q E h => ?_) (fun cdv A' outer s H vs Q E hr h => ?_)
  · obtain ⟨s, dd, nm, tg, so, rfl, _⟩ := h
    rfl
  · obtain ⟨s, dd, nm, tg, so, rfl, ⟨g, lo, ws, h1, n1, n2, hg, h3, hws⟩, hlen, q⟩ := h
    refine ⟨_, (pss_cons (ps_setLc (i := 1) (own := [("ref", 2)]) (g := gName 2) (tt := tYes) (by rfl) sc__law_fits.nd rfl rfl (sw_true rfl rfl rfl (by decide +kernel)) (pi_list (pe_op op_cat (pe_ix ix_list (pv 0) pe_int (fun _ _ => rfl)) (pe_op op_rep (pe_lst (pa_cons (pe_ix ix_list (pv 0) pe_int (fun _ _ => rfl)) pa_nil)) (pe_callTy call_int1 (by rfl) T.m_int bb_int (pa_cons (pe_cmpR op_notN (pe_ix ix_list (pv 0) pe_int (fun _ _ => rfl)) pe_non (nomark _)) pa_nil))))) (blkOk_by (own := [("ref", 2)]) (N := N__law_fits) (sc := defScope s__law_fits) (by decide +kernel)) (fun _ _ _ _ _ => (pg_name (i := 2) sc__law_fits.nd rfl (.inl rfl))) (fun _ _ _ _ _ => pts_nil) (fun _ _ _ _ _ => (pe_ix (ix_tup : IxR _ (rIxT K)) (pv 2) pe_int (fun _ _ => rfl))))
      (pss_one (ps_ret (pe_cmpR (op_eqD hr.units) (pe_lc (own := [("off", 3)]) (g := gName 3) (by rfl) sc__law_fits.nd (pi_list (pv 1)) (blkOk_by (own := [("off", 3)]) (N := N__law_fits) (sc := defScope s__law_fits) (by decide +kernel)) (fun _ _ _ _ _ => (pg_name (i := 3) sc__law_fits.nd rfl (.inl rfl))) (fun _ _ _ _ _ => (pts_one (pt_not (pt_chain op_le op_le (pe_un un_neg pe_int) (pv 3) pe_int)))) (fun _ _ _ _ _ => (pv 3))) (pe_lst pa_nil) (nomark _))))), ?_⟩
    have hlw : ws.length = so.length := by
      have := dpAll_len hws
      rw [List.length_map] at this
      exact this
    have rl : (allR tg so).length ≤ 4 := by
      unfold allR
      rw [List.length_append]
      cases tg <;> simp <;> omega
    have kk : (if (!decide (g = V.non)) = true then (1 : Int) else 0) = 0 ∨ (if (!decide (g = V.non)) = true then (1 : Int) else 0) = 1 := by
      split
      · exact .inr rfl
      · exact .inl rfl
    have key : DpAll K H (ws ++ (List.replicate (if (!decide (g = V.non)) = true then (1 : Int) else 0).toNat [g]).flatten) ((allR tg so).map refD) := by
      cases tg with
      | none =>
        cases hg
        have e : (allR none so).map refD = so.map refD := by simp [allR]
        rw [e]
        simpa using hws
      | some r =>
        obtain ⟨tr, rfl, ht⟩ := ref_val hg
        have e : (allR (some r) so).map refD = so.map refD ++ [refD r] := by simp [allR]
        rw [e]
        exact dpAll_app hws (.cons hg .nil)
    generalize hk : (if (!decide (g = V.non)) = true then (1 : Int) else 0) = k at kk key
    refine ⟨_, rfl, dd, _, 2, _, rfl, rfl, SqL.of h1, rfl, _, rfl, dd, _, 1, _, rfl, rfl, SqL.of h1, rfl, by show 1 ≤ sizeLine; decide, fun l1 hl1 => ?_⟩
    have s1 := Same.new (o := .lst [g]) hl1
    refine ⟨_, rfl, dd, _, 1, _, rfl, rfl, SqL.of (s1 _ _ h1), rfl, rfl, .inr ⟨_, rfl, l1, k, _, rfl, by rw [← hk], upd_same, by omega, by omega, ?_, fun l2 hl2 => ?_⟩⟩
    · rcases kk with z | z <;> rw [z]
      · show 1 * 0 ≤ sizeLine
        decide
      · show 1 * 1 ≤ sizeLine
        decide
    have s2 := s1.trans (Same.new (o := .lst (List.replicate k.toNat [g]).flatten) hl2)
    have hlk := dpAll_len key
    rw [List.length_map] at hlk
    refine ⟨lo, l2, _, _, rfl, rfl, s2 _ _ h3, upd_same, ?_, fun l3 hl3 => ?_⟩
    · rw [← List.length_append, hlk]
      exact sz_of (by omega)
    have s3 := s2.trans (Same.new (o := .lst (ws ++ (List.replicate k.toNat [g]).flatten)) hl3)
    refine ⟨l3, rfl, ⟨_, SqL.of upd_same⟩, fun D hD => ?_⟩
    refine lc_list (K := K) (a := l3) (xs := ws ++ (List.replicate k.toNat [g]).flatten) (fun i H' => Same (upd (upd (upd H l1 (.lst [g])) l2 (.lst (List.replicate k.toNat [g]).flatten)) l3 (.lst (ws ++ (List.replicate k.toNat [g]).flatten))) H' ∧ H' D = some (.lst (((allR tg so).take i).map fun r => V.int r.2))) ⟨Same.new hD, upd_same⟩ ?_ ?_ ?_
    · rintro i H' _ ⟨s4, _⟩
      exact SqL.of (s4 _ _ upd_same)
    · rintro i x H' hi ⟨s4, d4⟩
      obtain ⟨rf, hrf, hx⟩ := dpRefs_get key hi
      obtain ⟨tx, rfl, htx⟩ := ref_val hx
      refine ⟨rfl, _, rfl, tx, _, 1, _, rfl, rfl, same_t (s3.trans s4) htx, rfl, _, d4, ?_, s4.mut hD, ?_⟩
      · rw [List.length_map, List.length_take]
        exact sz_lt (by omega)
      · rw [upd_same, take_succ_of hrf, List.map_append]
        rfl
    · rintro H4 ⟨s4, d4⟩
      have s34 := s3.trans s4
      rw [hlk, List.take_length] at d4
      refine ⟨_, rfl, D, rfl, ⟨_, SqL.of d4⟩, fun D2 hD2 => ?_⟩
      refine lc_list (K := K) (a := D) (xs := (allR tg so).map fun r => V.int r.2) (fun i H' => Same H4 H' ∧ H' D2 = some (.lst ((((allR tg so).take i).filter fun r => !fitR r).map fun r => V.int r.2))) ⟨Same.new hD2, upd_same⟩ ?_ ?_ ?_
      · rintro i H' _ ⟨s5, _⟩
        exact SqL.of (s5 _ _ d4)
      · rintro i x H' hi ⟨s5, d5⟩
        rw [List.getElem?_map] at hi
        cases hw : (allR tg so)[i]? with
        | none => rw [hw] at hi; cases hi
        | some rf =>
          rw [hw] at hi
          cases hi
          have step : ∀ b, fitR rf = b → (((allR tg so).take (i + 1)).filter fun r => !fitR r) = ((allR tg so).take i).filter (fun r => !fitR r) ++ (if b = true then [] else [rf]) := fun b hb => by
            rw [take_succ_of hw, List.filter_append]
            congr 1
            cases b <;> simp [hb]
          have ef : fitR rf = (decide ((-9 : Int) ≤ rf.2) && decide (rf.2 ≤ 9)) := rfl
          refine ⟨rfl, 9, rfl, _, rfl, _, _, rfl, rfl, _, rfl, ?_⟩
          by_cases c1 : (-9 : Int) ≤ rf.2
          · refine ifT (decide_eq_true c1) ?_
            refine ⟨_, _, rfl, rfl, _, rfl, ?_⟩
            by_cases c2 : rf.2 ≤ 9
            · rw [decide_eq_true c2]
              refine ifF rfl ⟨s5, ?_⟩
              rw [step true (by rw [ef, decide_eq_true c1, decide_eq_true c2]; rfl), if_pos rfl, List.append_nil]
              exact d5
            · rw [decide_eq_false c2]
              refine ifT rfl ⟨_, rfl, _, d5, ?_, s5.mut hD2, ?_⟩
              · rw [List.length_map]
                have := List.length_filter_le (fun r => !fitR r) ((allR tg so).take i)
                rw [List.length_take] at this
                exact sz_lt (by omega)
              · rw [upd_same, step false (by rw [ef, decide_eq_false c2, Bool.and_false]), if_neg Bool.false_ne_true, List.map_append]
                rfl
          · refine ifF (decide_eq_false c1) ?_
            refine ⟨_, rfl, ifT rfl ⟨_, rfl, _, d5, ?_, s5.mut hD2, ?_⟩⟩
            · rw [List.length_map]
              have := List.length_filter_le (fun r => !fitR r) ((allR tg so).take i)
              rw [List.length_take] at this
              exact sz_lt (by omega)
            · rw [upd_same, step false (by rw [ef, decide_eq_false c1, Bool.false_and]), if_neg Bool.false_ne_true, List.map_append]
              rfl
      · rintro H5 ⟨s5, d5⟩
        rw [List.length_map, List.take_length] at d5
        refine ⟨Nat.zero_le _, fun e he => ?_⟩
        have s6 := Same.new (o := .lst []) he
        have em : ((allR tg so).filter fun r => !fitR r).map (fun r => V.int r.2) = (((allR tg so).filter fun r => !fitR r).map fun r => r.2).map V.int := by rw [List.map_map]; rfl
        rw [em] at d5
        refine ⟨.list ((((allR tg so).filter fun r => !fitR r).map fun r => r.2).map PyData.int), .list [], .lst (SqL.of (s6 _ _ d5)) (dp_ints _), .lst (SqL.of upd_same) .nil, shaped_ints _, rfl, ?_⟩
        rw [eqv_nil, filt_all]
        exact q _ ((s34.trans s5).trans s6)

def sp_law (K : PySem.W.Frag) : Sp := fun vs H Q _ => ∃ (a : Addr) (ns : List Int), vs = [.ref a] ∧ SqL K H a (ns.map V.int) ∧ ns.length ≤ 63 ∧ ∀ H', Q (.bl true) H'
theorem mv_mv (b c : Int) (r : Rf) : mvR c (mvR b r) = mvR (b + c) r := by
  show ((r.1, r.2 + b + c) : Rf) = (r.1, r.2 + (b + c))
  rw [Int.add_assoc]
theorem tg_mv (b c : Int) (tg : Option Rf) : (tg.map (mvR b)).map (mvR c) = tg.map (mvR (b + c)) := by
  cases tg with
  | none => rfl
  | some r => show some (mvR c (mvR b r)) = some _; rw [mv_mv]
theorem so_mv (b c : Int) (so : List Rf) : (so.map (mvR b)).map (mvR c) = so.map (mvR (b + c)) := by
  rw [List.map_map]
  exact List.map_congr_left fun r _ => mv_mv b c r
theorem mv_0 (r : Rf) : mvR 0 r = r := by
  show ((r.1, r.2 + 0) : Rf) = r
  rw [Int.add_zero]
theorem tg_0 (tg : Option Rf) : tg.map (mvR 0) = tg := by
  cases tg with
  | none => rfl
  | some r => show some (mvR 0 r) = some r; rw [mv_0]
theorem so_0 (so : List Rf) : so.map (mvR 0) = so := by
  conv => rhs; rw [← List.map_id so]
  exact List.map_congr_left fun r _ => mv_0 r
theorem all_mv (b : Int) (tg : Option Rf) (so : List Rf) : allR (tg.map (mvR b)) (so.map (mvR b)) = (allR tg so).map (mvR b) := by
  unfold allR
  rw [List.map_append]
  cases tg <;> rfl
theorem good_mv {b : Int} {tg : Option Rf} {so : List Rf} (good : ∀ r ∈ allR tg so, goodRf r) (c : movOk (.int b) (allR tg so) = true) : ∀ r ∈ allR (tg.map (mvR b)) (so.map (mvR b)), goodRf r := fun r hr => by
  rw [all_mv] at hr
  obtain ⟨r0, h0, rfl⟩ := List.mem_map.mp hr
  obtain ⟨h2, h3⟩ := btw_iff.mp (List.all_eq_true.mp c r0 h0)
  exact ⟨(good r0 h0).1, h2, h3⟩
theorem ok_mv (b c : Int) (tg : Option Rf) (so : List Rf) : movOk (.int c) (allR (tg.map (mvR b)) (so.map (mvR b))) = movOk (.int (b + c)) (allR tg so) := by
  rw [all_mv]
  show ((allR tg so).map (mvR b)).all (offOk c) = (allR tg so).all (offOk (b + c))
  rw [List.all_map]
  refine congrArg (fun f => (allR tg so).all f) (funext fun r => ?_)
  show btw (.int (r.2 + b + c)) (-9) 9 = btw (.int (r.2 + (b + c))) (-9) 9
  rw [Int.add_assoc]
theorem ok_0 {tg : Option Rf} {so : List Rf} (good : ∀ r ∈ allR tg so, goodRf r) : movOk (.int 0) (allR tg so) = true := by
  refine List.all_eq_true.mpr fun r hr => ?_
  obtain ⟨_, h1, h2⟩ := good r hr
  refine btw_iff.mpr ?_
  rw [Int.add_zero]
  exact ⟨h1, h2⟩
theorem small25 : ∀ n : Nat, n < 51 → PyData.strOk (Str.ofString (toString ((n : Int) - 25))) = true := by decide +kernel
def toldD (z : Str) : PyData := .tuple [.str "number", .str z, .bool true]
theorem toldD_shaped {z : Str} (h : PyData.strOk z = true) : SeqAt.shaped (toldD z) = true := by
  have h0 : PyData.strOk "number" = true := by decide +kernel
  unfold toldD SeqAt.shaped
  simp [PyData.canLay0, PyData.canLayAll0, PyData.depth, PyData.depthAll, h, h0]
theorem toldD_eqv (z : Str) : PyData.eqv (toldD z) (toldD z) = true := by simp [toldD, PyData.eqv, PyData.eqvAll]
theorem toldD_dp {H : Hp} {t : Addr} {z : Str} (h : H t = some (.tup [.str "number", .str z, .bl true])) : Dp K H (.ref t) (toldD z) := .tup (SqT.of h) (.cons (.str _) (.cons (.str _) (.cons (.bl _) .nil)))
theorem ok_law (T : Tx P A K mg) : FnG P w K mg base CX0 12 A.a_law A.fd_law ["script"] (sp_law K) := by
  refine okG T.F_law sc_law (fun vs H Q E h => ?_) (fun cdv A' outer s H vs Q E hgd hr h => ?_)
  · obtain ⟨a, ns, rfl, _⟩ := h
    rfl
  · obtain ⟨a, ns, rfl, hS, hl, q⟩ := h
    refine ⟨_, (pss_cons (ps_set (i := 1) sc_law.nd rfl (.inr rfl) (pe_call (ok__law_begin T) (hr.mono (by decide)) (by rfl) T.g__law_begin T.F__law_begin.kp T.b__law_begin .nil pass0 (pa_cons (pv 0) pa_nil)))
      (pss_cons (ps_for PassesOwn.never rfl (pi_range1 (by rfl) T.m_range (pa_cons pe_int pa_nil)) (pg_name (i := 2) sc_law.nd rfl (.inl rfl))
      (pss_cons (ps_set (i := 3) sc_law.nd rfl (.inr rfl) (pe_call (ok__law_rows T) (hr.mono (by decide)) (by rfl) T.g__law_rows T.F__law_rows.kp T.b__law_rows .nil pass0 (pa_cons (pv 1) (pa_cons pe_int (pa_cons pe_int pa_nil)))))
      (pss_cons (ps_set (i := 4) sc_law.nd rfl (.inl rfl) (pe_ix ix_list (pe_lst (pa_cons pe_non (pa_cons (pe_call (ok__law_ref T) (hr.mono (by decide)) (by rfl) T.g__law_ref T.F__law_ref.kp T.b__law_ref .nil pass0 (pa_cons (pv 1) (pa_cons (pv 3) (pa_cons pe_int pa_nil)))) pa_nil))) (pe_call (ok__law_draw T) (hr.mono (by decide)) (by rfl) T.g__law_draw T.F__law_draw.kp T.b__law_draw .nil pass0 (pa_cons (pv 1) (pa_cons pe_int pa_nil))) (fun _ _ => rfl)))
      (pss_cons (ps_set (i := 5) sc_law.nd rfl (.inl rfl) (pe_lst (pa_cons (pe_ix ix_list (pe_call (ok__law_names T) (hr.mono (by decide)) (by rfl) T.g__law_names T.F__law_names.kp T.b__law_names .nil pass0 (pa_cons (pv 1) (pa_cons pe_int pa_nil))) pe_int (fun _ _ => rfl)) (pa_cons (pv 4) (pa_cons (pe_lc (own := [("k", 6)]) (g := gName 6) (tt := tYes) (by rfl) sc_law.nd (pi_range1 (by rfl) T.m_range (pa_cons (pe_call (ok__law_draw T) (hr.mono (by decide)) (by rfl) T.g__law_draw T.F__law_draw.kp T.b__law_draw .nil pass0 (pa_cons (pv 1) (pa_cons pe_int pa_nil))) pa_nil)) (blkOk_by (own := [("k", 6)]) (N := N_law) (sc := defScope s_law) (by decide +kernel)) (fun _ _ _ _ _ => (pg_name (i := 6) sc_law.nd rfl (.inl rfl))) (fun _ _ _ _ _ => pts_nil) (fun _ _ _ _ _ => (pe_call (ok__law_ref T) (hr.mono (by decide)) (by rfl) T.g__law_ref T.F__law_ref.kp T.b__law_ref .nil pass0 (pa_cons (pv 1) (pa_cons (pv 3) (pa_cons pe_int pa_nil)))))) pa_nil)))))
      (pss_cons (ps_set (i := 7) sc_law.nd rfl (.inl rfl) (pe_call (ok__law_deed T) (hr.mono (by decide)) (by rfl) T.g__law_deed T.F__law_deed.kp T.b__law_deed .nil pass0 (pa_cons (pv 5) pa_nil)))
      (pss_cons (ps_par (i := 8) (j := 9) (by rfl) sc_law.nd rfl rfl (by decide) rfl rfl (pa_cons (pe_op op_sub (pe_call (ok__law_draw T) (hr.mono (by decide)) (by rfl) T.g__law_draw T.F__law_draw.kp T.b__law_draw .nil pass0 (pa_cons (pv 1) (pa_cons pe_int pa_nil))) pe_int) (pa_cons (pe_op op_sub (pe_call (ok__law_draw T) (hr.mono (by decide)) (by rfl) T.g__law_draw T.F__law_draw.kp T.b__law_draw .nil pass0 (pa_cons (pv 1) (pa_cons pe_int pa_nil))) pe_int) pa_nil)) (by rfl))
      (pss_cons (ps_set (i := 10) sc_law.nd rfl (.inl rfl) (pe_call (ok__law_moved T) (hr.mono (by decide)) (by rfl) T.g__law_moved T.F__law_moved.kp T.b__law_moved .nil pass0 (pa_cons (pv 5) (pa_cons (pv 8) pa_nil))))
      (C8.pss_cut (ps_if (pt_val (pe_call (ok__law_fits T) (hr.mono (by decide)) (by rfl) T.g__law_fits T.F__law_fits.kp T.b__law_fits .nil pass0 (pa_cons (pv 10) pa_nil))) (pss_cons (ps_if (PW.pt (pw_or (pt_cmpR (op_neO T.eq_Statement (ok_Statement___eq__ T) (hr.mono (by decide)) T.b_Statement___eq__ pass0) (pe_callG hgd (ok__law_told T) (hr.mono (by decide)) (by rfl) T.g__law_told T.F__law_told.kp T.b__law_told pass0 (pa_cons (pv 7) (pa_cons (pv 8) pa_nil))) (pe_call (ok__law_deed T) (hr.mono (by decide)) (by rfl) T.g__law_deed T.F__law_deed.kp T.b__law_deed .nil pass0 (pa_cons (pv 10) pa_nil)) (nomark _)) (pw_or1 (pt_cmpR (op_neO T.eq_Statement (ok_Statement___eq__ T) (hr.mono (by decide)) T.b_Statement___eq__ pass0) (pe_meth (pe_meth (pv 7) T.cl_Statement T.me_Statement_moved (ok_Statement_moved T) (hr.mono (by decide)) T.b_Statement_moved .nil passC (pa_cons (pv 8) pa_nil)) T.cl_Statement T.me_Statement_moved (ok_Statement_moved T) (hr.mono (by decide)) T.b_Statement_moved .nil passC (pa_cons (pe_un un_neg (pv 8)) pa_nil)) (pv 7) (nomark _))))) (pss_one (ps_ret pe_bl)) pss_nil)
      (pss_one (ps_if (PW.pt (pw_and (pt_val (pe_call (ok__law_fits T) (hr.mono (by decide)) (by rfl) T.g__law_fits T.F__law_fits.kp T.b__law_fits .nil pass0 (pa_cons (pe_call (ok__law_moved T) (hr.mono (by decide)) (by rfl) T.g__law_moved T.F__law_moved.kp T.b__law_moved .nil pass0 (pa_cons (pv 10) (pa_cons (pv 9) pa_nil))) pa_nil))) (pw_and1 (pt_cmpR (op_neO T.eq_Statement (ok_Statement___eq__ T) (hr.mono (by decide)) T.b_Statement___eq__ pass0) (pe_meth (pe_meth (pv 7) T.cl_Statement T.me_Statement_moved (ok_Statement_moved T) (hr.mono (by decide)) T.b_Statement_moved .nil passC (pa_cons (pv 8) pa_nil)) T.cl_Statement T.me_Statement_moved (ok_Statement_moved T) (hr.mono (by decide)) T.b_Statement_moved .nil passC (pa_cons (pv 9) pa_nil)) (pe_meth (pv 7) T.cl_Statement T.me_Statement_moved (ok_Statement_moved T) (hr.mono (by decide)) T.b_Statement_moved .nil passC (pa_cons (pe_op op_add (pv 8) (pv 9)) pa_nil)) (nomark _))))) (pss_one (ps_ret pe_bl)) pss_nil))) (pss_one (ps_if (pt_cmpR (op_neD hr.units) (pe_callG hgd (ok__law_told T) (hr.mono (by decide)) (by rfl) T.g__law_told T.F__law_told.kp T.b__law_told pass0 (pa_cons (pv 7) (pa_cons (pv 8) pa_nil))) (pe_tup (pa_cons pe_str (pa_cons (pe_callB (call_reprG hgd hr.units) (by rfl) T.m_repr bb_repr (pa_cons (pv 8) pa_nil)) (pa_cons pe_bl pa_nil)))) (nomark _)) (pss_one (ps_ret pe_bl)) pss_nil)))
      (pss_cons (ps_set (i := 11) sc_law.nd rfl (.inl rfl) (pe_call (ok__law_pick T) (hr.mono (by decide)) (by rfl) T.g__law_pick T.F__law_pick.kp T.b__law_pick .nil pass0 (pa_cons (pv 1) (pa_cons (pe_lst (pa_cons pe_bl (pa_cons pe_non (pa_cons pe_str (pa_cons (pe_lst (pa_cons pe_int pa_nil)) (pa_cons pe_bl pa_nil)))))) pa_nil))))
      (pss_one (ps_if (PW.pt (pw_or (pt_cmpR (op_neO T.eq_Statement (ok_Statement___eq__ T) (hr.mono (by decide)) T.b_Statement___eq__ pass0) (pv 7) (pe_call (ok__law_deed T) (hr.mono (by decide)) (by rfl) T.g__law_deed T.F__law_deed.kp T.b__law_deed .nil pass0 (pa_cons (pv 5) pa_nil)) (nomark _)) (pw_or1 (pt_cmpR (op_neD hr.units) (pe_callG hgd (ok__law_told T) (hr.mono (by decide)) (by rfl) T.g__law_told T.F__law_told.kp T.b__law_told pass0 (pa_cons (pv 7) (pa_cons (pv 11) pa_nil))) (pe_tup (pa_cons pe_str (pa_cons (pe_callB (call_reprG hgd hr.units) (by rfl) T.m_repr bb_repr (pa_cons (pv 11) pa_nil)) (pa_cons pe_bl pa_nil)))) (nomark _))))) (pss_one (ps_ret pe_bl)) pss_nil)))))))))))
      (pss_one (ps_ret (pe_cmpR (op_eqO T.eq_Statement (ok_Statement___eq__ T) (hr.mono (by decide)) T.b_Statement___eq__ pass0) (pe_meth (StX.pe_makeR T.M_Statement (ok_Statement___init__ T) (hr.mono (by decide)) (by rfl) T.g_Statement passC (pa_cons pe_str pa_nil)) T.cl_Statement T.me_Statement_moved (ok_Statement_moved T) (hr.mono (by decide)) T.b_Statement_moved .nil passC (pa_cons pe_int pa_nil)) (StX.pe_makeR T.M_Statement (ok_Statement___init__ T) (hr.mono (by decide)) (by rfl) T.g_Statement passC (pa_cons pe_str pa_nil)) (nomark _)))))), ?_⟩
    have no : ∀ (nm : Str) (g so : V), (sf nm g so).lookup ("moved" : Str) = none := fun nm g so => by first | rfl | kernel_rfl
    refine ⟨_, rfl, a, ns, rfl, hS, hl, fun s L H1 hs s1 S1 => ?_⟩
    refine ⟨8, rfl, by decide, by decide, for_range (lo := 0) (n := 8) (fun i σ H' => (∃ v2 v3 v4 v5 v6 v7 v8 v9 v10 v11, σ = [some (.ref a), some (.ref s), v2, v3, v4, v5, v6, v7, v8, v9, v10, v11]) ∧ Src H' s L) ⟨⟨_, _, _, _, _, _, _, _, _, _, rfl⟩, S1⟩ ?_ ?_⟩
    · rintro i σ H1 hi ⟨⟨v2, v3, v4, v5, v6, v7, v8, v9, v10, v11, rfl⟩, S1⟩
      -- rows, goal
      refine ⟨_, rfl, s, L, 3, 6, rfl, S1, by decide, by decide, by decide, by decide, fun ro H2 hro k2 S2 R2 => ?_⟩
      refine ⟨_, rfl, _, rfl, s, L, ro, 9, rfl, S2, R2, by decide, by decide, fun t nm o H3 a1 a2 a3 o1 o2 ht k3 S3 h3 => ⟨by show 2 ≤ sizeLine; decide, fun p0 hp0 => ?_⟩⟩
      have R3 := R2.kp k3
      refine ⟨_, rfl, s, L, 2, rfl, S3.new hp0, by decide, by decide, fun d H4 d0 d1 k4 S4 => ?_⟩
      have k34 := (Kp.new (o := .lst [V.non, .ref t]) hp0).trans k4
      have R4 := R3.kp k34
      obtain ⟨g, tg, hat, hg, tgood⟩ : ∃ (g : V) (tg : Option Rf), atI [V.non, .ref t] d = some g ∧ Dp K H4 g (tgD tg) ∧ ∀ r ∈ tg.toList, goodRf r := by
        have hd : d = 0 ∨ d = 1 := by omega
        rcases hd with rfl | rfl
        · exact ⟨.non, none, rfl, .non, fun r hr => by cases hr⟩
        · refine ⟨.ref t, some (nm, o), rfl, ?_, fun r hr => ?_⟩
          · exact dp_kp k34 S3 (refD (nm, o)) _ (refD_noL _) (.tup (SqT.of h3) (.cons (.str _) (.cons (.int _) .nil)))
          · cases List.mem_singleton.mp hr
            exact ⟨isNm_of (z := nm) a1 a2 (show nm.length ≤ 8 by omega), o1, o2⟩
      refine ⟨p0, _, d, g, rfl, rfl, SqL.of (k4 _ _ upd_same (S3.fresh hp0).1), hat, ?_⟩
      -- deed
      refine ⟨_, rfl, s, L, 1, rfl, S4, by decide, fun r ws H5 hr0 wl wp wnd k5 S5 h5 => ?_⟩
      obtain ⟨wd, rfl⟩ : ∃ w, ws = [w] := List.length_eq_one_iff.mp wl
      obtain ⟨nl, m1, m6⟩ := wp wd (List.mem_singleton.mpr rfl)
      have hnm : isNm wd = true := isNm_of nl m1 (by omega)
      refine ⟨r, _, 0, _, rfl, rfl, SqL.of h5, rfl, _, rfl, _, rfl, s, L, 4, rfl, S5, by decide, by decide, fun d2 H6 e0 e1 k6 S6 => ?_⟩
      have R6 := (R4.kp k5).kp k6
      obtain ⟨m, rfl⟩ := Int.eq_ofNat_of_zero_le e0
      have hm3 : m ≤ 3 := by omega
      refine ⟨_, rfl, by omega, by omega, fun D hD => ?_⟩
      have nD := S6.fresh hD
      refine lc_range (lo := 0) (n := m) (fun i H' => Kp s H6 H' ∧ Src H' s L ∧ ∃ (us : List V) (so : List Rf), H' D = some (.lst us) ∧ so.length = i ∧ DpAll K H' us (so.map refD) ∧ ∀ r ∈ so, goodRf r) ⟨Kp.new hD, S6.new hD, [], [], upd_same, rfl, .nil, fun r hr => by cases hr⟩ ?_ ?_
      · rintro j H' hj ⟨k7, S7, us, so, d7, hl7, hus, sgood⟩
        refine ⟨rfl, _, rfl, _, rfl, s, L, ro, 9, rfl, S7, R6.kp k7, by decide, by decide, fun t nm o H8 b1 b2 b3 o3 o4 ht8 k8 S8 h8 => ?_⟩
        have d8 := k8 _ _ d7 nD.1
        have hul := dpAll_len hus
        rw [List.length_map] at hul
        refine ⟨us, d8, sz_lt (by omega), (k7.trans k8).mut hD, S8.mut nD, us ++ [.ref t], so ++ [(nm, o)], upd_same, ?_, ?_, ?_⟩
        · rw [List.length_append, hl7]
          rfl
        · have e2 : (so ++ [(nm, o)]).map refD = so.map refD ++ [refD (nm, o)] := by rw [List.map_append]; rfl
          rw [e2]
          refine dpAll_kpl Kp.self d8 _ _ ?_ (dpAll_app (dpAll_kp k8 S7 _ _ (refs_noL so) hus) (.cons (.tup (SqT.of h8) (.cons (.str _) (.cons (.int _) .nil))) .nil))
          rw [← e2]
          exact refs_noL _
        · intro r hr
          rcases List.mem_append.mp hr with h | h
          · exact sgood r h
          · cases List.mem_singleton.mp h
            exact ⟨isNm_of (z := nm) b1 b2 (show nm.length ≤ 8 by omega), o3, o4⟩
      rintro H7 ⟨k7, S7, us, so, d7, hl7, hus, sgood⟩
      have hg7 := dp_kp k7 S6 _ _ (tgD_noL tg) (dp_kp k6 S5 _ _ (tgD_noL tg) (dp_kp k5 S4 _ _ (tgD_noL tg) hg))
      have hlen : so.length ≤ 3 := by omega
      have good : ∀ r ∈ allR tg so, goodRf r := fun r hr => by
        rcases List.mem_append.mp hr with h | h
        · exact sgood r h
        · exact tgood r h
      refine ⟨by show 3 ≤ sizeLine; decide, fun dd hdd => ?_⟩
      have ndd := S7.fresh hdd
      have S8 := S7.new (o := .lst [V.str wd, g, .ref D]) hdd
      have sN := Same.new (o := .lst [V.str wd, g, .ref D]) hdd
      have D8 : DeedAt K (upd H7 dd (.lst [V.str wd, g, .ref D])) s dd wd tg so := ⟨g, D, us, upd_same, ndd.1, nD.1, dp_same sN _ _ hg7, sN _ _ d7, dpAll_same sN _ _ hus⟩
      clear hg7 sN hus d7 hg k34 R6 R4 R3 R2 k7
      -- made
      refine ⟨_, rfl, s, dd, wd, tg, so, rfl, D8, hnm, hlen, good, fun p H9 hp s9 st9 => ?_⟩
      have S9 := S8.same s9
      have D9 := D8.same s9
      -- by, more
      refine ⟨_, rfl, s, L, 51, rfl, S9, by decide, by decide, fun b' H10 b0 b1 k10 S10 => ⟨_, _, rfl, rfl, _, rfl, s, L, 7, rfl, S10, by decide, by decide, fun m' H11 m0 m1' k11 S11 => ⟨_, _, rfl, rfl, _, _, rfl, ?_⟩⟩⟩
      have st11 := (st9.kp k10 S9).kp k11 S10
      have D11 := (D9.kp k10 S9).kp k11 S10
      have hb51 : PyData.strOk (Str.ofString (toString (b' - 25))) = true := by
        obtain ⟨n, rfl⟩ := Int.eq_ofNat_of_zero_le b0
        exact small25 n (by omega)
      have hlog : (b' - 25).natAbs.log2 < 1920 := by
        have h : (b' - 25).natAbs < 2 ^ 10 := by omega
        exact Nat.lt_of_lt_of_le (PySem.Flt.log2_lt_of (by decide) h) (by decide)
      obtain ⟨b, eb⟩ : ∃ b, b' - 25 = b := ⟨_, rfl⟩
      obtain ⟨mo, em⟩ : ∃ b, m' - 3 = b := ⟨_, rfl⟩
      show (fun (x y : Int) => tSeq _ _ _ [some (V.ref a), some (.ref s), some (.int (0 + (i : Int))), some (.ref ro), some g, some (.ref dd), v6, some (.ref p), some (.int x), some (.int y), v10, v11] H11) (b' - 25) (m' - 3)
      rw [eb, em]
      rw [eb] at hb51 hlog
      clear eb em b0 b1 m0 m1' st9 D9 D8
      show tSeq _ _ _ [some (V.ref a), some (.ref s), some (.int (0 + (i : Int))), some (.ref ro), some g, some (.ref dd), v6, some (.ref p), some (.int b), some (.int mo), v10, v11] H11
      -- after
      refine ⟨_, rfl, _, rfl, s, L, dd, wd, tg, so, b, rfl, S11, D11, hlen, fun da H12 hda s12 DA => ?_⟩
      have S12 := S11.same s12
      have D12 := D11.same s12
      have st12 := st11.same s12
      have hlen' : (so.map (mvR b)).length ≤ 3 := by rw [List.length_map]; exact hlen
      refine ⟨fun σ H' => (∃ v2 v3 v4 v6 v8 v9 v10 v11, σ = [some (.ref a), some (.ref s), v2, v3, v4, some (.ref dd), v6, some (.ref p), v8, v9, v10, v11]) ∧ Src H' s L ∧ StAt A K H' p wd tg so ∧ DeedAt K H' s dd wd tg so, ?_, ?_⟩
      · refine ⟨_, rfl, s, da, wd, _, _, rfl, DA, hlen', fun H13 s13 => ⟨_, rfl, ?_⟩⟩
        rw [fits_mov]
        have S13 := S12.same s13
        have D13 := D12.same s13
        have st13 := st12.same s13
        have DA13 := DA.same s13
        cases c : movOk (.int b) (allR tg so) with
        | true =>
          have good' := good_mv good c
          have c0 : movOk (.int (-b)) (allR (tg.map (mvR b)) (so.map (mvR b))) = true := by
            rw [ok_mv, Int.add_right_neg]
            exact ok_0 good
          have nmA : ∀ r ∈ allR tg so, isNm r.1 = true := fun r hr => (good r hr).1
          have nmB : ∀ r ∈ allR (tg.map (mvR b)) (so.map (mvR b)), isNm r.1 = true := fun r hr => (good' r hr).1
          -- told(made, by) != deed(after) or made.moved(by).moved(-by) != made
          refine ⟨_, rfl, _, rfl, p, wd, tg, so, .int b, .int, rfl, st13, hnm, hlen, good, .int _, fun z => (by rw [c] at z; cases z), fun b2 eb2 _ r H14 hr14 s14 st14 => ?_⟩
          cases eb2
          refine ⟨_, rfl, s, da, wd, _, _, rfl, DA13.same s14, hnm, hlen', good', fun p2 H15 hp2 s15 st15 => ?_⟩
          have st14' := st14.same s15
          obtain ⟨dx1, g1, t1, i1, _⟩ := id st14'
          obtain ⟨dx2, g2, t2, i2, _⟩ := id st15
          refine ⟨r, dx1, _, rfl, i1, .inl ⟨p2, dx2, _, rfl, i2⟩, r, p2, wd, wd, _, _, _, _, rfl, st14', st15, nmB, nmB, _, rfl, _, rfl, ?_⟩
          refine ifF (by simp) ?_
          have s1315 := s14.trans s15
          have st15p := st13.same s1315
          obtain ⟨dx3, g3, t3, i3, _⟩ := id st15p
          refine ⟨_, rfl, p, dx3, _, rfl, i3, no _ _ _, _, rfl, p, wd, tg, so, .int b, .int, rfl, st15p, hnm, hlen, good, .int _, fun z => (by rw [c] at z; cases z), fun b2 eb2 _ r1 H16 hr16 s16 st16 => ?_⟩
          cases eb2
          obtain ⟨dx4, g4, t4, i4, _⟩ := id st16
          refine ⟨r1, dx4, _, rfl, i4, no _ _ _, _, rfl, _, rfl, r1, wd, _, _, .int (-b), .int, rfl, st16, hnm, hlen', good', .int _, fun z => (by rw [c0] at z; cases z), fun b2 eb2 _ r2 H17 hr17 s17 st17 => ?_⟩
          cases eb2
          rw [tg_mv, so_mv, Int.add_right_neg, tg_0, so_0] at st17
          have st17p := (st15p.same s16).same s17
          obtain ⟨dx5, g5, t5, i5, _⟩ := id st17
          obtain ⟨dx6, g6, t6, i6, _⟩ := id st17p
          refine ⟨_, rfl, r2, dx5, _, rfl, i5, .inl ⟨p, dx6, _, rfl, i6⟩, r2, p, wd, wd, _, _, _, _, rfl, st17, st17p, nmA, nmA, _, rfl, _, rfl, ?_⟩
          refine ifF (by simp) ?_
          have sA := (s1315.trans s16).trans s17
          have S17 := S13.same sA
          have D17 := D13.same sA
          -- fits(moved(after, more)) and ..
          refine ⟨_, rfl, _, rfl, s, L, da, wd, _, _, mo, rfl, S17, DA13.same sA, hlen', fun db H18 hdb s18 DB => ?_⟩
          refine ⟨s, db, wd, _, _, rfl, DB, by rw [List.length_map]; exact hlen', fun H19 s19 => ⟨_, rfl, ?_⟩⟩
          rw [fits_mov]
          have s1719 := s18.trans s19
          have st19 := st17p.same s1719
          have S19 := S17.same s1719
          have D19 := D17.same s1719
          cases c2 : movOk (.int mo) (allR (tg.map (mvR b)) (so.map (mvR b))) with
          | false => exact ⟨⟨_, _, _, _, _, _, _, _, rfl⟩, S19, st19, D19⟩
          | true =>
            have c3 : movOk (.int (b + mo)) (allR tg so) = true := by rw [← ok_mv]; exact c2
            have nmC : ∀ r ∈ allR (tg.map (mvR (b + mo))) (so.map (mvR (b + mo))), isNm r.1 = true := fun r hr => (good_mv good c3 r hr).1
            obtain ⟨dx7, g7, t7, i7, _⟩ := id st19
            refine ⟨_, rfl, p, dx7, _, rfl, i7, no _ _ _, _, rfl, p, wd, tg, so, .int b, .int, rfl, st19, hnm, hlen, good, .int _, fun z => (by rw [c] at z; cases z), fun b2 eb2 _ r3 H20 hr20 s20 st20 => ?_⟩
            cases eb2
            obtain ⟨dx8, g8, t8, i8, _⟩ := id st20
            refine ⟨r3, dx8, _, rfl, i8, no _ _ _, _, rfl, r3, wd, _, _, .int mo, .int, rfl, st20, hnm, hlen', good', .int _, fun z => (by rw [c2] at z; cases z), fun b2 eb2 _ r4 H21 hr21 s21 st21 => ?_⟩
            cases eb2
            rw [tg_mv, so_mv] at st21
            have st21p := (st19.same s20).same s21
            obtain ⟨dx9, g9, t9, i9, _⟩ := id st21p
            refine ⟨_, rfl, p, dx9, _, rfl, i9, no _ _ _, _, rfl, _, rfl, _, _, rfl, rfl, p, wd, tg, so, .int (b + mo), .int, rfl, st21p, hnm, hlen, good, .int _, fun z => (by rw [c3] at z; cases z), fun b2 eb2 _ r5 H22 hr22 s22 st22 => ?_⟩
            cases eb2
            have st22' := st21.same s22
            obtain ⟨dxa, ga, ta, ia, _⟩ := id st22'
            obtain ⟨dxb, gb, tb, ib, _⟩ := id st22
            refine ⟨r4, dxa, _, rfl, ia, .inl ⟨r5, dxb, _, rfl, ib⟩, r4, r5, wd, wd, _, _, _, _, rfl, st22', st22, nmC, nmC, _, rfl, _, rfl, ?_⟩
            have sB := (s20.trans s21).trans s22
            exact ifF (by simp) ⟨⟨_, _, _, _, _, _, _, _, rfl⟩, S19.same sB, st19.same sB, D19.same sB⟩
        | false =>
          refine ⟨_, rfl, _, rfl, p, wd, tg, so, .int b, .int, rfl, st13, hnm, hlen, good, .int _, fun _ => ⟨_, .sc (.int hlog), fun t H14 ht s14 h14 => ?_⟩, fun b2 eb2 z => by cases eb2; rw [c] at z; cases z⟩
          refine ⟨_, rfl, _, _, rfl, .sc (.int hlog), by show 3 ≤ sizeLine; decide, fun t2 ht2 => ?_⟩
          have sT := Same.new (o := .tup [V.str "number", .str (Str.ofString (toString b)), .bl true]) ht2
          refine ⟨toldD (Str.ofString (toString b)), toldD (Str.ofString (toString b)), toldD_dp (sT _ _ h14), toldD_dp upd_same, toldD_shaped hb51, toldD_shaped hb51, _, rfl, ?_⟩
          rw [toldD_eqv]
          have sA := s14.trans sT
          exact ifF rfl ⟨⟨_, _, _, _, _, _, _, _, rfl⟩, S13.same sA, st13.same sA, D13.same sA⟩
      · rintro σ H14 ⟨⟨v2, v3, v4, v6, v8, v9, v10, v11, rfl⟩, S14, st14, D14⟩
        -- odd
        refine ⟨_, rfl, by show 1 ≤ sizeLine; decide, fun l1 hl1 => ⟨by show 5 ≤ sizeLine; decide, fun l2 hl2 => ?_⟩⟩
        have S15 := S14.new (o := .lst [V.int 1]) hl1
        have S16 := S15.new (o := .lst [V.bl true, .non, .str "1", .ref l1, .bl false]) hl2
        have sA := (Same.new (o := .lst [V.int 1]) hl1).trans (Same.new (o := .lst [V.bl true, .non, .str "1", .ref l1, .bl false]) hl2)
        have hl1' := (Same.new (o := .lst [V.bl true, .non, .str "1", .ref l1, .bl false]) hl2) _ _ (upd_same (H := H14) (a := l1) (o := .lst [V.int 1]))
        refine ⟨s, L, _, rfl, S16, .inl ⟨l2, _, rfl, (S15.fresh hl2).1, SqL.of upd_same, by show 0 < 5; decide, by show 5 ≤ 100000; decide, fun x hx H17 k17 S17 => ?_⟩⟩
        have st17 := (st14.same sA).kp k17 S16
        have D17 := (D14.same sA).kp k17 S16
        have hl17 := k17 _ _ hl1' (S14.fresh hl1).1
        obtain ⟨z, k, hkx, rx, mx, zx⟩ : ∃ (z : Str) (k : Kd), Kn K H17 x k ∧ ReprD K H17 x z ∧ movOk x (allR tg so) = false ∧ PyData.strOk z = true := by
          simp only [List.mem_cons, List.not_mem_nil, or_false] at hx
          rcases hx with rfl | rfl | rfl | rfl | rfl
          · exact ⟨_, _, .bl _, .sc (.bl _), rfl, by decide +kernel⟩
          · exact ⟨_, _, .non, .sc .non, rfl, by decide +kernel⟩
          · exact ⟨_, _, .str (by decide), .sc (.str (by decide +kernel)), rfl, by decide +kernel⟩
          · exact ⟨_, _, .lst (SqL.of hl17), .dt (d := .list [.int 1]) (.lst (SqL.of hl17) (.cons (.int 1) .nil)) (by decide +kernel) (by decide +kernel) (by decide +kernel) (by decide +kernel), rfl, by decide +kernel⟩
          · exact ⟨_, _, .bl _, .sc (.bl _), rfl, by decide +kernel⟩
        have nmA : ∀ r ∈ allR tg so, isNm r.1 = true := fun r hr => (good r hr).1
        -- made != deed(deed) or told(made, odd) != ..
        refine ⟨_, rfl, _, rfl, s, dd, wd, tg, so, rfl, D17, hnm, hlen, good, fun p2 H18 hp2 s18 st18 => ?_⟩
        have st18p := st17.same s18
        obtain ⟨dx1, g1, t1, i1, _⟩ := id st18p
        obtain ⟨dx2, g2, t2, i2, _⟩ := id st18
        refine ⟨p, dx1, _, rfl, i1, .inl ⟨p2, dx2, _, rfl, i2⟩, p, p2, wd, wd, _, _, _, _, rfl, st18p, st18, nmA, nmA, _, rfl, _, rfl, ?_⟩
        refine ifF (by simp) ?_
        refine ⟨_, rfl, _, rfl, p, wd, tg, so, x, k, rfl, st18p, hnm, hlen, good, hkx.same s18, fun _ => ⟨z, rx.same s18, fun t H19 ht s19 h19 => ?_⟩, fun b2 eb2 z => by rw [mx] at z; cases z⟩
        refine ⟨_, rfl, _, _, rfl, (rx.same s18).same s19, by show 3 ≤ sizeLine; decide, fun t2 ht2 => ?_⟩
        have sT := Same.new (o := .tup [V.str "number", .str z, .bl true]) ht2
        refine ⟨toldD z, toldD z, toldD_dp (sT _ _ h19), toldD_dp upd_same, toldD_shaped zx, toldD_shaped zx, _, rfl, ?_⟩
        rw [toldD_eqv]
        exact ifF rfl ⟨⟨_, _, _, _, _, _, _, _, _, _, rfl⟩, ((S17.same s18).same s19).same sT⟩
    · rintro σ H1 ⟨⟨v2, v3, v4, v5, v6, v7, v8, v9, v10, v11, rfl⟩, S1⟩
      have hf : isNm "f" = true := by decide +kernel
      have e0 : allR none [] = [] := rfl
      have gd : ∀ r ∈ allR none [], goodRf r := fun r hr => by cases hr
      have nm0 : ∀ r ∈ allR none [], isNm r.1 = true := fun r hr => by cases hr
      intro x dx hx hdx ne
      refine .inr ⟨_, _, rfl, mk_St (tg := none) (so := []) hx hdx ne hf .non .nil gd (by decide) fun H2 s2 st2 => ⟨rfl, ?_⟩⟩
      obtain ⟨dx1, g1, t1, i1, _⟩ := id st2
      refine ⟨x, dx1, _, rfl, i1, no _ _ _, x, "f", none, [], .int 100, .int, rfl, st2, hf, by decide, gd, .int _, fun z => (by cases z), fun b2 eb2 _ r H3 hr3 s3 st3 => ?_⟩
      intro x2 dx2 hx2 hdx2 ne2
      refine .inr ⟨_, _, rfl, mk_St (tg := none) (so := []) hx2 hdx2 ne2 hf .non .nil gd (by decide) fun H4 s4 st4 => ⟨rfl, ?_⟩⟩
      have st3' := st3.same s4
      obtain ⟨dx3, g3, t3, i3, _⟩ := id st3'
      obtain ⟨dx4, g4, t4, i4, _⟩ := id st4
      refine ⟨r, dx3, _, rfl, i3, .inl ⟨x2, dx4, _, rfl, i4⟩, r, x2, "f", "f", _, _, _, _, rfl, st3', st4, nm0, nm0, ?_⟩
      exact q H4

end
theorem all_mk {w : World} {K : PySem.W.Frag} {h : Heap} {mg : Str → Option Value} {fa : Addr} (X : K.In h) (G : h.Ns mainGlobals mg) (hfa : mg "law" = some (.ref fa))
    {C_InvalidNumber i_InvalidNumber N_InvalidNumber cda_InvalidNumber cc_InvalidNumber : Addr} {nm_InvalidNumber q_InvalidNumber qu_InvalidNumber ms_InvalidNumber fl_InvalidNumber : Str} {bs_InvalidNumber bm_InvalidNumber sub_InvalidNumber : List Value} {sn_InvalidNumber : List Str} {ab_InvalidNumber : Bool} {col_InvalidNumber : Option Bool} {dd_InvalidNumber od_InvalidNumber an_InvalidNumber e1_InvalidNumber e2_InvalidNumber : Option Addr} {m0_InvalidNumber m1_InvalidNumber m2_InvalidNumber m3_InvalidNumber m5_InvalidNumber : Option Value} {oc_InvalidNumber dc_InvalidNumber pm_InvalidNumber ct_InvalidNumber f1_InvalidNumber f2_InvalidNumber : Value} {sl_InvalidNumber s1_InvalidNumber s2_InvalidNumber : Array (Option Value)} {vs_InvalidNumber : Array Value} {tf_InvalidNumber : Tok} {p1_InvalidNumber p2_InvalidNumber q1_InvalidNumber q2_InvalidNumber q3_InvalidNumber q4_InvalidNumber q5_InvalidNumber q6_InvalidNumber q7_InvalidNumber q8_InvalidNumber q9_InvalidNumber q10_InvalidNumber : Pos}
    {C_InvalidName i_InvalidName N_InvalidName cda_InvalidName cc_InvalidName : Addr} {nm_InvalidName q_InvalidName qu_InvalidName ms_InvalidName fl_InvalidName : Str} {bs_InvalidName bm_InvalidName sub_InvalidName : List Value} {sn_InvalidName : List Str} {ab_InvalidName : Bool} {col_InvalidName : Option Bool} {dd_InvalidName od_InvalidName an_InvalidName e1_InvalidName e2_InvalidName : Option Addr} {m0_InvalidName m1_InvalidName m2_InvalidName m3_InvalidName m5_InvalidName : Option Value} {oc_InvalidName dc_InvalidName pm_InvalidName ct_InvalidName f1_InvalidName f2_InvalidName : Value} {sl_InvalidName s1_InvalidName s2_InvalidName : Array (Option Value)} {vs_InvalidName : Array Value} {tf_InvalidName : Tok} {p1_InvalidName p2_InvalidName q1_InvalidName q2_InvalidName q3_InvalidName q4_InvalidName q5_InvalidName q6_InvalidName q7_InvalidName q8_InvalidName q9_InvalidName q10_InvalidName : Pos}
    {C_InvalidRef i_InvalidRef N_InvalidRef cda_InvalidRef cc_InvalidRef : Addr} {nm_InvalidRef q_InvalidRef qu_InvalidRef ms_InvalidRef fl_InvalidRef : Str} {bs_InvalidRef bm_InvalidRef sub_InvalidRef : List Value} {sn_InvalidRef : List Str} {ab_InvalidRef : Bool} {col_InvalidRef : Option Bool} {dd_InvalidRef od_InvalidRef an_InvalidRef e1_InvalidRef e2_InvalidRef : Option Addr} {m0_InvalidRef m1_InvalidRef m2_InvalidRef m3_InvalidRef m5_InvalidRef : Option Value} {oc_InvalidRef dc_InvalidRef pm_InvalidRef ct_InvalidRef f1_InvalidRef f2_InvalidRef : Value} {sl_InvalidRef s1_InvalidRef s2_InvalidRef : Array (Option Value)} {vs_InvalidRef : Array Value} {tf_InvalidRef : Tok} {p1_InvalidRef p2_InvalidRef q1_InvalidRef q2_InvalidRef q3_InvalidRef q4_InvalidRef q5_InvalidRef q6_InvalidRef q7_InvalidRef q8_InvalidRef q9_InvalidRef q10_InvalidRef : Pos}
    {C_WidthError : Addr}
    {C_Statement : Addr}
    {f_is_integer : Addr} {od_is_integer an_is_integer : Option Addr} {sl_is_integer : Array (Option Value)} {oc_is_integer kV_is_integer dc_is_integer pm_is_integer cd_is_integer ct_is_integer : Value}
    {f_is_between : Addr} {od_is_between an_is_between : Option Addr} {sl_is_between : Array (Option Value)} {oc_is_between kV_is_between dc_is_between pm_is_between cd_is_between ct_is_between : Value}
    {f_is_name : Addr} {od_is_name an_is_name : Option Addr} {sl_is_name : Array (Option Value)} {oc_is_name kV_is_name dc_is_name pm_is_name cd_is_name ct_is_name : Value}
    {f_is_offset : Addr} {od_is_offset an_is_offset : Option Addr} {sl_is_offset : Array (Option Value)} {oc_is_offset kV_is_offset dc_is_offset pm_is_offset cd_is_offset ct_is_offset : Value}
    {f_is_ref : Addr} {od_is_ref an_is_ref : Option Addr} {sl_is_ref : Array (Option Value)} {oc_is_ref kV_is_ref dc_is_ref pm_is_ref cd_is_ref ct_is_ref : Value}
    {f_Statement___init__ : Addr} {od_Statement___init__ an_Statement___init__ : Option Addr} {sl_Statement___init__ : Array (Option Value)} {oc_Statement___init__ kV_Statement___init__ dc_Statement___init__ pm_Statement___init__ cd_Statement___init__ ct_Statement___init__ : Value}
    {T_Statement___init__ : Addr} {do_Statement___init__ : Obj} {dn_Statement___init__ : Nat}
    {f_Statement_refs : Addr} {od_Statement_refs an_Statement_refs : Option Addr} {sl_Statement_refs : Array (Option Value)} {oc_Statement_refs kV_Statement_refs dc_Statement_refs pm_Statement_refs cd_Statement_refs ct_Statement_refs : Value}
    {f_Statement___eq__ : Addr} {od_Statement___eq__ an_Statement___eq__ : Option Addr} {sl_Statement___eq__ : Array (Option Value)} {oc_Statement___eq__ kV_Statement___eq__ dc_Statement___eq__ pm_Statement___eq__ cd_Statement___eq__ ct_Statement___eq__ : Value}
    {f_Statement_moved : Addr} {od_Statement_moved an_Statement_moved : Option Addr} {sl_Statement_moved : Array (Option Value)} {oc_Statement_moved kV_Statement_moved dc_Statement_moved pm_Statement_moved cd_Statement_moved ct_Statement_moved : Value}
    {f__law_begin : Addr} {od__law_begin an__law_begin : Option Addr} {sl__law_begin : Array (Option Value)} {oc__law_begin kV__law_begin dc__law_begin pm__law_begin cd__law_begin ct__law_begin : Value}
    {f__law_draw : Addr} {od__law_draw an__law_draw : Option Addr} {sl__law_draw : Array (Option Value)} {oc__law_draw kV__law_draw dc__law_draw pm__law_draw cd__law_draw ct__law_draw : Value}
    {f__law_pick : Addr} {od__law_pick an__law_pick : Option Addr} {sl__law_pick : Array (Option Value)} {oc__law_pick kV__law_pick dc__law_pick pm__law_pick cd__law_pick ct__law_pick : Value}
    {f__law_mixed : Addr} {od__law_mixed an__law_mixed : Option Addr} {sl__law_mixed : Array (Option Value)} {oc__law_mixed kV__law_mixed dc__law_mixed pm__law_mixed cd__law_mixed ct__law_mixed : Value}
    {f__law_stem : Addr} {od__law_stem an__law_stem : Option Addr} {sl__law_stem : Array (Option Value)} {oc__law_stem kV__law_stem dc__law_stem pm__law_stem cd__law_stem ct__law_stem : Value}
    {f__law_names : Addr} {od__law_names an__law_names : Option Addr} {sl__law_names : Array (Option Value)} {oc__law_names kV__law_names dc__law_names pm__law_names cd__law_names ct__law_names : Value}
    {f__law_ref : Addr} {od__law_ref an__law_ref : Option Addr} {sl__law_ref : Array (Option Value)} {oc__law_ref kV__law_ref dc__law_ref pm__law_ref cd__law_ref ct__law_ref : Value}
    {f__law_rows : Addr} {od__law_rows an__law_rows : Option Addr} {sl__law_rows : Array (Option Value)} {oc__law_rows kV__law_rows dc__law_rows pm__law_rows cd__law_rows ct__law_rows : Value}
    {f__law_deed : Addr} {od__law_deed an__law_deed : Option Addr} {sl__law_deed : Array (Option Value)} {oc__law_deed kV__law_deed dc__law_deed pm__law_deed cd__law_deed ct__law_deed : Value}
    {f__law_moved : Addr} {od__law_moved an__law_moved : Option Addr} {sl__law_moved : Array (Option Value)} {oc__law_moved kV__law_moved dc__law_moved pm__law_moved cd__law_moved ct__law_moved : Value}
    {f__law_told : Addr} {od__law_told an__law_told : Option Addr} {sl__law_told : Array (Option Value)} {oc__law_told kV__law_told dc__law_told pm__law_told cd__law_told ct__law_told : Value}
    {f__law_fits : Addr} {od__law_fits an__law_fits : Option Addr} {sl__law_fits : Array (Option Value)} {oc__law_fits kV__law_fits dc__law_fits pm__law_fits cd__law_fits ct__law_fits : Value}
    {f_law : Addr} {od_law an_law : Option Addr} {sl_law : Array (Option Value)} {oc_law kV_law dc_law pm_law cd_law ct_law : Value}
    {t_LETTERS : Tok}
    {t_MOST_LETTERS : Tok}
    {t_MOST_OFFSET : Tok}
    {t_MOST_SOURCES : Tok}
    (opq0 : PySem.W.nsIn K cStatics "thirdparty.any" = some none)
    (sup0 : PySem.W.nsIn K mainGlobals "super" = some none)
    (nsup0 : (PRG.main.scope.names.lookup ("super" : Str)).isSome = false)
    (aC_InvalidNumber : PySem.W.nsIn K mainGlobals "InvalidNumber" = some (some (.ref C_InvalidNumber)))
    (xL_InvalidNumber : K.lookup C_InvalidNumber = some (excClassObj nm_InvalidNumber q_InvalidNumber C_InvalidNumber N_InvalidNumber bs_InvalidNumber bm_InvalidNumber true sn_InvalidNumber sub_InvalidNumber ab_InvalidNumber col_InvalidNumber dd_InvalidNumber m0_InvalidNumber m1_InvalidNumber m2_InvalidNumber m3_InvalidNumber m5_InvalidNumber "ValueError.__new__"))
    (rf_InvalidNumber : PySem.HandSPX.refsVE bm_InvalidNumber = true)
    (sa_InvalidNumber : PySem.W.findIn K (.ref C_InvalidNumber) "__setattr__" = some (some (.builtin "object.__setattr__")))
    (ga_InvalidNumber : PySem.W.findIn K (.ref C_InvalidNumber) "__getattribute__" = some (some (.builtin "BaseException.__getattribute__")))
    (gg_InvalidNumber : PySem.W.findIn K (.ref C_InvalidNumber) "__getattr__" = some none)
    (nb_InvalidNumber : PySem.W.findIn K (.ref C_InvalidNumber) "value" = some none)
    (ai_InvalidNumber : PySem.W.findIn K (.ref C_InvalidNumber) "__init__" = some (some (.ref i_InvalidNumber)))
    (ti_InvalidNumber : PySem.W.typeIn K (.ref i_InvalidNumber) = some (.type "function"))
    (li_InvalidNumber : K.lookup i_InvalidNumber = some ⟨oc_InvalidNumber, od_InvalidNumber, .func (PySem.W.ksFn "__init__" qu_InvalidNumber (PySem.ErX.iA "value" p1_InvalidNumber p2_InvalidNumber) (PySem.ErX.iB "value" ms_InvalidNumber q1_InvalidNumber q2_InvalidNumber q3_InvalidNumber q4_InvalidNumber q5_InvalidNumber q6_InvalidNumber q7_InvalidNumber q8_InvalidNumber q9_InvalidNumber q10_InvalidNumber) (PySem.ErX.iS "value") .none .none dc_InvalidNumber pm_InvalidNumber an_InvalidNumber (.ref cda_InvalidNumber) ct_InvalidNumber cc_InvalidNumber), sl_InvalidNumber⟩)
    (ci_InvalidNumber : PySem.W.codeIn K (.ref cda_InvalidNumber) qu_InvalidNumber = true)
    (ld_InvalidNumber : K.lookup cda_InvalidNumber = some ⟨f1_InvalidNumber, e1_InvalidNumber, .fields vs_InvalidNumber, s1_InvalidNumber⟩)
    (vs2_InvalidNumber : vs_InvalidNumber[2]? = some (.str fl_InvalidNumber tf_InvalidNumber))
    (hf_InvalidNumber : ((PRG.main.file : Str) == fl_InvalidNumber) = true)
    (lc_InvalidNumber : K.lookup cc_InvalidNumber = some ⟨f2_InvalidNumber, e2_InvalidNumber, .cell (some (.ref C_InvalidNumber)), s2_InvalidNumber⟩)
    (ev_InvalidNumber : PySem.ErX.SupEv ms_InvalidNumber q1_InvalidNumber q2_InvalidNumber q3_InvalidNumber q4_InvalidNumber q5_InvalidNumber)
    (kC_InvalidNumber : PySem.W.keepIn K (.ref C_InvalidNumber) = true)
    (eC_InvalidNumber : PySem.W.subIn K (.ref C_InvalidNumber) (.type "BaseException") = some true)
    (vC_InvalidNumber : PySem.W.subIn K (.ref C_InvalidNumber) (.type "ValueError") = some true)
    (tC_InvalidNumber : PySem.W.typeIn K (.ref C_InvalidNumber) = some (.type "type"))
    (hC_InvalidNumber : PySem.W.hasDictIn K C_InvalidNumber = true)
    (iC_InvalidNumber : PySem.W.isClsIn K C_InvalidNumber = true)
    (sC_InvalidNumber : PySem.W.subIn K (.ref C_InvalidNumber) (.ref C_InvalidNumber) = some true)
    (me_InvalidNumber : PySem.W.mroIn K C_InvalidNumber (.ref C_InvalidNumber) = some true)
    (al_InvalidNumber : PySem.W.ks_superIn K C_InvalidNumber C_InvalidNumber "__init__" = some (some (.builtin "ValueError.__init__")))
    (aC_InvalidName : PySem.W.nsIn K mainGlobals "InvalidName" = some (some (.ref C_InvalidName)))
    (xL_InvalidName : K.lookup C_InvalidName = some (excClassObj nm_InvalidName q_InvalidName C_InvalidName N_InvalidName bs_InvalidName bm_InvalidName true sn_InvalidName sub_InvalidName ab_InvalidName col_InvalidName dd_InvalidName m0_InvalidName m1_InvalidName m2_InvalidName m3_InvalidName m5_InvalidName "ValueError.__new__"))
    (rf_InvalidName : PySem.HandSPX.refsVE bm_InvalidName = true)
    (sa_InvalidName : PySem.W.findIn K (.ref C_InvalidName) "__setattr__" = some (some (.builtin "object.__setattr__")))
    (ga_InvalidName : PySem.W.findIn K (.ref C_InvalidName) "__getattribute__" = some (some (.builtin "BaseException.__getattribute__")))
    (gg_InvalidName : PySem.W.findIn K (.ref C_InvalidName) "__getattr__" = some none)
    (nb_InvalidName : PySem.W.findIn K (.ref C_InvalidName) "value" = some none)
    (ai_InvalidName : PySem.W.findIn K (.ref C_InvalidName) "__init__" = some (some (.ref i_InvalidName)))
    (ti_InvalidName : PySem.W.typeIn K (.ref i_InvalidName) = some (.type "function"))
    (li_InvalidName : K.lookup i_InvalidName = some ⟨oc_InvalidName, od_InvalidName, .func (PySem.W.ksFn "__init__" qu_InvalidName (PySem.ErX.iA "value" p1_InvalidName p2_InvalidName) (PySem.ErX.iB "value" ms_InvalidName q1_InvalidName q2_InvalidName q3_InvalidName q4_InvalidName q5_InvalidName q6_InvalidName q7_InvalidName q8_InvalidName q9_InvalidName q10_InvalidName) (PySem.ErX.iS "value") .none .none dc_InvalidName pm_InvalidName an_InvalidName (.ref cda_InvalidName) ct_InvalidName cc_InvalidName), sl_InvalidName⟩)
    (ci_InvalidName : PySem.W.codeIn K (.ref cda_InvalidName) qu_InvalidName = true)
    (ld_InvalidName : K.lookup cda_InvalidName = some ⟨f1_InvalidName, e1_InvalidName, .fields vs_InvalidName, s1_InvalidName⟩)
    (vs2_InvalidName : vs_InvalidName[2]? = some (.str fl_InvalidName tf_InvalidName))
    (hf_InvalidName : ((PRG.main.file : Str) == fl_InvalidName) = true)
    (lc_InvalidName : K.lookup cc_InvalidName = some ⟨f2_InvalidName, e2_InvalidName, .cell (some (.ref C_InvalidName)), s2_InvalidName⟩)
    (ev_InvalidName : PySem.ErX.SupEv ms_InvalidName q1_InvalidName q2_InvalidName q3_InvalidName q4_InvalidName q5_InvalidName)
    (kC_InvalidName : PySem.W.keepIn K (.ref C_InvalidName) = true)
    (eC_InvalidName : PySem.W.subIn K (.ref C_InvalidName) (.type "BaseException") = some true)
    (vC_InvalidName : PySem.W.subIn K (.ref C_InvalidName) (.type "ValueError") = some true)
    (tC_InvalidName : PySem.W.typeIn K (.ref C_InvalidName) = some (.type "type"))
    (hC_InvalidName : PySem.W.hasDictIn K C_InvalidName = true)
    (iC_InvalidName : PySem.W.isClsIn K C_InvalidName = true)
    (sC_InvalidName : PySem.W.subIn K (.ref C_InvalidName) (.ref C_InvalidName) = some true)
    (me_InvalidName : PySem.W.mroIn K C_InvalidName (.ref C_InvalidName) = some true)
    (al_InvalidName : PySem.W.ks_superIn K C_InvalidName C_InvalidName "__init__" = some (some (.builtin "ValueError.__init__")))
    (aC_InvalidRef : PySem.W.nsIn K mainGlobals "InvalidRef" = some (some (.ref C_InvalidRef)))
    (xL_InvalidRef : K.lookup C_InvalidRef = some (excClassObj nm_InvalidRef q_InvalidRef C_InvalidRef N_InvalidRef bs_InvalidRef bm_InvalidRef true sn_InvalidRef sub_InvalidRef ab_InvalidRef col_InvalidRef dd_InvalidRef m0_InvalidRef m1_InvalidRef m2_InvalidRef m3_InvalidRef m5_InvalidRef "ValueError.__new__"))
    (rf_InvalidRef : PySem.HandSPX.refsVE bm_InvalidRef = true)
    (sa_InvalidRef : PySem.W.findIn K (.ref C_InvalidRef) "__setattr__" = some (some (.builtin "object.__setattr__")))
    (ga_InvalidRef : PySem.W.findIn K (.ref C_InvalidRef) "__getattribute__" = some (some (.builtin "BaseException.__getattribute__")))
    (gg_InvalidRef : PySem.W.findIn K (.ref C_InvalidRef) "__getattr__" = some none)
    (nb_InvalidRef : PySem.W.findIn K (.ref C_InvalidRef) "value" = some none)
    (ai_InvalidRef : PySem.W.findIn K (.ref C_InvalidRef) "__init__" = some (some (.ref i_InvalidRef)))
    (ti_InvalidRef : PySem.W.typeIn K (.ref i_InvalidRef) = some (.type "function"))
    (li_InvalidRef : K.lookup i_InvalidRef = some ⟨oc_InvalidRef, od_InvalidRef, .func (PySem.W.ksFn "__init__" qu_InvalidRef (PySem.ErX.iA "value" p1_InvalidRef p2_InvalidRef) (PySem.ErX.iB "value" ms_InvalidRef q1_InvalidRef q2_InvalidRef q3_InvalidRef q4_InvalidRef q5_InvalidRef q6_InvalidRef q7_InvalidRef q8_InvalidRef q9_InvalidRef q10_InvalidRef) (PySem.ErX.iS "value") .none .none dc_InvalidRef pm_InvalidRef an_InvalidRef (.ref cda_InvalidRef) ct_InvalidRef cc_InvalidRef), sl_InvalidRef⟩)
    (ci_InvalidRef : PySem.W.codeIn K (.ref cda_InvalidRef) qu_InvalidRef = true)
    (ld_InvalidRef : K.lookup cda_InvalidRef = some ⟨f1_InvalidRef, e1_InvalidRef, .fields vs_InvalidRef, s1_InvalidRef⟩)
    (vs2_InvalidRef : vs_InvalidRef[2]? = some (.str fl_InvalidRef tf_InvalidRef))
    (hf_InvalidRef : ((PRG.main.file : Str) == fl_InvalidRef) = true)
    (lc_InvalidRef : K.lookup cc_InvalidRef = some ⟨f2_InvalidRef, e2_InvalidRef, .cell (some (.ref C_InvalidRef)), s2_InvalidRef⟩)
    (ev_InvalidRef : PySem.ErX.SupEv ms_InvalidRef q1_InvalidRef q2_InvalidRef q3_InvalidRef q4_InvalidRef q5_InvalidRef)
    (kC_InvalidRef : PySem.W.keepIn K (.ref C_InvalidRef) = true)
    (eC_InvalidRef : PySem.W.subIn K (.ref C_InvalidRef) (.type "BaseException") = some true)
    (vC_InvalidRef : PySem.W.subIn K (.ref C_InvalidRef) (.type "ValueError") = some true)
    (tC_InvalidRef : PySem.W.typeIn K (.ref C_InvalidRef) = some (.type "type"))
    (hC_InvalidRef : PySem.W.hasDictIn K C_InvalidRef = true)
    (iC_InvalidRef : PySem.W.isClsIn K C_InvalidRef = true)
    (sC_InvalidRef : PySem.W.subIn K (.ref C_InvalidRef) (.ref C_InvalidRef) = some true)
    (me_InvalidRef : PySem.W.mroIn K C_InvalidRef (.ref C_InvalidRef) = some true)
    (al_InvalidRef : PySem.W.ks_superIn K C_InvalidRef C_InvalidRef "__init__" = some (some (.builtin "ValueError.__init__")))
    (aC_WidthError : PySem.W.nsIn K mainGlobals "WidthError" = some (some (.ref C_WidthError)))
    (xa_InvalidNumber : PySem.W.findIn K (.ref C_InvalidNumber) "__class__" = some (some (.builtin "object.__class__")))
    (xn_InvalidNumber : PySem.W.specialIn K (.builtin "object.__class__") "__get__" = some (some (.builtin "getset_descriptor.__get__")))
    (xt_InvalidNumber : PySem.W.takesIn K (.builtin "object.__class__") = some true)
    (xm_InvalidNumber : PySem.W.mroIn K C_InvalidNumber (.type "object") = some true)
    (ko_InvalidNumber_WidthError : PySem.W.kitOne K (.ref C_InvalidNumber) (.ref C_WidthError) = some true)
    (aC_Statement : PySem.W.nsIn K mainGlobals "Statement" = some (some (.ref C_Statement)))
    (pg_Statement : PySem.W.plainGet K C_Statement Str.empty = true)
    (hd_Statement : PySem.W.hasDictIn K C_Statement = true)
    (po_Statement : PySem.W.plainOver K C_Statement = true)
    (sa_Statement : PySem.W.findIn K (.ref C_Statement) "__setattr__" = some (some (.builtin "object.__setattr__")))
    (nf_Statement_kept_name : PySem.W.findIn K (.ref C_Statement) "kept_name" = some none)
    (nf_Statement_kept_target : PySem.W.findIn K (.ref C_Statement) "kept_target" = some none)
    (nf_Statement_kept_sources : PySem.W.findIn K (.ref C_Statement) "kept_sources" = some none)
    (mk_Statement : PySem.W.makesIn K C_Statement = true)
    (kc_Statement : PySem.W.keepIn K (.ref C_Statement) = true)
    (ic_Statement : PySem.W.findIn K (.ref C_Statement) "__class__" = some (some (.builtin "object.__class__")))
    (in_Statement : PySem.W.specialIn K (.builtin "object.__class__") "__get__" = some (some (.builtin "getset_descriptor.__get__")))
    (ik_Statement : PySem.W.takesIn K (.builtin "object.__class__") = some true)
    (im_Statement : PySem.W.mroIn K C_Statement (.type "object") = some true)
    (iq0_Statement : PySem.W.kitOne K (.ref C_Statement) (.type "int") = some false)
    (iq1_Statement : PySem.W.kitOne K (.ref C_Statement) (.type "bool") = some false)
    (iq2_Statement : PySem.W.kitOne K (.ref C_Statement) (.type "str") = some false)
    (iq3_Statement : PySem.W.kitOne K (.ref C_Statement) (.type "tuple") = some false)
    (iq4_Statement : PySem.W.kitOne K (.ref C_Statement) (.type "list") = some false)
    (iq5_Statement : PySem.W.kitOne K (.ref C_Statement) (.type "dict") = some false)
    (ne_Statement : PySem.W.findIn K (.ref C_Statement) "__ne__" = some (some (.builtin "object.__ne__")))
    (a_is_integer : PySem.W.nsIn K mainGlobals "is_integer" = some (some (.ref f_is_integer)))
    (l_is_integer : K.lookup f_is_integer = some ⟨oc_is_integer, od_is_integer, .func (PySem.W.fnOf "is_integer" "is_integer" (defArgs s_is_integer) (defBody s_is_integer) (defScope s_is_integer) .none kV_is_integer dc_is_integer pm_is_integer an_is_integer cd_is_integer ct_is_integer), sl_is_integer⟩)
    (c_is_integer : PySem.W.codeIn K cd_is_integer "is_integer" = true)
    (k_is_integer : PySem.W.keepIn K (.ref f_is_integer) = true)
    (a_is_between : PySem.W.nsIn K mainGlobals "is_between" = some (some (.ref f_is_between)))
    (l_is_between : K.lookup f_is_between = some ⟨oc_is_between, od_is_between, .func (PySem.W.fnOf "is_between" "is_between" (defArgs s_is_between) (defBody s_is_between) (defScope s_is_between) .none kV_is_between dc_is_between pm_is_between an_is_between cd_is_between ct_is_between), sl_is_between⟩)
    (c_is_between : PySem.W.codeIn K cd_is_between "is_between" = true)
    (k_is_between : PySem.W.keepIn K (.ref f_is_between) = true)
    (a_is_name : PySem.W.nsIn K mainGlobals "is_name" = some (some (.ref f_is_name)))
    (l_is_name : K.lookup f_is_name = some ⟨oc_is_name, od_is_name, .func (PySem.W.fnOf "is_name" "is_name" (defArgs s_is_name) (defBody s_is_name) (defScope s_is_name) .none kV_is_name dc_is_name pm_is_name an_is_name cd_is_name ct_is_name), sl_is_name⟩)
    (c_is_name : PySem.W.codeIn K cd_is_name "is_name" = true)
    (k_is_name : PySem.W.keepIn K (.ref f_is_name) = true)
    (a_is_offset : PySem.W.nsIn K mainGlobals "is_offset" = some (some (.ref f_is_offset)))
    (l_is_offset : K.lookup f_is_offset = some ⟨oc_is_offset, od_is_offset, .func (PySem.W.fnOf "is_offset" "is_offset" (defArgs s_is_offset) (defBody s_is_offset) (defScope s_is_offset) .none kV_is_offset dc_is_offset pm_is_offset an_is_offset cd_is_offset ct_is_offset), sl_is_offset⟩)
    (c_is_offset : PySem.W.codeIn K cd_is_offset "is_offset" = true)
    (k_is_offset : PySem.W.keepIn K (.ref f_is_offset) = true)
    (a_is_ref : PySem.W.nsIn K mainGlobals "is_ref" = some (some (.ref f_is_ref)))
    (l_is_ref : K.lookup f_is_ref = some ⟨oc_is_ref, od_is_ref, .func (PySem.W.fnOf "is_ref" "is_ref" (defArgs s_is_ref) (defBody s_is_ref) (defScope s_is_ref) .none kV_is_ref dc_is_ref pm_is_ref an_is_ref cd_is_ref ct_is_ref), sl_is_ref⟩)
    (c_is_ref : PySem.W.codeIn K cd_is_ref "is_ref" = true)
    (k_is_ref : PySem.W.keepIn K (.ref f_is_ref) = true)
    (a_Statement___init__ : PySem.W.findIn K (.ref C_Statement) "__init__" = some (some (.ref f_Statement___init__)))
    (i_Statement___init__ : PySem.W.isFn K (.ref f_Statement___init__) = true)
    (l_Statement___init__ : K.lookup f_Statement___init__ = some ⟨oc_Statement___init__, od_Statement___init__, .func (PySem.W.fnOf "__init__" "Statement.__init__" (defArgs s_Statement___init__) (defBody s_Statement___init__) (defScope s_Statement___init__) (.ref T_Statement___init__) kV_Statement___init__ dc_Statement___init__ pm_Statement___init__ an_Statement___init__ cd_Statement___init__ ct_Statement___init__), sl_Statement___init__⟩)
    (c_Statement___init__ : PySem.W.codeIn K cd_Statement___init__ "Statement.__init__" = true)
    (k_Statement___init__ : PySem.W.keepIn K (.ref f_Statement___init__) = true)
    (ld_Statement___init__ : K.lookup T_Statement___init__ = some do_Statement___init__)
    (lv_Statement___init__ : do_Statement___init__.data = .seq #[.none] dn_Statement___init__)
    (a_Statement_refs : PySem.W.findIn K (.ref C_Statement) "refs" = some (some (.ref f_Statement_refs)))
    (i_Statement_refs : PySem.W.isFn K (.ref f_Statement_refs) = true)
    (l_Statement_refs : K.lookup f_Statement_refs = some ⟨oc_Statement_refs, od_Statement_refs, .func (PySem.W.fnOf "refs" "Statement.refs" (defArgs s_Statement_refs) (defBody s_Statement_refs) (defScope s_Statement_refs) .none kV_Statement_refs dc_Statement_refs pm_Statement_refs an_Statement_refs cd_Statement_refs ct_Statement_refs), sl_Statement_refs⟩)
    (c_Statement_refs : PySem.W.codeIn K cd_Statement_refs "Statement.refs" = true)
    (k_Statement_refs : PySem.W.keepIn K (.ref f_Statement_refs) = true)
    (a_Statement___eq__ : PySem.W.findIn K (.ref C_Statement) "__eq__" = some (some (.ref f_Statement___eq__)))
    (i_Statement___eq__ : PySem.W.isFn K (.ref f_Statement___eq__) = true)
    (l_Statement___eq__ : K.lookup f_Statement___eq__ = some ⟨oc_Statement___eq__, od_Statement___eq__, .func (PySem.W.fnOf "__eq__" "Statement.__eq__" (defArgs s_Statement___eq__) (defBody s_Statement___eq__) (defScope s_Statement___eq__) .none kV_Statement___eq__ dc_Statement___eq__ pm_Statement___eq__ an_Statement___eq__ cd_Statement___eq__ ct_Statement___eq__), sl_Statement___eq__⟩)
    (c_Statement___eq__ : PySem.W.codeIn K cd_Statement___eq__ "Statement.__eq__" = true)
    (k_Statement___eq__ : PySem.W.keepIn K (.ref f_Statement___eq__) = true)
    (a_Statement_moved : PySem.W.findIn K (.ref C_Statement) "moved" = some (some (.ref f_Statement_moved)))
    (i_Statement_moved : PySem.W.isFn K (.ref f_Statement_moved) = true)
    (l_Statement_moved : K.lookup f_Statement_moved = some ⟨oc_Statement_moved, od_Statement_moved, .func (PySem.W.fnOf "moved" "Statement.moved" (defArgs s_Statement_moved) (defBody s_Statement_moved) (defScope s_Statement_moved) .none kV_Statement_moved dc_Statement_moved pm_Statement_moved an_Statement_moved cd_Statement_moved ct_Statement_moved), sl_Statement_moved⟩)
    (c_Statement_moved : PySem.W.codeIn K cd_Statement_moved "Statement.moved" = true)
    (k_Statement_moved : PySem.W.keepIn K (.ref f_Statement_moved) = true)
    (a__law_begin : PySem.W.nsIn K mainGlobals "_law_begin" = some (some (.ref f__law_begin)))
    (l__law_begin : K.lookup f__law_begin = some ⟨oc__law_begin, od__law_begin, .func (PySem.W.fnOf "_law_begin" "_law_begin" (defArgs s__law_begin) (defBody s__law_begin) (defScope s__law_begin) .none kV__law_begin dc__law_begin pm__law_begin an__law_begin cd__law_begin ct__law_begin), sl__law_begin⟩)
    (c__law_begin : PySem.W.codeIn K cd__law_begin "_law_begin" = true)
    (k__law_begin : PySem.W.keepIn K (.ref f__law_begin) = true)
    (a__law_draw : PySem.W.nsIn K mainGlobals "_law_draw" = some (some (.ref f__law_draw)))
    (l__law_draw : K.lookup f__law_draw = some ⟨oc__law_draw, od__law_draw, .func (PySem.W.fnOf "_law_draw" "_law_draw" (defArgs s__law_draw) (defBody s__law_draw) (defScope s__law_draw) .none kV__law_draw dc__law_draw pm__law_draw an__law_draw cd__law_draw ct__law_draw), sl__law_draw⟩)
    (c__law_draw : PySem.W.codeIn K cd__law_draw "_law_draw" = true)
    (k__law_draw : PySem.W.keepIn K (.ref f__law_draw) = true)
    (a__law_pick : PySem.W.nsIn K mainGlobals "_law_pick" = some (some (.ref f__law_pick)))
    (l__law_pick : K.lookup f__law_pick = some ⟨oc__law_pick, od__law_pick, .func (PySem.W.fnOf "_law_pick" "_law_pick" (defArgs s__law_pick) (defBody s__law_pick) (defScope s__law_pick) .none kV__law_pick dc__law_pick pm__law_pick an__law_pick cd__law_pick ct__law_pick), sl__law_pick⟩)
    (c__law_pick : PySem.W.codeIn K cd__law_pick "_law_pick" = true)
    (k__law_pick : PySem.W.keepIn K (.ref f__law_pick) = true)
    (a__law_mixed : PySem.W.nsIn K mainGlobals "_law_mixed" = some (some (.ref f__law_mixed)))
    (l__law_mixed : K.lookup f__law_mixed = some ⟨oc__law_mixed, od__law_mixed, .func (PySem.W.fnOf "_law_mixed" "_law_mixed" (defArgs s__law_mixed) (defBody s__law_mixed) (defScope s__law_mixed) .none kV__law_mixed dc__law_mixed pm__law_mixed an__law_mixed cd__law_mixed ct__law_mixed), sl__law_mixed⟩)
    (c__law_mixed : PySem.W.codeIn K cd__law_mixed "_law_mixed" = true)
    (k__law_mixed : PySem.W.keepIn K (.ref f__law_mixed) = true)
    (a__law_stem : PySem.W.nsIn K mainGlobals "_law_stem" = some (some (.ref f__law_stem)))
    (l__law_stem : K.lookup f__law_stem = some ⟨oc__law_stem, od__law_stem, .func (PySem.W.fnOf "_law_stem" "_law_stem" (defArgs s__law_stem) (defBody s__law_stem) (defScope s__law_stem) .none kV__law_stem dc__law_stem pm__law_stem an__law_stem cd__law_stem ct__law_stem), sl__law_stem⟩)
    (c__law_stem : PySem.W.codeIn K cd__law_stem "_law_stem" = true)
    (k__law_stem : PySem.W.keepIn K (.ref f__law_stem) = true)
    (a__law_names : PySem.W.nsIn K mainGlobals "_law_names" = some (some (.ref f__law_names)))
    (l__law_names : K.lookup f__law_names = some ⟨oc__law_names, od__law_names, .func (PySem.W.fnOf "_law_names" "_law_names" (defArgs s__law_names) (defBody s__law_names) (defScope s__law_names) .none kV__law_names dc__law_names pm__law_names an__law_names cd__law_names ct__law_names), sl__law_names⟩)
    (c__law_names : PySem.W.codeIn K cd__law_names "_law_names" = true)
    (k__law_names : PySem.W.keepIn K (.ref f__law_names) = true)
    (a__law_ref : PySem.W.nsIn K mainGlobals "_law_ref" = some (some (.ref f__law_ref)))
    (l__law_ref : K.lookup f__law_ref = some ⟨oc__law_ref, od__law_ref, .func (PySem.W.fnOf "_law_ref" "_law_ref" (defArgs s__law_ref) (defBody s__law_ref) (defScope s__law_ref) .none kV__law_ref dc__law_ref pm__law_ref an__law_ref cd__law_ref ct__law_ref), sl__law_ref⟩)
    (c__law_ref : PySem.W.codeIn K cd__law_ref "_law_ref" = true)
    (k__law_ref : PySem.W.keepIn K (.ref f__law_ref) = true)
    (a__law_rows : PySem.W.nsIn K mainGlobals "_law_rows" = some (some (.ref f__law_rows)))
    (l__law_rows : K.lookup f__law_rows = some ⟨oc__law_rows, od__law_rows, .func (PySem.W.fnOf "_law_rows" "_law_rows" (defArgs s__law_rows) (defBody s__law_rows) (defScope s__law_rows) .none kV__law_rows dc__law_rows pm__law_rows an__law_rows cd__law_rows ct__law_rows), sl__law_rows⟩)
    (c__law_rows : PySem.W.codeIn K cd__law_rows "_law_rows" = true)
    (k__law_rows : PySem.W.keepIn K (.ref f__law_rows) = true)
    (a__law_deed : PySem.W.nsIn K mainGlobals "_law_deed" = some (some (.ref f__law_deed)))
    (l__law_deed : K.lookup f__law_deed = some ⟨oc__law_deed, od__law_deed, .func (PySem.W.fnOf "_law_deed" "_law_deed" (defArgs s__law_deed) (defBody s__law_deed) (defScope s__law_deed) .none kV__law_deed dc__law_deed pm__law_deed an__law_deed cd__law_deed ct__law_deed), sl__law_deed⟩)
    (c__law_deed : PySem.W.codeIn K cd__law_deed "_law_deed" = true)
    (k__law_deed : PySem.W.keepIn K (.ref f__law_deed) = true)
    (a__law_moved : PySem.W.nsIn K mainGlobals "_law_moved" = some (some (.ref f__law_moved)))
    (l__law_moved : K.lookup f__law_moved = some ⟨oc__law_moved, od__law_moved, .func (PySem.W.fnOf "_law_moved" "_law_moved" (defArgs s__law_moved) (defBody s__law_moved) (defScope s__law_moved) .none kV__law_moved dc__law_moved pm__law_moved an__law_moved cd__law_moved ct__law_moved), sl__law_moved⟩)
    (c__law_moved : PySem.W.codeIn K cd__law_moved "_law_moved" = true)
    (k__law_moved : PySem.W.keepIn K (.ref f__law_moved) = true)
    (a__law_told : PySem.W.nsIn K mainGlobals "_law_told" = some (some (.ref f__law_told)))
    (l__law_told : K.lookup f__law_told = some ⟨oc__law_told, od__law_told, .func (PySem.W.fnOf "_law_told" "_law_told" (defArgs s__law_told) (defBody s__law_told) (defScope s__law_told) .none kV__law_told dc__law_told pm__law_told an__law_told cd__law_told ct__law_told), sl__law_told⟩)
    (c__law_told : PySem.W.codeIn K cd__law_told "_law_told" = true)
    (k__law_told : PySem.W.keepIn K (.ref f__law_told) = true)
    (a__law_fits : PySem.W.nsIn K mainGlobals "_law_fits" = some (some (.ref f__law_fits)))
    (l__law_fits : K.lookup f__law_fits = some ⟨oc__law_fits, od__law_fits, .func (PySem.W.fnOf "_law_fits" "_law_fits" (defArgs s__law_fits) (defBody s__law_fits) (defScope s__law_fits) .none kV__law_fits dc__law_fits pm__law_fits an__law_fits cd__law_fits ct__law_fits), sl__law_fits⟩)
    (c__law_fits : PySem.W.codeIn K cd__law_fits "_law_fits" = true)
    (k__law_fits : PySem.W.keepIn K (.ref f__law_fits) = true)
    (a_law : PySem.W.nsIn K mainGlobals "law" = some (some (.ref f_law)))
    (l_law : K.lookup f_law = some ⟨oc_law, od_law, .func (PySem.W.fnOf "law" "law" (defArgs s_law) (defBody s_law) (defScope s_law) .none kV_law dc_law pm_law an_law cd_law ct_law), sl_law⟩)
    (c_law : PySem.W.codeIn K cd_law "law" = true)
    (k_law : PySem.W.keepIn K (.ref f_law) = true)
    (mm_all : PySem.W.nsIn K mainGlobals "all" = some none)
    (mm_bool : PySem.W.nsIn K mainGlobals "bool" = some none)
    (mm_int : PySem.W.nsIn K mainGlobals "int" = some none)
    (mm_isinstance : PySem.W.nsIn K mainGlobals "isinstance" = some none)
    (mm_len : PySem.W.nsIn K mainGlobals "len" = some none)
    (mm_list : PySem.W.nsIn K mainGlobals "list" = some none)
    (mm_range : PySem.W.nsIn K mainGlobals "range" = some none)
    (mm_repr : PySem.W.nsIn K mainGlobals "repr" = some none)
    (mm_str : PySem.W.nsIn K mainGlobals "str" = some none)
    (mm_tuple : PySem.W.nsIn K mainGlobals "tuple" = some none)
    (q_LETTERS : PySem.W.nsIn K mainGlobals "LETTERS" = some (some (.str "abcdefghijklmnopqrstuvwxyz" t_LETTERS)))
    (q_MOST_LETTERS : PySem.W.nsIn K mainGlobals "MOST_LETTERS" = some (some (.int 8 t_MOST_LETTERS)))
    (q_MOST_OFFSET : PySem.W.nsIn K mainGlobals "MOST_OFFSET" = some (some (.int 9 t_MOST_OFFSET)))
    (q_MOST_SOURCES : PySem.W.nsIn K mainGlobals "MOST_SOURCES" = some (some (.int 3 t_MOST_SOURCES)))
    : ∃ fd : FuncData, (∀ (s : Shared) (v : Value), BindsTo s fd ⟨[v], []⟩ [("script", v)]) ∧ ∀ base : Heap, K.In base → base.Ns mainGlobals mg → FnG PRG w K mg base CX0 12 fa fd ["script"] (sp_law K) := by
  have e := hfa.symm.trans (PySem.W.mg_of X G a_law)
  cases e
  let A : Ad := { C_InvalidNumber := C_InvalidNumber, i_InvalidNumber := i_InvalidNumber, C_InvalidName := C_InvalidName, i_InvalidName := i_InvalidName, C_InvalidRef := C_InvalidRef, i_InvalidRef := i_InvalidRef, C_WidthError := C_WidthError, C_Statement := C_Statement, a_is_integer := f_is_integer, fd_is_integer := (PySem.W.fnOf "is_integer" "is_integer" (defArgs s_is_integer) (defBody s_is_integer) (defScope s_is_integer) .none kV_is_integer dc_is_integer pm_is_integer an_is_integer cd_is_integer ct_is_integer), a_is_between := f_is_between, fd_is_between := (PySem.W.fnOf "is_between" "is_between" (defArgs s_is_between) (defBody s_is_between) (defScope s_is_between) .none kV_is_between dc_is_between pm_is_between an_is_between cd_is_between ct_is_between), a_is_name := f_is_name, fd_is_name := (PySem.W.fnOf "is_name" "is_name" (defArgs s_is_name) (defBody s_is_name) (defScope s_is_name) .none kV_is_name dc_is_name pm_is_name an_is_name cd_is_name ct_is_name), a_is_offset := f_is_offset, fd_is_offset := (PySem.W.fnOf "is_offset" "is_offset" (defArgs s_is_offset) (defBody s_is_offset) (defScope s_is_offset) .none kV_is_offset dc_is_offset pm_is_offset an_is_offset cd_is_offset ct_is_offset), a_is_ref := f_is_ref, fd_is_ref := (PySem.W.fnOf "is_ref" "is_ref" (defArgs s_is_ref) (defBody s_is_ref) (defScope s_is_ref) .none kV_is_ref dc_is_ref pm_is_ref an_is_ref cd_is_ref ct_is_ref), a_Statement___init__ := f_Statement___init__, fd_Statement___init__ := (PySem.W.fnOf "__init__" "Statement.__init__" (defArgs s_Statement___init__) (defBody s_Statement___init__) (defScope s_Statement___init__) (.ref T_Statement___init__) kV_Statement___init__ dc_Statement___init__ pm_Statement___init__ an_Statement___init__ cd_Statement___init__ ct_Statement___init__), a_Statement_refs := f_Statement_refs, fd_Statement_refs := (PySem.W.fnOf "refs" "Statement.refs" (defArgs s_Statement_refs) (defBody s_Statement_refs) (defScope s_Statement_refs) .none kV_Statement_refs dc_Statement_refs pm_Statement_refs an_Statement_refs cd_Statement_refs ct_Statement_refs), a_Statement___eq__ := f_Statement___eq__, fd_Statement___eq__ := (PySem.W.fnOf "__eq__" "Statement.__eq__" (defArgs s_Statement___eq__) (defBody s_Statement___eq__) (defScope s_Statement___eq__) .none kV_Statement___eq__ dc_Statement___eq__ pm_Statement___eq__ an_Statement___eq__ cd_Statement___eq__ ct_Statement___eq__), a_Statement_moved := f_Statement_moved, fd_Statement_moved := (PySem.W.fnOf "moved" "Statement.moved" (defArgs s_Statement_moved) (defBody s_Statement_moved) (defScope s_Statement_moved) .none kV_Statement_moved dc_Statement_moved pm_Statement_moved an_Statement_moved cd_Statement_moved ct_Statement_moved), a__law_begin := f__law_begin, fd__law_begin := (PySem.W.fnOf "_law_begin" "_law_begin" (defArgs s__law_begin) (defBody s__law_begin) (defScope s__law_begin) .none kV__law_begin dc__law_begin pm__law_begin an__law_begin cd__law_begin ct__law_begin), a__law_draw := f__law_draw, fd__law_draw := (PySem.W.fnOf "_law_draw" "_law_draw" (defArgs s__law_draw) (defBody s__law_draw) (defScope s__law_draw) .none kV__law_draw dc__law_draw pm__law_draw an__law_draw cd__law_draw ct__law_draw), a__law_pick := f__law_pick, fd__law_pick := (PySem.W.fnOf "_law_pick" "_law_pick" (defArgs s__law_pick) (defBody s__law_pick) (defScope s__law_pick) .none kV__law_pick dc__law_pick pm__law_pick an__law_pick cd__law_pick ct__law_pick), a__law_mixed := f__law_mixed, fd__law_mixed := (PySem.W.fnOf "_law_mixed" "_law_mixed" (defArgs s__law_mixed) (defBody s__law_mixed) (defScope s__law_mixed) .none kV__law_mixed dc__law_mixed pm__law_mixed an__law_mixed cd__law_mixed ct__law_mixed), a__law_stem := f__law_stem, fd__law_stem := (PySem.W.fnOf "_law_stem" "_law_stem" (defArgs s__law_stem) (defBody s__law_stem) (defScope s__law_stem) .none kV__law_stem dc__law_stem pm__law_stem an__law_stem cd__law_stem ct__law_stem), a__law_names := f__law_names, fd__law_names := (PySem.W.fnOf "_law_names" "_law_names" (defArgs s__law_names) (defBody s__law_names) (defScope s__law_names) .none kV__law_names dc__law_names pm__law_names an__law_names cd__law_names ct__law_names), a__law_ref := f__law_ref, fd__law_ref := (PySem.W.fnOf "_law_ref" "_law_ref" (defArgs s__law_ref) (defBody s__law_ref) (defScope s__law_ref) .none kV__law_ref dc__law_ref pm__law_ref an__law_ref cd__law_ref ct__law_ref), a__law_rows := f__law_rows, fd__law_rows := (PySem.W.fnOf "_law_rows" "_law_rows" (defArgs s__law_rows) (defBody s__law_rows) (defScope s__law_rows) .none kV__law_rows dc__law_rows pm__law_rows an__law_rows cd__law_rows ct__law_rows), a__law_deed := f__law_deed, fd__law_deed := (PySem.W.fnOf "_law_deed" "_law_deed" (defArgs s__law_deed) (defBody s__law_deed) (defScope s__law_deed) .none kV__law_deed dc__law_deed pm__law_deed an__law_deed cd__law_deed ct__law_deed), a__law_moved := f__law_moved, fd__law_moved := (PySem.W.fnOf "_law_moved" "_law_moved" (defArgs s__law_moved) (defBody s__law_moved) (defScope s__law_moved) .none kV__law_moved dc__law_moved pm__law_moved an__law_moved cd__law_moved ct__law_moved), a__law_told := f__law_told, fd__law_told := (PySem.W.fnOf "_law_told" "_law_told" (defArgs s__law_told) (defBody s__law_told) (defScope s__law_told) .none kV__law_told dc__law_told pm__law_told an__law_told cd__law_told ct__law_told), a__law_fits := f__law_fits, fd__law_fits := (PySem.W.fnOf "_law_fits" "_law_fits" (defArgs s__law_fits) (defBody s__law_fits) (defScope s__law_fits) .none kV__law_fits dc__law_fits pm__law_fits an__law_fits cd__law_fits ct__law_fits), a_law := fa, fd_law := (PySem.W.fnOf "law" "law" (defArgs s_law) (defBody s_law) (defScope s_law) .none kV_law dc_law pm_law an_law cd_law ct_law) }
  have F_is_integer' := fun_mk (st := s_is_integer) l_is_integer c_is_integer k_is_integer
  have F_is_between' := fun_mk (st := s_is_between) l_is_between c_is_between k_is_between
  have F_is_name' := fun_mk (st := s_is_name) l_is_name c_is_name k_is_name
  have F_is_offset' := fun_mk (st := s_is_offset) l_is_offset c_is_offset k_is_offset
  have F_is_ref' := fun_mk (st := s_is_ref) l_is_ref c_is_ref k_is_ref

  have F_Statement___init__' : FunD K "__init__" "Statement.__init__" (defArgs s_Statement___init__) (defBody s_Statement___init__) (defScope s_Statement___init__) [.non] [] f_Statement___init__ (PySem.W.fnOf "__init__" "Statement.__init__" (defArgs s_Statement___init__) (defBody s_Statement___init__) (defScope s_Statement___init__) (.ref T_Statement___init__) kV_Statement___init__ dc_Statement___init__ pm_Statement___init__ an_Statement___init__ cd_Statement___init__ ct_Statement___init__) := ⟨⟨_, _, _, _, _, _, _, _, _, _, rfl, l_Statement___init__, c_Statement___init__, .inr ⟨by simp, T_Statement___init__, do_Statement___init__, [.none], dn_Statement___init__, rfl, ld_Statement___init__, lv_Statement___init__, (.cons rfl .nil)⟩, .inl rfl⟩, k_Statement___init__⟩
  have F_Statement_refs' := fun_mk (st := s_Statement_refs) l_Statement_refs c_Statement_refs k_Statement_refs
  have F_Statement___eq__' := fun_mk (st := s_Statement___eq__) l_Statement___eq__ c_Statement___eq__ k_Statement___eq__
  have F_Statement_moved' := fun_mk (st := s_Statement_moved) l_Statement_moved c_Statement_moved k_Statement_moved
  have F__law_begin' := fun_mk (st := s__law_begin) l__law_begin c__law_begin k__law_begin
  have F__law_draw' := fun_mk (st := s__law_draw) l__law_draw c__law_draw k__law_draw
  have F__law_pick' := fun_mk (st := s__law_pick) l__law_pick c__law_pick k__law_pick
  have F__law_mixed' := fun_mk (st := s__law_mixed) l__law_mixed c__law_mixed k__law_mixed
  have F__law_stem' := fun_mk (st := s__law_stem) l__law_stem c__law_stem k__law_stem
  have F__law_names' := fun_mk (st := s__law_names) l__law_names c__law_names k__law_names
  have F__law_ref' := fun_mk (st := s__law_ref) l__law_ref c__law_ref k__law_ref
  have F__law_rows' := fun_mk (st := s__law_rows) l__law_rows c__law_rows k__law_rows
  have F__law_deed' := fun_mk (st := s__law_deed) l__law_deed c__law_deed k__law_deed
  have F__law_moved' := fun_mk (st := s__law_moved) l__law_moved c__law_moved k__law_moved
  have F__law_told' := fun_mk (st := s__law_told) l__law_told c__law_told k__law_told
  have F__law_fits' := fun_mk (st := s__law_fits) l__law_fits c__law_fits k__law_fits
  have F_law' := fun_mk (st := s_law) l_law c_law k_law
  have x_er_InvalidNumber : ErTxt PRG K mg "InvalidNumber" "value" A.C_InvalidNumber A.i_InvalidNumber := { gC := PySem.W.mg_of X G aC_InvalidNumber, cls := ⟨nm_InvalidNumber, q_InvalidNumber, N_InvalidNumber, bs_InvalidNumber, _, sn_InvalidNumber, sub_InvalidNumber, ab_InvalidNumber, col_InvalidNumber, dd_InvalidNumber, m0_InvalidNumber, m1_InvalidNumber, m2_InvalidNumber, m3_InvalidNumber, m5_InvalidNumber, xL_InvalidNumber, rf_InvalidNumber⟩, sa := sa_InvalidNumber, ga := ga_InvalidNumber, gg := gg_InvalidNumber, noN := nb_InvalidNumber, iC := ai_InvalidNumber, tC := ti_InvalidNumber, kC := kC_InvalidNumber, exC := eC_InvalidNumber, veC := vC_InvalidNumber, tyC := tC_InvalidNumber, hdC := hC_InvalidNumber, te := VW.exm_self eC_InvalidNumber iC_InvalidNumber tC_InvalidNumber sC_InvalidNumber, meC := me_InvalidNumber, alC := al_InvalidNumber, opq := opq0, sup := sup0, nsup := nsup0, fn := ⟨oc_InvalidNumber, od_InvalidNumber, dc_InvalidNumber, pm_InvalidNumber, an_InvalidNumber, cda_InvalidNumber, cc_InvalidNumber, ct_InvalidNumber, sl_InvalidNumber, qu_InvalidNumber, ms_InvalidNumber, p1_InvalidNumber, p2_InvalidNumber, q1_InvalidNumber, q2_InvalidNumber, q3_InvalidNumber, q4_InvalidNumber, q5_InvalidNumber, q6_InvalidNumber, q7_InvalidNumber, q8_InvalidNumber, q9_InvalidNumber, q10_InvalidNumber, f1_InvalidNumber, f2_InvalidNumber, e1_InvalidNumber, e2_InvalidNumber, vs_InvalidNumber, s1_InvalidNumber, s2_InvalidNumber, fl_InvalidNumber, tf_InvalidNumber, li_InvalidNumber, ci_InvalidNumber, ld_InvalidNumber, vs2_InvalidNumber, hf_InvalidNumber, lc_InvalidNumber, ev_InvalidNumber⟩ }
  have x_er_InvalidName : ErTxt PRG K mg "InvalidName" "value" A.C_InvalidName A.i_InvalidName := { gC := PySem.W.mg_of X G aC_InvalidName, cls := ⟨nm_InvalidName, q_InvalidName, N_InvalidName, bs_InvalidName, _, sn_InvalidName, sub_InvalidName, ab_InvalidName, col_InvalidName, dd_InvalidName, m0_InvalidName, m1_InvalidName, m2_InvalidName, m3_InvalidName, m5_InvalidName, xL_InvalidName, rf_InvalidName⟩, sa := sa_InvalidName, ga := ga_InvalidName, gg := gg_InvalidName, noN := nb_InvalidName, iC := ai_InvalidName, tC := ti_InvalidName, kC := kC_InvalidName, exC := eC_InvalidName, veC := vC_InvalidName, tyC := tC_InvalidName, hdC := hC_InvalidName, te := VW.exm_self eC_InvalidName iC_InvalidName tC_InvalidName sC_InvalidName, meC := me_InvalidName, alC := al_InvalidName, opq := opq0, sup := sup0, nsup := nsup0, fn := ⟨oc_InvalidName, od_InvalidName, dc_InvalidName, pm_InvalidName, an_InvalidName, cda_InvalidName, cc_InvalidName, ct_InvalidName, sl_InvalidName, qu_InvalidName, ms_InvalidName, p1_InvalidName, p2_InvalidName, q1_InvalidName, q2_InvalidName, q3_InvalidName, q4_InvalidName, q5_InvalidName, q6_InvalidName, q7_InvalidName, q8_InvalidName, q9_InvalidName, q10_InvalidName, f1_InvalidName, f2_InvalidName, e1_InvalidName, e2_InvalidName, vs_InvalidName, s1_InvalidName, s2_InvalidName, fl_InvalidName, tf_InvalidName, li_InvalidName, ci_InvalidName, ld_InvalidName, vs2_InvalidName, hf_InvalidName, lc_InvalidName, ev_InvalidName⟩ }
  have x_er_InvalidRef : ErTxt PRG K mg "InvalidRef" "value" A.C_InvalidRef A.i_InvalidRef := { gC := PySem.W.mg_of X G aC_InvalidRef, cls := ⟨nm_InvalidRef, q_InvalidRef, N_InvalidRef, bs_InvalidRef, _, sn_InvalidRef, sub_InvalidRef, ab_InvalidRef, col_InvalidRef, dd_InvalidRef, m0_InvalidRef, m1_InvalidRef, m2_InvalidRef, m3_InvalidRef, m5_InvalidRef, xL_InvalidRef, rf_InvalidRef⟩, sa := sa_InvalidRef, ga := ga_InvalidRef, gg := gg_InvalidRef, noN := nb_InvalidRef, iC := ai_InvalidRef, tC := ti_InvalidRef, kC := kC_InvalidRef, exC := eC_InvalidRef, veC := vC_InvalidRef, tyC := tC_InvalidRef, hdC := hC_InvalidRef, te := VW.exm_self eC_InvalidRef iC_InvalidRef tC_InvalidRef sC_InvalidRef, meC := me_InvalidRef, alC := al_InvalidRef, opq := opq0, sup := sup0, nsup := nsup0, fn := ⟨oc_InvalidRef, od_InvalidRef, dc_InvalidRef, pm_InvalidRef, an_InvalidRef, cda_InvalidRef, cc_InvalidRef, ct_InvalidRef, sl_InvalidRef, qu_InvalidRef, ms_InvalidRef, p1_InvalidRef, p2_InvalidRef, q1_InvalidRef, q2_InvalidRef, q3_InvalidRef, q4_InvalidRef, q5_InvalidRef, q6_InvalidRef, q7_InvalidRef, q8_InvalidRef, q9_InvalidRef, q10_InvalidRef, f1_InvalidRef, f2_InvalidRef, e1_InvalidRef, e2_InvalidRef, vs_InvalidRef, s1_InvalidRef, s2_InvalidRef, fl_InvalidRef, tf_InvalidRef, li_InvalidRef, ci_InvalidRef, ld_InvalidRef, vs2_InvalidRef, hf_InvalidRef, lc_InvalidRef, ev_InvalidRef⟩ }
  have x_g_WidthError : mg "WidthError" = some (.ref A.C_WidthError) := PySem.W.mg_of X G aC_WidthError
  have x_xc_InvalidNumber : ExcC K A.C_InvalidNumber := ⟨ga_InvalidNumber, gg_InvalidNumber, eC_InvalidNumber, hC_InvalidNumber, xa_InvalidNumber, xn_InvalidNumber, xt_InvalidNumber, xm_InvalidNumber⟩
  have x_ks_InvalidNumber_WidthError : PySem.W.kitOne K (.ref A.C_InvalidNumber) (.ref A.C_WidthError) = some true := ko_InvalidNumber_WidthError
  have x_g_Statement : mg "Statement" = some (.ref A.C_Statement) := PySem.W.mg_of X G aC_Statement
  have x_cl_Statement : Cls K A.C_Statement := ⟨pg_Statement, hd_Statement, po_Statement, sa_Statement⟩
  have x_n_Statement_kept_name : NoAttr K A.C_Statement "kept_name" := nf_Statement_kept_name
  have x_n_Statement_kept_target : NoAttr K A.C_Statement "kept_target" := nf_Statement_kept_target
  have x_n_Statement_kept_sources : NoAttr K A.C_Statement "kept_sources" := nf_Statement_kept_sources
  have x_M_Statement : Mk K A.C_Statement A.a_Statement___init__ := ⟨mk_Statement, a_Statement___init__, i_Statement___init__, kc_Statement⟩
  have x_oc_Statement : OwnC K A.C_Statement := ⟨⟨pg_Statement, hd_Statement, po_Statement, sa_Statement⟩, ic_Statement, in_Statement, ik_Statement, im_Statement, iq0_Statement, iq1_Statement, iq2_Statement, iq3_Statement, iq4_Statement, iq5_Statement⟩
  have x_eq_Statement : EqC K A.C_Statement A.a_Statement___eq__ := ⟨a_Statement___eq__, i_Statement___eq__, ne_Statement, im_Statement⟩
  have x_F_is_integer : Fun K "is_integer" "is_integer" s_is_integer A.a_is_integer A.fd_is_integer := F_is_integer'
  have x_b_is_integer : Binds K A.fd_is_integer ["value"] [] := (F_is_integer'.binds (ps := ["value"]) fun _ _ _ _ _ _ us hl => match us, hl with | [_], _ => rfl)
  have x_g_is_integer : mg "is_integer" = some (.ref A.a_is_integer) := PySem.W.mg_of X G a_is_integer
  have x_F_is_between : Fun K "is_between" "is_between" s_is_between A.a_is_between A.fd_is_between := F_is_between'
  have x_b_is_between : Binds K A.fd_is_between ["value", "low", "high"] [] := (F_is_between'.binds (ps := ["value", "low", "high"]) fun _ _ _ _ _ _ us hl => match us, hl with | [_, _, _], _ => rfl)
  have x_g_is_between : mg "is_between" = some (.ref A.a_is_between) := PySem.W.mg_of X G a_is_between
  have x_F_is_name : Fun K "is_name" "is_name" s_is_name A.a_is_name A.fd_is_name := F_is_name'
  have x_b_is_name : Binds K A.fd_is_name ["value"] [] := (F_is_name'.binds (ps := ["value"]) fun _ _ _ _ _ _ us hl => match us, hl with | [_], _ => rfl)
  have x_g_is_name : mg "is_name" = some (.ref A.a_is_name) := PySem.W.mg_of X G a_is_name
  have x_F_is_offset : Fun K "is_offset" "is_offset" s_is_offset A.a_is_offset A.fd_is_offset := F_is_offset'
  have x_b_is_offset : Binds K A.fd_is_offset ["value"] [] := (F_is_offset'.binds (ps := ["value"]) fun _ _ _ _ _ _ us hl => match us, hl with | [_], _ => rfl)
  have x_g_is_offset : mg "is_offset" = some (.ref A.a_is_offset) := PySem.W.mg_of X G a_is_offset
  have x_F_is_ref : Fun K "is_ref" "is_ref" s_is_ref A.a_is_ref A.fd_is_ref := F_is_ref'
  have x_b_is_ref : Binds K A.fd_is_ref ["value"] [] := (F_is_ref'.binds (ps := ["value"]) fun _ _ _ _ _ _ us hl => match us, hl with | [_], _ => rfl)
  have x_g_is_ref : mg "is_ref" = some (.ref A.a_is_ref) := PySem.W.mg_of X G a_is_ref
  have x_F_Statement___init__ : FunD K "__init__" "Statement.__init__" (defArgs s_Statement___init__) (defBody s_Statement___init__) (defScope s_Statement___init__) [.non] [] A.a_Statement___init__ A.fd_Statement___init__ := ⟨⟨_, _, _, _, _, _, _, _, _, _, rfl, l_Statement___init__, c_Statement___init__, .inr ⟨by simp, T_Statement___init__, do_Statement___init__, [.none], dn_Statement___init__, rfl, ld_Statement___init__, lv_Statement___init__, (.cons rfl .nil)⟩, .inl rfl⟩, k_Statement___init__⟩
  have x_me_Statement___init__ : Meth K A.C_Statement "__init__" A.a_Statement___init__ := ⟨a_Statement___init__, i_Statement___init__, k_Statement___init__⟩
  have x_F_Statement_refs : Fun K "refs" "Statement.refs" s_Statement_refs A.a_Statement_refs A.fd_Statement_refs := F_Statement_refs'
  have x_b_Statement_refs : Binds K A.fd_Statement_refs ["self"] [] := (F_Statement_refs'.binds (ps := ["self"]) fun _ _ _ _ _ _ us hl => match us, hl with | [_], _ => rfl)
  have x_me_Statement_refs : Meth K A.C_Statement "refs" A.a_Statement_refs := ⟨a_Statement_refs, i_Statement_refs, k_Statement_refs⟩
  have x_F_Statement___eq__ : Fun K "__eq__" "Statement.__eq__" s_Statement___eq__ A.a_Statement___eq__ A.fd_Statement___eq__ := F_Statement___eq__'
  have x_b_Statement___eq__ : Binds K A.fd_Statement___eq__ ["self", "other"] [] := (F_Statement___eq__'.binds (ps := ["self", "other"]) fun _ _ _ _ _ _ us hl => match us, hl with | [_, _], _ => rfl)
  have x_me_Statement___eq__ : Meth K A.C_Statement "__eq__" A.a_Statement___eq__ := ⟨a_Statement___eq__, i_Statement___eq__, k_Statement___eq__⟩
  have x_F_Statement_moved : Fun K "moved" "Statement.moved" s_Statement_moved A.a_Statement_moved A.fd_Statement_moved := F_Statement_moved'
  have x_b_Statement_moved : Binds K A.fd_Statement_moved ["self", "by"] [] := (F_Statement_moved'.binds (ps := ["self", "by"]) fun _ _ _ _ _ _ us hl => match us, hl with | [_, _], _ => rfl)
  have x_me_Statement_moved : Meth K A.C_Statement "moved" A.a_Statement_moved := ⟨a_Statement_moved, i_Statement_moved, k_Statement_moved⟩
  have x_F__law_begin : Fun K "_law_begin" "_law_begin" s__law_begin A.a__law_begin A.fd__law_begin := F__law_begin'
  have x_b__law_begin : Binds K A.fd__law_begin ["script"] [] := (F__law_begin'.binds (ps := ["script"]) fun _ _ _ _ _ _ us hl => match us, hl with | [_], _ => rfl)
  have x_g__law_begin : mg "_law_begin" = some (.ref A.a__law_begin) := PySem.W.mg_of X G a__law_begin
  have x_F__law_draw : Fun K "_law_draw" "_law_draw" s__law_draw A.a__law_draw A.fd__law_draw := F__law_draw'
  have x_b__law_draw : Binds K A.fd__law_draw ["source", "limit"] [] := (F__law_draw'.binds (ps := ["source", "limit"]) fun _ _ _ _ _ _ us hl => match us, hl with | [_, _], _ => rfl)
  have x_g__law_draw : mg "_law_draw" = some (.ref A.a__law_draw) := PySem.W.mg_of X G a__law_draw
  have x_F__law_pick : Fun K "_law_pick" "_law_pick" s__law_pick A.a__law_pick A.fd__law_pick := F__law_pick'
  have x_b__law_pick : Binds K A.fd__law_pick ["source", "items"] [] := (F__law_pick'.binds (ps := ["source", "items"]) fun _ _ _ _ _ _ us hl => match us, hl with | [_, _], _ => rfl)
  have x_g__law_pick : mg "_law_pick" = some (.ref A.a__law_pick) := PySem.W.mg_of X G a__law_pick
  have x_F__law_mixed : Fun K "_law_mixed" "_law_mixed" s__law_mixed A.a__law_mixed A.fd__law_mixed := F__law_mixed'
  have x_b__law_mixed : Binds K A.fd__law_mixed ["source", "items"] [] := (F__law_mixed'.binds (ps := ["source", "items"]) fun _ _ _ _ _ _ us hl => match us, hl with | [_, _], _ => rfl)
  have x_g__law_mixed : mg "_law_mixed" = some (.ref A.a__law_mixed) := PySem.W.mg_of X G a__law_mixed
  have x_F__law_stem : Fun K "_law_stem" "_law_stem" s__law_stem A.a__law_stem A.fd__law_stem := F__law_stem'
  have x_b__law_stem : Binds K A.fd__law_stem ["source"] [] := (F__law_stem'.binds (ps := ["source"]) fun _ _ _ _ _ _ us hl => match us, hl with | [_], _ => rfl)
  have x_g__law_stem : mg "_law_stem" = some (.ref A.a__law_stem) := PySem.W.mg_of X G a__law_stem
  have x_F__law_names : Fun K "_law_names" "_law_names" s__law_names A.a__law_names A.fd__law_names := F__law_names'
  have x_b__law_names : Binds K A.fd__law_names ["source", "many"] [] := (F__law_names'.binds (ps := ["source", "many"]) fun _ _ _ _ _ _ us hl => match us, hl with | [_, _], _ => rfl)
  have x_g__law_names : mg "_law_names" = some (.ref A.a__law_names) := PySem.W.mg_of X G a__law_names
  have x_F__law_ref : Fun K "_law_ref" "_law_ref" s__law_ref A.a__law_ref A.fd__law_ref := F__law_ref'
  have x_b__law_ref : Binds K A.fd__law_ref ["source", "rows", "wide"] [] := (F__law_ref'.binds (ps := ["source", "rows", "wide"]) fun _ _ _ _ _ _ us hl => match us, hl with | [_, _, _], _ => rfl)
  have x_g__law_ref : mg "_law_ref" = some (.ref A.a__law_ref) := PySem.W.mg_of X G a__law_ref
  have x_F__law_rows : Fun K "_law_rows" "_law_rows" s__law_rows A.a__law_rows A.fd__law_rows := F__law_rows'
  have x_b__law_rows : Binds K A.fd__law_rows ["source", "most", "strides"] [] := (F__law_rows'.binds (ps := ["source", "most", "strides"]) fun _ _ _ _ _ _ us hl => match us, hl with | [_, _, _], _ => rfl)
  have x_g__law_rows : mg "_law_rows" = some (.ref A.a__law_rows) := PySem.W.mg_of X G a__law_rows
  have x_F__law_deed : Fun K "_law_deed" "_law_deed" s__law_deed A.a__law_deed A.fd__law_deed := F__law_deed'
  have x_b__law_deed : Binds K A.fd__law_deed ["deed"] [] := (F__law_deed'.binds (ps := ["deed"]) fun _ _ _ _ _ _ us hl => match us, hl with | [_], _ => rfl)
  have x_g__law_deed : mg "_law_deed" = some (.ref A.a__law_deed) := PySem.W.mg_of X G a__law_deed
  have x_F__law_moved : Fun K "_law_moved" "_law_moved" s__law_moved A.a__law_moved A.fd__law_moved := F__law_moved'
  have x_b__law_moved : Binds K A.fd__law_moved ["deed", "by"] [] := (F__law_moved'.binds (ps := ["deed", "by"]) fun _ _ _ _ _ _ us hl => match us, hl with | [_, _], _ => rfl)
  have x_g__law_moved : mg "_law_moved" = some (.ref A.a__law_moved) := PySem.W.mg_of X G a__law_moved
  have x_F__law_told : Fun K "_law_told" "_law_told" s__law_told A.a__law_told A.fd__law_told := F__law_told'
  have x_b__law_told : Binds K A.fd__law_told ["made", "by"] [] := (F__law_told'.binds (ps := ["made", "by"]) fun _ _ _ _ _ _ us hl => match us, hl with | [_, _], _ => rfl)
  have x_g__law_told : mg "_law_told" = some (.ref A.a__law_told) := PySem.W.mg_of X G a__law_told
  have x_F__law_fits : Fun K "_law_fits" "_law_fits" s__law_fits A.a__law_fits A.fd__law_fits := F__law_fits'
  have x_b__law_fits : Binds K A.fd__law_fits ["deed"] [] := (F__law_fits'.binds (ps := ["deed"]) fun _ _ _ _ _ _ us hl => match us, hl with | [_], _ => rfl)
  have x_g__law_fits : mg "_law_fits" = some (.ref A.a__law_fits) := PySem.W.mg_of X G a__law_fits
  have x_F_law : Fun K "law" "law" s_law A.a_law A.fd_law := F_law'
  have x_b_law : Binds K A.fd_law ["script"] [] := (F_law'.binds (ps := ["script"]) fun _ _ _ _ _ _ us hl => match us, hl with | [_], _ => rfl)
  have x_g_law : mg "law" = some (.ref A.a_law) := PySem.W.mg_of X G a_law
  have x_m_all : mg "all" = none := PySem.W.mg_none_of X G mm_all
  have x_m_bool : mg "bool" = none := PySem.W.mg_none_of X G mm_bool
  have x_m_int : mg "int" = none := PySem.W.mg_none_of X G mm_int
  have x_m_isinstance : mg "isinstance" = none := PySem.W.mg_none_of X G mm_isinstance
  have x_m_len : mg "len" = none := PySem.W.mg_none_of X G mm_len
  have x_m_list : mg "list" = none := PySem.W.mg_none_of X G mm_list
  have x_m_range : mg "range" = none := PySem.W.mg_none_of X G mm_range
  have x_m_repr : mg "repr" = none := PySem.W.mg_none_of X G mm_repr
  have x_m_str : mg "str" = none := PySem.W.mg_none_of X G mm_str
  have x_m_tuple : mg "tuple" = none := PySem.W.mg_none_of X G mm_tuple
  have x_c_LETTERS : ∃ t, mg "LETTERS" = some (.str "abcdefghijklmnopqrstuvwxyz" t) := ⟨_, PySem.W.mg_of X G q_LETTERS⟩
  have x_c_MOST_LETTERS : ∃ t, mg "MOST_LETTERS" = some (.int 8 t) := ⟨_, PySem.W.mg_of X G q_MOST_LETTERS⟩
  have x_c_MOST_OFFSET : ∃ t, mg "MOST_OFFSET" = some (.int 9 t) := ⟨_, PySem.W.mg_of X G q_MOST_OFFSET⟩
  have x_c_MOST_SOURCES : ∃ t, mg "MOST_SOURCES" = some (.int 3 t) := ⟨_, PySem.W.mg_of X G q_MOST_SOURCES⟩
  have T : Tx PRG A K mg := { er_InvalidNumber := x_er_InvalidNumber, er_InvalidName := x_er_InvalidName, er_InvalidRef := x_er_InvalidRef, g_WidthError := x_g_WidthError, xc_InvalidNumber := x_xc_InvalidNumber, ks_InvalidNumber_WidthError := x_ks_InvalidNumber_WidthError, g_Statement := x_g_Statement, cl_Statement := x_cl_Statement, n_Statement_kept_name := x_n_Statement_kept_name, n_Statement_kept_target := x_n_Statement_kept_target, n_Statement_kept_sources := x_n_Statement_kept_sources, M_Statement := x_M_Statement, oc_Statement := x_oc_Statement, eq_Statement := x_eq_Statement, F_is_integer := x_F_is_integer, b_is_integer := x_b_is_integer, g_is_integer := x_g_is_integer, F_is_between := x_F_is_between, b_is_between := x_b_is_between, g_is_between := x_g_is_between, F_is_name := x_F_is_name, b_is_name := x_b_is_name, g_is_name := x_g_is_name, F_is_offset := x_F_is_offset, b_is_offset := x_b_is_offset, g_is_offset := x_g_is_offset, F_is_ref := x_F_is_ref, b_is_ref := x_b_is_ref, g_is_ref := x_g_is_ref, F_Statement___init__ := x_F_Statement___init__, me_Statement___init__ := x_me_Statement___init__, F_Statement_refs := x_F_Statement_refs, b_Statement_refs := x_b_Statement_refs, me_Statement_refs := x_me_Statement_refs, F_Statement___eq__ := x_F_Statement___eq__, b_Statement___eq__ := x_b_Statement___eq__, me_Statement___eq__ := x_me_Statement___eq__, F_Statement_moved := x_F_Statement_moved, b_Statement_moved := x_b_Statement_moved, me_Statement_moved := x_me_Statement_moved, F__law_begin := x_F__law_begin, b__law_begin := x_b__law_begin, g__law_begin := x_g__law_begin, F__law_draw := x_F__law_draw, b__law_draw := x_b__law_draw, g__law_draw := x_g__law_draw, F__law_pick := x_F__law_pick, b__law_pick := x_b__law_pick, g__law_pick := x_g__law_pick, F__law_mixed := x_F__law_mixed, b__law_mixed := x_b__law_mixed, g__law_mixed := x_g__law_mixed, F__law_stem := x_F__law_stem, b__law_stem := x_b__law_stem, g__law_stem := x_g__law_stem, F__law_names := x_F__law_names, b__law_names := x_b__law_names, g__law_names := x_g__law_names, F__law_ref := x_F__law_ref, b__law_ref := x_b__law_ref, g__law_ref := x_g__law_ref, F__law_rows := x_F__law_rows, b__law_rows := x_b__law_rows, g__law_rows := x_g__law_rows, F__law_deed := x_F__law_deed, b__law_deed := x_b__law_deed, g__law_deed := x_g__law_deed, F__law_moved := x_F__law_moved, b__law_moved := x_b__law_moved, g__law_moved := x_g__law_moved, F__law_told := x_F__law_told, b__law_told := x_b__law_told, g__law_told := x_g__law_told, F__law_fits := x_F__law_fits, b__law_fits := x_b__law_fits, g__law_fits := x_g__law_fits, F_law := x_F_law, b_law := x_b_law, g_law := x_g_law, m_all := x_m_all, m_bool := x_m_bool, m_int := x_m_int, m_isinstance := x_m_isinstance, m_len := x_m_len, m_list := x_m_list, m_range := x_m_range, m_repr := x_m_repr, m_str := x_m_str, m_tuple := x_m_tuple, c_LETTERS := x_c_LETTERS, c_MOST_LETTERS := x_c_MOST_LETTERS, c_MOST_OFFSET := x_c_MOST_OFFSET, c_MOST_SOURCES := x_c_MOST_SOURCES }
  exact ⟨A.fd_law, fun s v => .of_eq rfl, fun base _ _ => ok_law T⟩
theorem walk {q : Program} {loose : List Str} {XP : (Str → Option Value) → Heap → Prop} {YP : World → Heap → Prop} {d : DefRec} {K : Params → PySem.W.Frag} (hdf : d.params.defaults = [])
    (hY : ∀ (w : World) (h : Heap), YP w h → (K w.params).In h)
    (F : ∀ (w : World) (mg : Str → Option Value) (fa : Addr) (h : Heap), (K w.params).In h → h.Ns mainGlobals mg → mg d.name = some (.ref fa) →
      ∃ fd : FuncData, (∀ (s : Shared) (u : Value), BindsTo s fd ⟨[u], []⟩ [("script", u)]) ∧ ∀ base : Heap, (K w.params).In base → base.Ns mainGlobals mg → FnG PRG w (K w.params) mg base CX0 12 fa fd ["script"] (sp_law (K w.params))) :
    PySem.W.WalkO q loose XP YP PySem.Challenge.rw_vectorwidths_k05_statements_moved.row.toRowW d [] (fun f vs => PySem.call f vs) :=
  VW.walk_ofG (l := PySem.Challenge.rw_vectorwidths_k05_statements_moved) (n := 63) (k := 12) (x := "script") (CX := fun _ => CX0) (sp := fun w => sp_law (K w.params)) rfl (by decide) hdf ⟨rfl, by decide, by decide⟩ hY F (fun _ _ a ns hl _ hS => ⟨a, ns, rfl, hS, hl, fun _ => rfl⟩) fun _ _ _ _ _ z => z
end Law
open PySem PySem.W PyProof.Rows in
set_option maxRecDepth 100000 in
set_option maxHeartbeats 0 in
theorem PySem.Challenge.cw_vectorwidths_k05_statements_moved_holds : PySem.Challenge.rw_vectorwidths_k05_statements_moved.Holds := by
  w_on; o_law; k_head; (case hw => w_witness2)
  k_fill
  refine Law.walk rfl (fun w h Y => PySem.W.kIn_of Y) ?F
  case F =>
    intro w mg fa h KX G hmg
    refine' Law.all_mk KX G hmg ?opq0 ?sup0 ?nsup0 ?aC_InvalidNumber ?xL_InvalidNumber ?rf_InvalidNumber ?sa_InvalidNumber ?ga_InvalidNumber ?gg_InvalidNumber ?nb_InvalidNumber ?ai_InvalidNumber ?ti_InvalidNumber ?li_InvalidNumber ?ci_InvalidNumber ?ld_InvalidNumber ?vs2_InvalidNumber ?hf_InvalidNumber ?lc_InvalidNumber ?ev_InvalidNumber ?kC_InvalidNumber ?eC_InvalidNumber ?vC_InvalidNumber ?tC_InvalidNumber ?hC_InvalidNumber ?iC_InvalidNumber ?sC_InvalidNumber ?me_InvalidNumber ?al_InvalidNumber ?aC_InvalidName ?xL_InvalidName ?rf_InvalidName ?sa_InvalidName ?ga_InvalidName ?gg_InvalidName ?nb_InvalidName ?ai_InvalidName ?ti_InvalidName ?li_InvalidName ?ci_InvalidName ?ld_InvalidName ?vs2_InvalidName ?hf_InvalidName ?lc_InvalidName ?ev_InvalidName ?kC_InvalidName ?eC_InvalidName ?vC_InvalidName ?tC_InvalidName ?hC_InvalidName ?iC_InvalidName ?sC_InvalidName ?me_InvalidName ?al_InvalidName ?aC_InvalidRef ?xL_InvalidRef ?rf_InvalidRef ?sa_InvalidRef ?ga_InvalidRef ?gg_InvalidRef ?nb_InvalidRef ?ai_InvalidRef ?ti_InvalidRef ?li_InvalidRef ?ci_InvalidRef ?ld_InvalidRef ?vs2_InvalidRef ?hf_InvalidRef ?lc_InvalidRef ?ev_InvalidRef ?kC_InvalidRef ?eC_InvalidRef ?vC_InvalidRef ?tC_InvalidRef ?hC_InvalidRef ?iC_InvalidRef ?sC_InvalidRef ?me_InvalidRef ?al_InvalidRef ?aC_WidthError ?xa_InvalidNumber ?xn_InvalidNumber ?xt_InvalidNumber ?xm_InvalidNumber ?ko_InvalidNumber_WidthError ?aC_Statement ?pg_Statement ?hd_Statement ?po_Statement ?sa_Statement ?nf_Statement_kept_name ?nf_Statement_kept_target ?nf_Statement_kept_sources ?mk_Statement ?kc_Statement ?ic_Statement ?in_Statement ?ik_Statement ?im_Statement ?iq0_Statement ?iq1_Statement ?iq2_Statement ?iq3_Statement ?iq4_Statement ?iq5_Statement ?ne_Statement ?a_is_integer ?l_is_integer ?c_is_integer ?k_is_integer ?a_is_between ?l_is_between ?c_is_between ?k_is_between ?a_is_name ?l_is_name ?c_is_name ?k_is_name ?a_is_offset ?l_is_offset ?c_is_offset ?k_is_offset ?a_is_ref ?l_is_ref ?c_is_ref ?k_is_ref ?a_Statement___init__ ?i_Statement___init__ ?l_Statement___init__ ?c_Statement___init__ ?k_Statement___init__ ?ld_Statement___init__ ?lv_Statement___init__ ?a_Statement_refs ?i_Statement_refs ?l_Statement_refs ?c_Statement_refs ?k_Statement_refs ?a_Statement___eq__ ?i_Statement___eq__ ?l_Statement___eq__ ?c_Statement___eq__ ?k_Statement___eq__ ?a_Statement_moved ?i_Statement_moved ?l_Statement_moved ?c_Statement_moved ?k_Statement_moved ?a__law_begin ?l__law_begin ?c__law_begin ?k__law_begin ?a__law_draw ?l__law_draw ?c__law_draw ?k__law_draw ?a__law_pick ?l__law_pick ?c__law_pick ?k__law_pick ?a__law_mixed ?l__law_mixed ?c__law_mixed ?k__law_mixed ?a__law_stem ?l__law_stem ?c__law_stem ?k__law_stem ?a__law_names ?l__law_names ?c__law_names ?k__law_names ?a__law_ref ?l__law_ref ?c__law_ref ?k__law_ref ?a__law_rows ?l__law_rows ?c__law_rows ?k__law_rows ?a__law_deed ?l__law_deed ?c__law_deed ?k__law_deed ?a__law_moved ?l__law_moved ?c__law_moved ?k__law_moved ?a__law_told ?l__law_told ?c__law_told ?k__law_told ?a__law_fits ?l__law_fits ?c__law_fits ?k__law_fits ?a_law ?l_law ?c_law ?k_law ?mm_all ?mm_bool ?mm_int ?mm_isinstance ?mm_len ?mm_list ?mm_range ?mm_repr ?mm_str ?mm_tuple ?q_LETTERS ?q_MOST_LETTERS ?q_MOST_OFFSET ?q_MOST_SOURCES
    (case opq0 => k_is)
    (case sup0 => k_is)
    (case nsup0 => first | rfl | decide +kernel)
    (case aC_InvalidNumber => k_is)
    (case xL_InvalidNumber => k_is)
    (case rf_InvalidNumber => decide +kernel)
    (case sa_InvalidNumber => k_is)
    (case ga_InvalidNumber => k_is)
    (case gg_InvalidNumber => k_is)
    (case nb_InvalidNumber => k_is)
    (case ai_InvalidNumber => k_is)
    (case ti_InvalidNumber => k_is)
    (case li_InvalidNumber => k_is)
    (case ci_InvalidNumber => k_is)
    (case ld_InvalidNumber => k_is)
    (case vs2_InvalidNumber => rfl)
    (case hf_InvalidNumber => first | rfl | decide +kernel)
    (case lc_InvalidNumber => k_is)
    (case ev_InvalidNumber => exact fun env => ⟨_, rfl⟩)
    (case kC_InvalidNumber => k_is)
    (case eC_InvalidNumber => k_is)
    (case vC_InvalidNumber => k_is)
    (case tC_InvalidNumber => k_is)
    (case hC_InvalidNumber => k_is)
    (case iC_InvalidNumber => k_is)
    (case sC_InvalidNumber => first | rfl | k_is)
    (case me_InvalidNumber => first | k_is | rfl)
    (case al_InvalidNumber => ks_is)
    (case aC_InvalidName => k_is)
    (case xL_InvalidName => k_is)
    (case rf_InvalidName => decide +kernel)
    (case sa_InvalidName => k_is)
    (case ga_InvalidName => k_is)
    (case gg_InvalidName => k_is)
    (case nb_InvalidName => k_is)
    (case ai_InvalidName => k_is)
    (case ti_InvalidName => k_is)
    (case li_InvalidName => k_is)
    (case ci_InvalidName => k_is)
    (case ld_InvalidName => k_is)
    (case vs2_InvalidName => rfl)
    (case hf_InvalidName => first | rfl | decide +kernel)
    (case lc_InvalidName => k_is)
    (case ev_InvalidName => exact fun env => ⟨_, rfl⟩)
    (case kC_InvalidName => k_is)
    (case eC_InvalidName => k_is)
    (case vC_InvalidName => k_is)
    (case tC_InvalidName => k_is)
    (case hC_InvalidName => k_is)
    (case iC_InvalidName => k_is)
    (case sC_InvalidName => first | rfl | k_is)
    (case me_InvalidName => first | k_is | rfl)
    (case al_InvalidName => ks_is)
    (case aC_InvalidRef => k_is)
    (case xL_InvalidRef => k_is)
    (case rf_InvalidRef => decide +kernel)
    (case sa_InvalidRef => k_is)
    (case ga_InvalidRef => k_is)
    (case gg_InvalidRef => k_is)
    (case nb_InvalidRef => k_is)
    (case ai_InvalidRef => k_is)
    (case ti_InvalidRef => k_is)
    (case li_InvalidRef => k_is)
    (case ci_InvalidRef => k_is)
    (case ld_InvalidRef => k_is)
    (case vs2_InvalidRef => rfl)
    (case hf_InvalidRef => first | rfl | decide +kernel)
    (case lc_InvalidRef => k_is)
    (case ev_InvalidRef => exact fun env => ⟨_, rfl⟩)
    (case kC_InvalidRef => k_is)
    (case eC_InvalidRef => k_is)
    (case vC_InvalidRef => k_is)
    (case tC_InvalidRef => k_is)
    (case hC_InvalidRef => k_is)
    (case iC_InvalidRef => k_is)
    (case sC_InvalidRef => first | rfl | k_is)
    (case me_InvalidRef => first | k_is | rfl)
    (case al_InvalidRef => ks_is)
    (case aC_WidthError => k_is)
    (case xa_InvalidNumber => k_is)
    (case xn_InvalidNumber => k_is)
    (case xt_InvalidNumber => k_is)
    (case xm_InvalidNumber => k_is)
    (case ko_InvalidNumber_WidthError => first | k_is | rfl | kernel_rfl)
    (case aC_Statement => k_is)
    (case pg_Statement => k_is)
    (case hd_Statement => k_is)
    (case po_Statement => k_is)
    (case sa_Statement => k_is)
    (case nf_Statement_kept_name => k_is)
    (case nf_Statement_kept_target => k_is)
    (case nf_Statement_kept_sources => k_is)
    (case mk_Statement => k_is)
    (case kc_Statement => k_is)
    (case ic_Statement => k_is)
    (case in_Statement => k_is)
    (case ik_Statement => k_is)
    (case im_Statement => k_is)
    (case iq0_Statement => first | k_is | rfl | kernel_rfl)
    (case iq1_Statement => first | k_is | rfl | kernel_rfl)
    (case iq2_Statement => first | k_is | rfl | kernel_rfl)
    (case iq3_Statement => first | k_is | rfl | kernel_rfl)
    (case iq4_Statement => first | k_is | rfl | kernel_rfl)
    (case iq5_Statement => first | k_is | rfl | kernel_rfl)
    (case ne_Statement => k_is)
    (case a_is_integer => k_is)
    (case l_is_integer => k_is)
    (case c_is_integer => k_is)
    (case k_is_integer => k_is)
    (case a_is_between => k_is)
    (case l_is_between => k_is)
    (case c_is_between => k_is)
    (case k_is_between => k_is)
    (case a_is_name => k_is)
    (case l_is_name => k_is)
    (case c_is_name => k_is)
    (case k_is_name => k_is)
    (case a_is_offset => k_is)
    (case l_is_offset => k_is)
    (case c_is_offset => k_is)
    (case k_is_offset => k_is)
    (case a_is_ref => k_is)
    (case l_is_ref => k_is)
    (case c_is_ref => k_is)
    (case k_is_ref => k_is)
    (case a_Statement___init__ => k_is)
    (case i_Statement___init__ => k_is)
    (case l_Statement___init__ => k_is)
    (case c_Statement___init__ => k_is)
    (case k_Statement___init__ => k_is)
    (case ld_Statement___init__ => k_is)
    (case lv_Statement___init__ => rfl)
    (case a_Statement_refs => k_is)
    (case i_Statement_refs => k_is)
    (case l_Statement_refs => k_is)
    (case c_Statement_refs => k_is)
    (case k_Statement_refs => k_is)
    (case a_Statement___eq__ => k_is)
    (case i_Statement___eq__ => k_is)
    (case l_Statement___eq__ => k_is)
    (case c_Statement___eq__ => k_is)
    (case k_Statement___eq__ => k_is)
    (case a_Statement_moved => k_is)
    (case i_Statement_moved => k_is)
    (case l_Statement_moved => k_is)
    (case c_Statement_moved => k_is)
    (case k_Statement_moved => k_is)
    (case a__law_begin => k_is)
    (case l__law_begin => k_is)
    (case c__law_begin => k_is)
    (case k__law_begin => k_is)
    (case a__law_draw => k_is)
    (case l__law_draw => k_is)
    (case c__law_draw => k_is)
    (case k__law_draw => k_is)
    (case a__law_pick => k_is)
    (case l__law_pick => k_is)
    (case c__law_pick => k_is)
    (case k__law_pick => k_is)
    (case a__law_mixed => k_is)
    (case l__law_mixed => k_is)
    (case c__law_mixed => k_is)
    (case k__law_mixed => k_is)
    (case a__law_stem => k_is)
    (case l__law_stem => k_is)
    (case c__law_stem => k_is)
    (case k__law_stem => k_is)
    (case a__law_names => k_is)
    (case l__law_names => k_is)
    (case c__law_names => k_is)
    (case k__law_names => k_is)
    (case a__law_ref => k_is)
    (case l__law_ref => k_is)
    (case c__law_ref => k_is)
    (case k__law_ref => k_is)
    (case a__law_rows => k_is)
    (case l__law_rows => k_is)
    (case c__law_rows => k_is)
    (case k__law_rows => k_is)
    (case a__law_deed => k_is)
    (case l__law_deed => k_is)
    (case c__law_deed => k_is)
    (case k__law_deed => k_is)
    (case a__law_moved => k_is)
    (case l__law_moved => k_is)
    (case c__law_moved => k_is)
    (case k__law_moved => k_is)
    (case a__law_told => k_is)
    (case l__law_told => k_is)
    (case c__law_told => k_is)
    (case k__law_told => k_is)
    (case a__law_fits => k_is)
    (case l__law_fits => k_is)
    (case c__law_fits => k_is)
    (case k__law_fits => k_is)
    (case a_law => k_is)
    (case l_law => k_is)
    (case c_law => k_is)
    (case k_law => k_is)
    (case mm_all => k_is)
    (case mm_bool => k_is)
    (case mm_int => k_is)
    (case mm_isinstance => k_is)
    (case mm_len => k_is)
    (case mm_list => k_is)
    (case mm_range => k_is)
    (case mm_repr => k_is)
    (case mm_str => k_is)
    (case mm_tuple => k_is)
    (case q_LETTERS => k_is)
    (case q_MOST_LETTERS => k_is)
    (case q_MOST_OFFSET => k_is)
    (case q_MOST_SOURCES => k_is)
