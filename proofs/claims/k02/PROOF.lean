import PyProof.Rows.All
import Wide.All
import OpenK.AllK
import Wide.FinOn
import HandS.ForMost
import HandS.ForExc
import HandS.ExcSuper
import HandS.ExcField
import HandS.Property
import HandS.SlotsOwn
import HandS.Deep
import HandS.Defaults
import KE.KExcSuper
import KE.KOpsOwn
import HandS.IsInst
import HandS.Style
import HandS.Wide
import HandS.Walk
import HandS.RaiseMore
import HandS.Codes
import HandS.Star
import HandS.NoneIn
import HandS.ExcIs
import HandS.TryOnly
import HandS.TryMany
import HandS.Lambda
import HandS.EndTab
import HandS.EndOwn
import PySem.Challenge.RW_vectorwidths_k02_lines_made
set_option Elab.async false
set_option linter.all false
set_option maxRecDepth 100000
set_option maxHeartbeats 4000000
/-! what all laws share: kinds of values, the drawn source, the frame of it -/
namespace VW
open PySem PySem.Spec PyProof.Rows L2
theorem bb_len : bootBuiltins "len" = some (.builtin "len") := by decide +kernel
theorem bb_isinstance : bootBuiltins "isinstance" = some (.builtin "isinstance") := by decide +kernel
theorem bb_all : bootBuiltins "all" = some (.builtin "all") := by decide +kernel
theorem bb_any : bootBuiltins "any" = some (.builtin "any") := by decide +kernel
theorem bb_repr : bootBuiltins "repr" = some (.builtin "repr") := by decide +kernel
theorem bb_abs : bootBuiltins "abs" = some (.builtin "abs") := by decide +kernel
theorem bb_min : bootBuiltins "min" = some (.builtin "min") := by decide +kernel
theorem bb_max : bootBuiltins "max" = some (.builtin "max") := by decide +kernel
theorem bb_sorted : bootBuiltins "sorted" = some (.builtin "sorted") := by decide +kernel
theorem bb_sum : bootBuiltins "sum" = some (.builtin "sum") := by decide +kernel
theorem bb_int : bootBuiltins "int" = some (.type "int") := by decide +kernel
theorem bb_str : bootBuiltins "str" = some (.type "str") := by decide +kernel
theorem bb_bool : bootBuiltins "bool" = some (.type "bool") := by decide +kernel
theorem bb_tuple : bootBuiltins "tuple" = some (.type "tuple") := by decide +kernel
theorem bb_list : bootBuiltins "list" = some (.type "list") := by decide +kernel
theorem bb_dict : bootBuiltins "dict" = some (.type "dict") := by decide +kernel
theorem bb_ValueError : bootBuiltins "ValueError" = some (.type "ValueError") := by decide +kernel

/-! ### kinds -/
inductive Kd where
  | non | bl | int | str | lst | tup | dct | own
  deriving DecidableEq
def Kd.ty : Kd → String
  | .non => "NoneType" | .bl => "bool" | .int => "int" | .str => "str" | .lst => "list" | .tup => "tuple" | .dct => "dict" | .own => "?"
def isk (k : Kd) (T : String) : Bool := decide (k.ty = T) || (decide (k = .bl) && decide (T = "int"))
abbrev TS6 : List String := ["int", "bool", "str", "tuple", "list", "dict"]
/-- an own class whose instances are told apart from the built-in ones -/
structure OwnC (K : PySem.W.Frag) (C : Addr) : Prop where
  cl : Cls K C
  ha : PySem.W.findIn K (.ref C) "__class__" = some (some (.builtin "object.__class__"))
  hn : PySem.W.specialIn K (.builtin "object.__class__") "__get__" = some (some (.builtin "getset_descriptor.__get__"))
  htk : PySem.W.takesIn K (.builtin "object.__class__") = some true
  hm : PySem.W.mroIn K C (.type "object") = some true
  k1 : PySem.W.kitOne K (.ref C) (.type "int") = some false
  k2 : PySem.W.kitOne K (.ref C) (.type "bool") = some false
  k3 : PySem.W.kitOne K (.ref C) (.type "str") = some false
  k4 : PySem.W.kitOne K (.ref C) (.type "tuple") = some false
  k5 : PySem.W.kitOne K (.ref C) (.type "list") = some false
  k6 : PySem.W.kitOne K (.ref C) (.type "dict") = some false
inductive Kn (K : PySem.W.Frag) (H : Hp) : V → Kd → Prop
  | non : Kn K H .non .non
  | bl (b : Bool) : Kn K H (.bl b) .bl
  | int (i : Int) : Kn K H (.int i) .int
  | str {z : Str} (h : z.length ≤ sizeLine) : Kn K H (.str z) .str
  | lst {a : Addr} {xs : List V} (h : SqL K H a xs) : Kn K H (.ref a) .lst
  | tup {a : Addr} {xs : List V} (h : SqT K H a xs) : Kn K H (.ref a) .tup
  | dct {a : Addr} {kvs : List (L2.Key × V)} (h : H a = some (.dK kvs)) : Kn K H (.ref a) .dct
  | own {a C dx : Addr} {fs : List (Str × V)} (h : H a = some (.ins C dx fs)) (c : OwnC K C) : Kn K H (.ref a) .own
theorem same_t {K : PySem.W.Frag} {H H' : Hp} {a : Addr} {xs : List V} (e : Same H H') (h : SqT K H a xs) : SqT K H' a xs := by
  rcases h with (h | ⟨o, h⟩) | h
  · exact .inl (.inl (e _ _ h))
  · exact .inl (.inr ⟨o, e _ _ h⟩)
  · exact .inr h
theorem Kn.same {K : PySem.W.Frag} {H H' : Hp} {v : V} {k : Kd} (e : Same H H') (h : Kn K H v k) : Kn K H' v k := by
  cases h with
  | non => exact .non
  | bl b => exact .bl b
  | int i => exact .int i
  | str h => exact .str h
  | lst h => exact .lst (e.seq h)
  | tup h => exact .tup (same_t e h)
  | dct h => exact .dct (e _ _ h)
  | own h c => exact .own (e _ _ h) c
theorem Kn.ty {K : PySem.W.Frag} {H : Hp} {v : V} {k : Kd} (h : Kn K H v k) : ∃ t, TyX K H v t ∧ ∀ T ∈ TS6, PySem.W.kitOne K t (.type T) = some (isk k T) := by
  have kb : ∀ (k : Kd), k ≠ .own → ∀ T ∈ TS6, PySem.W.kitOne K (.type k.ty) (.type T) = some (isk k T) := by
    intro k hk T hT
    refine kit_ty ?_
    simp only [TS6, List.mem_cons, List.not_mem_nil, or_false] at hT
    cases k with
    | own => exact absurd rfl hk
    | _ => rcases hT with rfl | rfl | rfl | rfl | rfl | rfl <;> decide +kernel
  cases h with
  | non => exact ⟨_, .base .non, kb .non (by decide)⟩
  | bl b => exact ⟨_, .base (.bl b), kb .bl (by decide)⟩
  | int i => exact ⟨_, .base (.int i), kb .int (by decide)⟩
  | str h => exact ⟨_, .base (.str _), kb .str (by decide)⟩
  | lst h =>
    rcases h with (h | ⟨o, h⟩) | ⟨o, _, _, h, c, _⟩
    · exact ⟨_, .base (.lst h), kb .lst (by decide)⟩
    · exact ⟨_, .base (.frz h), kb .lst (by decide)⟩
    · exact ⟨_, .kList h c, kb .lst (by decide)⟩
  | tup h =>
    rcases h with (h | ⟨o, h⟩) | ⟨o, _, _, h, c, _⟩
    · exact ⟨_, .base (.tup h), kb .tup (by decide)⟩
    · exact ⟨_, .fTuple h, kb .tup (by decide)⟩
    · exact ⟨_, .kTuple h c, kb .tup (by decide)⟩
  | dct h => exact ⟨_, .base (.dK h), kb .dct (by decide)⟩
  | own h c =>
    refine ⟨_, .base (.ins h c.cl c.ha c.hn c.htk c.hm), fun T hT => ?_⟩
    simp only [TS6, List.mem_cons, List.not_mem_nil, or_false] at hT
    rcases hT with rfl | rfl | rfl | rfl | rfl | rfl
    · exact c.k1
    · exact c.k2
    · exact c.k3
    · exact c.k4
    · exact c.k5
    · exact c.k6
/-- isinstance(v, T) -/
theorem rd_isi {K : PySem.W.Frag} {H : Hp} {v : V} {k : Kd} {T : String} {Q : VK} (h : Kn K H v k) (q : Q (.bl (isk k T)) H) (hT : T ∈ TS6 := by decide) : rIsi K [v, .ty T] H Q := by
  obtain ⟨t, h1, h2⟩ := h.ty
  exact ⟨v, .ty T, t, .type T, _, rfl, .ty T, h1, h2 T hT, q⟩

/-! ### names, refs -/
abbrev LET : Str := "abcdefghijklmnopqrstuvwxyz"
def isLet (c : Nat) : Bool := decide (c ∈ LET.cps.toList)
def isNm (z : Str) : Bool := decide (1 ≤ z.length) && decide (z.length ≤ 8) && z.cps.toList.all isLet
def nmV : V → Bool
  | .str z => isNm z
  | _ => false
def btw (v : V) (lo hi : Int) : Bool := match v with
  | .int i => decide (lo ≤ i) && decide (i ≤ hi)
  | _ => false
theorem Kn.notInt {K : PySem.W.Frag} {H : Hp} {v : V} {k : Kd} (h : Kn K H v k) (n : k ≠ .int) (lo hi : Int) : btw v lo hi = false := by
  cases h <;> first | rfl | exact absurd rfl n
theorem Kn.notStr {K : PySem.W.Frag} {H : Hp} {v : V} {k : Kd} (h : Kn K H v k) (n : k ≠ .str) : nmV v = false := by
  cases h <;> first | rfl | exact absurd rfl n
/-- whether it is a ref -/
inductive RefIs (K : PySem.W.Frag) (H : Hp) : V → Bool → Prop
  | not {v : V} {k : Kd} (h : Kn K H v k) (n : k ≠ .tup) : RefIs K H v false
  | len {a : Addr} {xs : List V} (h : SqT K H a xs) (n : xs.length ≠ 2) : RefIs K H (.ref a) false
  | two {a : Addr} {x y : V} {kx ky : Kd} (h : SqT K H a [x, y]) (hx : Kn K H x kx) (hy : Kn K H y ky) : RefIs K H (.ref a) (nmV x && btw y (-9) 9)
theorem RefIs.same {K : PySem.W.Frag} {H H' : Hp} {v : V} {b : Bool} (e : Same H H') (h : RefIs K H v b) : RefIs K H' v b := by
  cases h with
  | not h n => exact .not (h.same e) n
  | len h n => exact .len (same_t e h) n
  | two h hx hy => exact .two (same_t e h) (hx.same e) (hy.same e)

/-! ### the source of draws: a list of four at s -/
def Kp (s : Addr) (H H' : Hp) : Prop := ∀ b o, H b = some o → b ≠ s → H' b = some o
theorem Kp.refl (s : Addr) (H : Hp) : Kp s H H := fun _ _ h _ => h
theorem Kp.trans {s : Addr} {H H1 H2 : Hp} (a : Kp s H H1) (b : Kp s H1 H2) : Kp s H H2 := fun c o h n => b c o (a c o h n) n
theorem Kp.of {s : Addr} {H H1 : Hp} (a : Same H H1) : Kp s H H1 := fun c o h _ => a c o h
theorem _root_.L2.Same.new {H : Hp} {p : Addr} {o : HO} (h : H p = none) : Same H (upd H p o) := fun b u e => by
  rw [upd_ne (ne_of_none e h)]
  exact e
theorem _root_.L2.Same.mut {H H' : Hp} {p : Addr} {o : HO} (e : Same H H') (h : H p = none) : Same H (upd H' p o) := fun a u ha => by
  rw [upd_ne (ne_of_none ha h)]
  exact e a u ha
theorem Kp.new {s : Addr} {H : Hp} {p : Addr} {o : HO} (h : H p = none) : Kp s H (upd H p o) := Kp.of (Same.new h)
theorem Kp.mut {s : Addr} {H H' : Hp} {p : Addr} {o : HO} (e : Kp s H H') (h : H p = none) : Kp s H (upd H' p o) := fun a u ha n => by
  rw [upd_ne (ne_of_none ha h)]
  exact e a u ha n
theorem Kp.self {s : Addr} {H : Hp} {o : HO} : Kp s H (upd H s o) := fun a u ha n => by
  rw [upd_ne n]
  exact ha
def Src (H : Hp) (s L : Addr) : Prop := ∃ (i q z : Int) (ns : List Int), H s = some (.lst [.ref L, .int i, .int q, .int z]) ∧ H L = some (.lst (ns.map V.int)) ∧ 0 ≤ i ∧ i ≤ (ns.length : Int) ∧ ns.length ≤ 63 ∧ 0 ≤ q ∧ 0 ≤ z ∧ z < 2147483647
theorem Src.at {H : Hp} {s L : Addr} (h : Src H s L) : ∃ xs, H s = some (.lst xs) := by
  obtain ⟨i, q, z, ns, h, _⟩ := h
  exact ⟨_, h⟩
theorem Src.same {H H' : Hp} {s L : Addr} (e : Same H H') (h : Src H s L) : Src H' s L := by
  obtain ⟨i, q, z, ns, h1, h2, r⟩ := h
  exact ⟨i, q, z, ns, e _ _ h1, e _ _ h2, r⟩
theorem Src.fresh {H : Hp} {s L p : Addr} (h : Src H s L) (n : H p = none) : p ≠ s ∧ p ≠ L := by
  obtain ⟨i, q, z, ns, h1, h2, r⟩ := h
  exact ⟨(ne_of_none h1 n).symm, (ne_of_none h2 n).symm⟩
theorem Src.mut {H : Hp} {s L p : Addr} {o : HO} (h : Src H s L) (n : p ≠ s ∧ p ≠ L) : Src (upd H p o) s L := by
  obtain ⟨i, q, z, ns, h1, h2, r⟩ := h
  exact ⟨i, q, z, ns, by rw [upd_ne n.1.symm]; exact h1, by rw [upd_ne n.2.symm]; exact h2, r⟩
theorem Src.new {H : Hp} {s L p : Addr} {o : HO} (h : Src H s L) (n : H p = none) : Src (upd H p o) s L := h.mut (h.fresh n)
theorem ifT {c : Bool} {A B : Prop} (hc : c = true) (h : A) : if c = true then A else B := by
  rw [if_pos hc]
  exact h
theorem ifF {c : Bool} {A B : Prop} (hc : c = false) (h : B) : if c = true then A else B := by
  rw [hc, if_neg Bool.false_ne_true]
  exact h
/-- a tuple, a text's tuple .. is not the source -/
theorem Kp.t {K : PySem.W.Frag} {s : Addr} {H H' : Hp} {a L : Addr} {xs : List V} (e : Kp s H H') (S : Src H s L) (h : SqT K H a xs) : SqT K H' a xs := by
  obtain ⟨ys, hs⟩ := S.at
  rcases h with (h | ⟨o, h⟩) | h
  · exact .inl (.inl (e _ _ h (ne_of h hs (by intro z; cases z))))
  · exact .inl (.inr ⟨o, e _ _ h (ne_of h hs (by intro z; cases z))⟩)
  · exact .inr h
theorem Kp.l {K : PySem.W.Frag} {s : Addr} {H H' : Hp} {a : Addr} {xs : List V} (e : Kp s H H') (n : a ≠ s) (h : SqL K H a xs) : SqL K H' a xs := by
  rcases h with (h | ⟨o, h⟩) | h
  · exact .inl (.inl (e _ _ h n))
  · exact .inl (.inr ⟨o, e _ _ h n⟩)
  · exact .inr h
theorem sz_of {n : Nat} (h : n ≤ 100000) : n ≤ sizeLine := Nat.le_trans h (by decide)
theorem sz_lt {n : Nat} (h : n < 100000) : n < sizeLine := Nat.lt_of_lt_of_le h (by decide)
theorem big_of {n : Nat} (h : n ≤ 100000) : (n : Int) < 2 ^ 200 := by
  have : (2 : Int) ^ 200 > 100000 := by decide
  omega
theorem e18 : (10 : Int) ^ (18 : Int).toNat = 1000000000000000000 := by decide
/-- repr of a truth value -/
theorem call_repr_bl {X : Cx} : CallR X (.builtin "repr") (fun xs H Q => ∃ b, xs = [.bl b] ∧ Q (.str (if b then "True" else "False")) H) := by
  intro pins s σ H xs us Q I r h
  obtain ⟨b, rfl, q⟩ := h
  obtain ⟨u, rfl, r1⟩ := vals1 r
  cases (show u = Value.bool b from r1)
  exact PySem.P.repr_of_bool ⟨.str _, H, I.tok _, ⟨_, rfl⟩, q⟩
end VW
namespace VW
open PySem PySem.Spec PyProof.Rows L2
def cntV : V → Bool
  | .int i => decide (0 ≤ i)
  | _ => false
theorem Kn.notCnt {K : PySem.W.Frag} {H : Hp} {v : V} {k : Kd} (h : Kn K H v k) (n : k ≠ .int) : cntV v = false := by
  cases h <;> first | rfl | exact absurd rfl n
theorem take_succ_of {α : Type} {l : List α} {i : Nat} {x : α} (h : l[i]? = some x) : l.take (i + 1) = l.take i ++ [x] := by
  rw [List.take_succ, h]
  rfl
theorem src_ne (ns : List Int) (L : Addr) (i q z : Int) : HO.lst (ns.map V.int) ≠ HO.lst [V.ref L, .int i, .int q, .int z] := by
  intro e
  injection e with e
  cases ns with
  | nil => cases e
  | cons n r =>
    rw [List.map_cons] at e
    injection e with e1 _
    cases e1
end VW
namespace VW
open PySem PySem.Spec PyProof.Rows L2
theorem dp_signs {K : PySem.W.Frag} {H : Hp} : ∀ cs : List Nat, DpAll K H (cs.map fun c => V.str ⟨#[c]⟩) (cs.map fun c => PyData.str ⟨#[c]⟩)
  | [] => .nil
  | _ :: r => .cons (.str _) (dp_signs r)
theorem shaped_signs (cs : List Nat) (h : ∀ c ∈ cs, c < 128) : SeqAt.shaped (.list (cs.map fun c => PyData.str ⟨#[c]⟩)) = true := by
  have e1 : ∀ cs : List Nat, (∀ c ∈ cs, c < 128) → PyData.canLayAll0 (cs.map fun c => PyData.str ⟨#[c]⟩) = true := by
    intro cs
    induction cs with
    | nil => intro _; rfl
    | cons c r ih =>
      intro h
      have hc := h c (List.mem_cons_self ..)
      have hr := ih fun x hx => h x (List.mem_cons_of_mem _ hx)
      have hs : PyData.strOk ⟨#[c]⟩ = true := by
        simp [PyData.strOk]
        omega
      simp only [List.map_cons, PyData.canLayAll0, PyData.canLay0, hs, hr, Bool.and_self]
  have e2 : ∀ cs : List Nat, PyData.depthAll (cs.map fun c => PyData.str ⟨#[c]⟩) = 0 := by
    intro cs
    induction cs with
    | nil => rfl
    | cons c r ih => simpa [PyData.depthAll, PyData.depth] using ih
  unfold SeqAt.shaped
  simp [PyData.canLay0, PyData.depth, e1 cs h, e2]
end VW
namespace VW
open PySem PySem.Spec PyProof.Rows L2
/-- an error of the class at S is what «except S» names -/
theorem exm_self {K : PySem.W.Frag} {S : Addr} (h1 : PySem.W.subIn K (.ref S) (.type "BaseException") = some true) (h2 : PySem.W.isClsIn K S = true) (h3 : PySem.W.typeIn K (.ref S) = some (.type "type")) (h4 : PySem.W.subIn K (.ref S) (.ref S) = some true) :
    PySem.W.exmOne K (.ref S) (.ref S) = some true := by
  have e1 : (PySem.W.subIn K (.ref S) (.type "BaseException") == some true) = true := by rw [h1] <;> rfl
  have e2 : ((PySem.W.clsIn K S).isSome && PySem.W.typeIn K (.ref S) == some (.type "type")) = true := by
    have h2' : (PySem.W.clsIn K S).isSome = true := h2
    rw [h2', h3] <;> rfl
  show (if (PySem.W.subIn K (.ref S) (.type "BaseException") == some true) = true then (if ((PySem.W.clsIn K S).isSome && PySem.W.typeIn K (.ref S) == some (.type "type")) = true then PySem.W.subIn K (.ref S) (.ref S) else none) else none) = some true
  rw [if_pos e1, if_pos e2]
  exact h4
end VW

/-! an own error over ValueError whose __init__ says super().__init__('..'); self.f = f: made and raised -/
namespace PySem
namespace ErX
open PySem.W PySem.Calls PyProof.Rows PySem.HandSPX
def iA (f : Str) (p1 p2 : Pos) : Arguments := { posonlyargs := [], args := [{ arg := "self", annotation := none, pos := p1 }, { arg := f, annotation := none, pos := p2 }], vararg := none, kwonlyargs := [], kw_defaults := [], kwarg := none, defaults := [] }
def iB (f msg : Str) (q1 q2 q3 q4 q5 q6 q7 q8 q9 q10 : Pos) : List Stmt :=
  [.Expr (.Call (.Attribute (.Call (.Name "super" q1) [] [] q2) "__init__" q3) [.Constant (.str msg) 0 q4] [] q5) q6, .Assign [.Attribute (.Name "self" q7) f q8] (.Name f q9) q10]
def iS (f : Str) : Scope := { kind := .function, names := [(PySem.Str.ofString "self", .local), (f, .local), (PySem.Str.ofString "__class__", .free), (PySem.Str.ofString "super", .globalImplicit)], isGenerator := false, isCoroutine := false, more := [] }
/-- super().__init__('..') is a method's call (by the places that the text has) -/
def SupEv (msg : Str) (q1 q2 q3 q4 q5 : Pos) : Prop := ∀ env : Env, ∃ pl : Sem Bool, eval (.Call (.Attribute (.Call (.Name "super" q1) [] [] q2) "__init__" q3) [.Constant (.str msg) 0 q4] [] q5) env = (do
  let ov ← attributeBase (.Call (.Name "super" q1) [] [] q2) "__init__" env (eval (.Call (.Name "super" q1) [] [] q2) env)
  standAt q3.atName
  let (f, first) ← holding [ov] (getMethod ov "__init__" pl)
  callWith q5 f first (backTo q5 (starEach [.Constant (.str msg) 0 q4] env)) [])
/-- what stands around a call -/
structure Gd (K : Frag) (mg : Str → Option Value) (h : Heap) : Prop where
  k : K.In h
  g : h.Ns mainGlobals mg
  b : ∃ mb, h.Ns builtinsNs mb ∧ ∀ x : Str, x ≠ "__name__" → mb x = bootBuiltins x
  l : h.NoLimit
theorem Gd.keeps {K : Frag} {mg : Str → Option Value} {h h' : Heap} (G : Gd K mg h) (q : ∀ b o, h.get? b = some o → h'.get? b = some o) : Gd K mg h' :=
  ⟨G.k.keeps q, G.g.keeps q, let ⟨mb, h1, h2⟩ := G.b; ⟨mb, h1.keeps q, h2⟩, G.l.keeps q⟩
/-- what the written part says of the class at C, named nm, and of its __init__, at fI; f its one field -/
structure ErTxt (prog : Program) (K : Frag) (mg : Str → Option Value) (nm f : Str) (C fI : Addr) : Prop where
  gC : mg nm = some (.ref C)
  cls : ∃ nm q N bs bm sn sub ab col dd k0 k1 k2 k3 k5, K.lookup C = some (excClassObj nm q C N bs bm true sn sub ab col dd k0 k1 k2 k3 k5 "ValueError.__new__") ∧ refsVE bm = true
  sa : findIn K (.ref C) "__setattr__" = some (some (.builtin "object.__setattr__"))
  ga : findIn K (.ref C) "__getattribute__" = some (some (.builtin "BaseException.__getattribute__"))
  gg : findIn K (.ref C) "__getattr__" = some none
  noN : findIn K (.ref C) f = some none
  iC : findIn K (.ref C) "__init__" = some (some (.ref fI))
  tC : typeIn K (.ref fI) = some (.type "function")
  kC : keepIn K (.ref C) = true
  exC : subIn K (.ref C) (.type "BaseException") = some true
  veC : subIn K (.ref C) (.type "ValueError") = some true
  tyC : typeIn K (.ref C) = some (.type "type")
  hdC : hasDictIn K C = true
  te : exmOne K (.ref C) (.ref C) = some true
  meC : mroIn K C (.ref C) = some true
  alC : ks_superIn K C C "__init__" = some (some (.builtin "ValueError.__init__"))
  opq : nsIn K cStatics "thirdparty.any" = some none
  sup : nsIn K mainGlobals "super" = some none
  nsup : (prog.main.scope.names.lookup ("super" : Str)).isSome = false
  fn : ∃ (oc : Value) (od : Option Addr) (doc pm : Value) (an : Option Addr) (cda cc : Addr) (ct : Value) (osl : Array (Option Value)) (qual msg : Str) (p1 p2 q1 q2 q3 q4 q5 q6 q7 q8 q9 q10 : Pos) (ccl cl : Value) (cdd cld : Option Addr) (vs : Array Value) (ccs csl : Array (Option Value)) (file : Str) (tf : Tok),
    K.lookup fI = some ⟨oc, od, .func (ksFn "__init__" qual (iA f p1 p2) (iB f msg q1 q2 q3 q4 q5 q6 q7 q8 q9 q10) (iS f) .none .none doc pm an (.ref cda) ct cc), osl⟩ ∧ codeIn K (.ref cda) qual = true ∧
    K.lookup cda = some ⟨ccl, cdd, .fields vs, ccs⟩ ∧ vs[2]? = some (.str file tf) ∧ ((prog.main.file : Str) == file) = true ∧ K.lookup cc = some ⟨cl, cld, .cell (some (.ref C)), csl⟩ ∧ SupEv msg q1 q2 q3 q4 q5
theorem bb_super : bootBuiltins "super" = some (.type "super") := by decide +kernel
/-- what __init__ leaves of a fresh exception at x -/
structure InitEnd (f : Str) (h h' : Heap) (x C dx t1 : Addr) (v : Value) : Prop where
  keep : ∀ b o, b ≠ x → h.get? b = some o → h'.get? b = some o
  obj : h'.get? x = some { cls := .ref C, dict := some dx, data := .fields #[.ref t1, .none, .none, .none, .bool false, .none] }
  dbig : h.objs.size ≤ dx
  dne : dx ≠ x
  ns : h'.Ns1 dx (fun y => if y = f then some v else none)
/-- a made one -/
structure OwnMade (f : Str) (h h' : Heap) (e C d : Addr) (v : Value) : Prop where
  keep : ∀ b o, h.get? b = some o → h'.get? b = some o
  new : h.objs.size ≤ e
  obj : ∃ oe vs, h'.get? e = some oe ∧ oe.cls = .ref C ∧ oe.dict = some d ∧ oe.data = .fields vs ∧ vs[1]? = some .none
  dbig : h.objs.size ≤ d
  dne : d ≠ e
  ns : h'.Ns1 d (fun y => if y = f then some v else none)
theorem one_size (v : Value) : [v].length ≤ sizeLine := by
  rw [sizeLine_eq]
  exact (by decide : 1 ≤ 16777216)
section
variable {prog : Program} {w : World} {A : Around} {E : Value → Shared → Prop} {h : Heap} {g : Array GenState} {d : Drawn} {t : Nat} {os : OsState}
/-- the bound ValueError.__init__ called -/
theorem call_mw {nm q : Str} {C N : Addr} {bs bm : List Value} {hdct : Bool} {sn : List Str} {sub : List Value} {ab : Bool} {col : Option Bool} {dd : Option Addr} {k0 k1 k2 k3 k5 : Option Value} {u e t0 : Addr} {rest : List Value} {Q : Value → Shared → Prop}
    (hC : h.get? C = some (excClassObj nm q C N bs bm hdct sn sub ab col dd k0 k1 k2 k3 k5 "ValueError.__new__")) (he : h.get? e = some (excO C t0)) (hu : h.get? u = some (kxs_mw "ValueError.__init__" e)) (hrest : rest.length ≤ sizeLine)
    (hq : ∀ h' t1, (∀ b o, b ≠ e → h.get? b = some o → h'.get? b = some o) → h'.get? e = some (excO C t1) → Q .none ⟨h', g, d, t, os⟩) :
    wpAny (model prog w) A (call (.ref u) rest) Q E ⟨h, g, d, t, os⟩ := by
  refine wpAny_call (codeAny_of_tree ?_)
  show wpAny _ A.in1 (callAny (.ref u) ⟨rest, []⟩) _ _ _
  simp only [callAny]
  refine wpAny_bind (wpAny_load hu ?_)
  simp only [kxs_mw, show (Value.type "method-wrapper" == Value.type "method" || Value.type "method-wrapper" == Value.type "builtin_function_or_method" || Value.type "method-wrapper" == Value.type "method-wrapper") = true by decide, if_true]
  refine W.KFB.if_so (by decide) ?_
  refine wpAny_bind (ESX.check_bound F.excBase_ValueError hC he rfl ?_)
  refine wpAny_bind (wpAny_pure (wpAny_pure ?_))
  refine ⟨Code.quiet_builtin _ (by decide +kernel), codeAny_builtin F.excBase_ValueError.initEntry ?_⟩
  rw [Around.under_plainId F.excBase_ValueError.init.plain _]
  wp_walk
  refine hq _ h.objs.size (fun b o hb ho => ?_) ?_
  · rw [Heap.get?_update_other _ _ (Ne.symm hb)]
    exact Heap.get?_push_of_some _ ho
  · rw [Heap.get?_update_self _ (Heap.get?_push_of_some _ he) rfl]
    rfl
end
section
variable {prog : Program} {w : World} {A : Around} {E : Value → Shared → Prop} {R : Result → Shared → Prop} {s : Shared} {K : Frag} {mg : Str → Option Value} {nm f : Str} {C fI : Addr}
theorem er_init (T : ErTxt prog K mg nm "value" C fI) {x t0 : Addr} {v : Value} (G : Gd K mg s.heap) (hx : s.heap.get? x = some (excO C t0)) (hnx : K.lookup x = none) (hroom : A.depth < recursionLimit)
    (hq : ∀ h' tk dx t1, InitEnd "value" s.heap h' x C dx t1 v → R (.ok (.ret .none)) { s with heap := h', toks := tk }) :
    codeAny (model prog w) A (.call (.ref fI) ⟨[.ref x, v], []⟩) R s := by
  obtain ⟨oc, od, doc, pm, an, cda, cc, ct, osl, qual, msg, p1, p2, q1, q2, q3, q4, q5, q6, q7, q8, q9, q10, ccl, cl, cdd, cld, vs, ccs, csl, file, tf, ho, hcd, hcode, hvs, hfile, hcell, hev⟩ := T.fn
  obtain ⟨nm', q, N, bs, bm, sn, sub, ab, col, dd, k0, k1, k2, k3, k5, hC, hbm⟩ := T.cls
  have hcl : clsIn K C = some { name := nm', bases := bs, mro := .ref C :: bm, ns := N, qualname := q, hasDict := true, slotNames := sn, subclasses := sub, abstract := ab, collection := col, hasDel := false } := by unfold clsIn; rw [hC] <;> rfl
  refine ks_codeAny_call_defAt (fd := ksFn "__init__" qual (iA "value" p1 p2) (iB "value" msg q1 q2 q3 q4 q5 q6 q7 q8 q9 q10) (iS "value") .none .none doc pm an (.ref cda) ct cc) (body := iB "value" msg q1 q2 q3 q4 q5 q6 q7 q8 q9 q10) (binds := [("self", .ref x), ("value", v)]) hroom (G.k _ _ ho) rfl G.l (codeRec_of G.k hcd) rfl (BindsTo.of_eq (by first | rfl | with_unfolding_all rfl)) ?hce ?hlo (fun h₁ hns hk₁ => ?_) rfl rfl rfl
  case hce => exact (by decide : ∀ y ∈ (iS "value").names, y.2 ≠ .cell)
  case hlo =>
    intro y hy
    simp only [List.mem_cons, List.not_mem_nil, or_false] at hy
    rcases hy with rfl | rfl <;> rfl
  have G₁ : Gd K mg h₁ := G.keeps hk₁
  have hx₁ := hk₁ _ _ hx
  have hxL : x < s.heap.objs.size := Heap.lt_size hx
  obtain ⟨hp, ge, dr, tk, os⟩ := s
  generalize hL : hp.objs.size = L at *
  obtain ⟨mb, hmb, hbb⟩ := G₁.b
  have lself : (fun y => ([("self", Value.ref x), ("value", v)] : List (Str × Value)).reverse.lookup y) "self" = some (.ref x) := by first | rfl | with_unfolding_all rfl | kernel_rfl
  have lval : (fun y => ([("self", Value.ref x), ("value", v)] : List (Str × Value)).reverse.lookup y) "value" = some v := by first | rfl | with_unfolding_all rfl | kernel_rfl
  obtain ⟨pl, hev1⟩ := hev (callEnv (ksFn "__init__" qual (iA "value" p1 p2) (iB "value" msg q1 q2 q3 q4 q5 q6 q7 q8 q9 q10) (iS "value") .none .none doc pm an (.ref cda) ct cc) L fI)
  refine ks_wpAt_execs_cons (ks_wpAt_Expr_any (ks_wpAt_MethodCall (pl := pl) ?_ hev1))
  -- super()
  have hD1 := G₁.k _ _ hC
  refine ks_wpAt_super_base (of := ⟨oc, od, .func _, osl⟩) rfl rfl (by decide) rfl (G₁.k _ _ ho) rfl rfl rfl (G₁.k _ _ hcode) rfl hvs hfile T.nsup ?_
  refine ks_loadName_global rfl rfl (loadGlobal_builtin (env := _) G₁.g (mg_none_of G₁.k G₁.g T.sup) hmb ((hbb _ (by decide +kernel)).trans bb_super) ⟨rfl, ?_⟩)
  refine wpAny_loadName_free rfl rfl rfl ⟨_, G₁.k _ _ hcell, rfl⟩ ?_
  refine wpAny_loadName_local rfl rfl hns lself ?_
  refine ks_wpAny_isType_cls hD1 rfl ⟨rfl, ?_⟩
  refine ks_wpAny_call_super hD1 rfl hx₁ rfl (fun c e => nomatch e) (looks_mroIn G₁.k T.meC) (fun h₂ hso hk₂ => ?_)
  have G₂ : Gd K mg h₂ := G₁.keeps hk₂
  have I₂ : InstAt h₂ x (excO C t0) C none := ⟨hk₂ _ _ hx₁, rfl, rfl, trivial⟩
  have hm := T.alC
  unfold ks_superIn at hm
  rw [hcl] at hm
  refine kxs_getMethod kxs_ValueError hso (looks_opaque G₂.k T.opq) (l₀ := .ref C :: bm) ?_ rfl G₂.k hm (I₂.type.andThen (looks_subIn G₂.k T.veC)) (ks_ne G₂.k I₂ hcl) (by decide) ?_
  · exact fun A Q E s k q => wpAny_bind ((looks_clsIn G₂.k hcl) A _ E s k (wpAny_pure q))
  -- called with the text
  have hk₃ : ∀ b o, h₂.get? b = some o → (h₂.push (kxs_mw "ValueError.__init__" x)).get? b = some o := fun b o e => Heap.get?_push_of_some _ e
  have hu₃ : (h₂.push (kxs_mw "ValueError.__init__" x)).get? h₂.objs.size = some (kxs_mw "ValueError.__init__" x) := Heap.get?_push_at rfl rfl
  refine kxs_callWith (i := "ValueError.__init__") (x := x) (by first | rfl | decide) (evalArgs_plain ?_)
  refine spliced_more (wpAny_Constant_str (spliced_none ⟨hu₃, ?_⟩))
  refine call_mw (t0 := t0) (G₂.keeps hk₃ |>.k _ _ hC) (hk₃ _ _ (hk₂ _ _ hx₁)) hu₃ (one_size _) (fun h₄ t1 hk₄ hx₄ => ?_)
  have k04 : ∀ b o, b ≠ x → hp.get? b = some o → h₄.get? b = some o := fun b o hb e => hk₄ b o hb (hk₃ b o (hk₂ b o (hk₁ b o e)))
  have kw : ∀ b o, K.lookup b = some o → b ≠ x := fun b o e z => by
    rw [z, hnx] at e
    cases e
  have X₄ : K.In h₄ := fun b o e => hk₄ b o (kw b o e) ((G₂.keeps hk₃).k b o e)
  have n₄ : h₄.Ns L (fun y => ([("self", Value.ref x), ("value", v)] : List (Str × Value)).reverse.lookup y) := by
    obtain ⟨oL, es, ep, hoL, r⟩ := hns
    exact ⟨oL, es, ep, hk₄ _ _ (Nat.ne_of_gt hxL) (hk₃ _ _ (hk₂ _ _ hoL)), r⟩
  -- self.value = value
  show PySem.wpAt _ _ _ (execs _ _) _ _ _
  refine wpAt_of_wpAny ?_
  refine wpAny_execs_cons (plainObj_wpAny_Assign_Attribute ?_)
  refine ESX.ldL n₄ lval (ESX.ldL n₄ lself ?_)
  refine set_plain X₄ (ox := excO C t1) (od := none) ⟨hx₄, rfl, rfl, trivial⟩ T.sa ?_
  refine exc_osa X₄ hx₄ hcl (show refsVE (.ref C :: bm) = true from hbm) rfl T.noN (fun h₅ tk₅ dx k₅ dn dne hx₅ hn₅ => ?_)
  show wpAny _ _ (execs _ _) _ _ _
  have sz : hp.objs.size ≤ h₄.objs.size := by
    obtain ⟨oL, es, ep, hoL, r⟩ := n₄
    rw [hL]
    exact Nat.le_of_lt (Heap.lt_size hoL)
  exact wpAny_execs_nil (hq h₅ tk₅ dx t1 ⟨fun b o hb e => k₅ b o hb (k04 b o hb e), hx₅, Nat.le_trans sz dn, dne, hn₅⟩)
theorem er_made (T : ErTxt prog K mg nm "value" C fI) {v : Value} (G : Gd K mg s.heap) (hroom : A.depth + 1 < recursionLimit)
    (hq : ∀ h' tk e d, OwnMade "value" s.heap h' e C d v → R (.ok (.ret (.ref e))) { s with heap := h', toks := tk }) :
    codeAny (model prog w) A (.call (.ref C) ⟨[v], []⟩) R s := by
  obtain ⟨nm', q, N, bs, bm, sn, sub, ab, col, dd, k0, k1, k2, k3, k5, hC, hbm⟩ := T.cls
  obtain ⟨hp, g, dr, tk, os⟩ := s
  have k : ∀ b o, hp.get? b = some o → ((hp.push (kdv_tup [v])).push (excO C hp.objs.size)).get? b = some o := fun b o e => Heap.get?_push_of_some _ (Heap.get?_push_of_some _ e)
  have hget : ((hp.push (kdv_tup [v])).push (excO C hp.objs.size)).get? (hp.objs.size + 1) = some (excO C hp.objs.size) := by heap_get
  have hnx : K.lookup (hp.objs.size + 1) = none := by
    cases e : K.lookup (hp.objs.size + 1) with
    | none => rfl
    | some o =>
      have z : hp.get? (hp.objs.size + 1) = some o := G.k _ _ e
      exact absurd (Nat.lt_of_succ_lt (Heap.lt_size z)) (Nat.lt_irrefl _)
  refine call_own F.excBase_ValueError (fun X => refsVE_contains X bm hbm) (G.k _ _ hC) (looks_findIn G.k T.iC) (fun self => bind_fn G.k self T.tC) (one_size v) ?_
  refine er_init (s := ⟨(hp.push (kdv_tup [v])).push (excO C hp.objs.size), g, dr, tk, os⟩) T (G.keeps k) hget hnx ?_ fun h' tk' dx t1 ⟨k', hx, dn, dne, hns⟩ => ?_
  · show A.depth + 1 < recursionLimit
    exact hroom
  · have old : ∀ b o, hp.get? b = some o → h'.get? b = some o := fun b o e => k' b o (Nat.ne_of_lt (Nat.lt_succ_of_lt (Heap.lt_size e))) (k b o e)
    have z : hp.objs.size + 1 + 1 ≤ dx := by
      have q := dn
      first
        | (simpa only [Heap.size_push] using dn)
        | exact dn
        | (rw [Heap.size_push, Heap.size_push] at q; exact q)
    exact ⟨rfl, hq h' tk' (hp.objs.size + 1) dx ⟨old, Nat.le_succ _, ⟨_, _, hx, rfl, rfl, rfl, rfl⟩, Nat.le_trans (Nat.le_trans (Nat.le_succ _) (Nat.le_succ _)) z, dne, hns⟩⟩
end
end ErX
end PySem

/-! raising and reading an own error; methods that may raise; operators of own classes -/
namespace VW
open PySem PySem.Spec PyProof.Rows L2
abbrev ErTxt := @PySem.ErX.ErTxt
theorem relO_er {v : V} {v' : Value} (r : RelV v v') (f : Str) : RelO (List.lookup f [(("value" : Str), v)]) (if f = "value" then some v' else none) := by
  by_cases hw : f = "value"
  · subst hw
    rw [if_pos rfl]
    have q : List.lookup ("value" : Str) [(("value" : Str), v)] = some v := by simp [List.lookup]
    rw [q]
    exact r
  · rw [if_neg hw]
    have qw : (f == ("value" : Str)) = false := by simpa using hw
    have q2 : List.lookup f [(("value" : Str), v)] = none := by simp [List.lookup, qw]
    rw [q2]
    trivial
section
variable {X : Cx} {C fI : Addr} {nm : Str}
theorem gd_of {pins : List (Addr × Obj)} {σ : L2.St} {H : Hp} {s : Shared} (I : Inv X pins σ H s) : PySem.ErX.Gd X.K X.mg s.heap :=
  ⟨I.kIn, I.mod.glob.keeps I.bk, let ⟨mb, h1, h2⟩ := I.mod.blt; ⟨mb, h1.keeps I.bk, h2⟩, I.nolimit⟩
/-- nm(e) -/
def tMkEr (C : Addr) (ta : TA) : L2.St → Hp → XK → Prop := fun σ H Q => ta σ H fun vs H1 => ∃ v, vs = [v] ∧ ∀ d, H1 d = none → Q (.ref C) (some d) (upd H1 d (.xd [(("value" : Str), v)]))
theorem pmk_er {a : Expr} {ta : TA} {p pos : Pos} {k : Nat} (T : ErTxt X.prog X.K X.mg nm "value" C fI) (hr : Room k X.A) (ha : PA X [a] ta) (hg : Gl X nm) (hdb : (nm == ("__debug__" : Str)) = false := by decide)
    (he : starEach (a :: []) X.env = (false, eval a X.env) :: starEach [] X.env := by rfl) (hpl : (backTo pos (starEach [] X.env)).any (·.1) = false := by rfl) :
    PMk X (.Call (.Name nm p) [a] [] pos) (tMkEr C ta) := by
  intro pins s σ H Q I h
  refine wpAny_Call_Name_kw (ld_glob I hg T.gC ?_ hdb)
  refine PySem.W.callWith_K (h₀ := X.base) I.ok.mod.kin T.kC (thn (ha.run pos pins s σ H _ I h) fun us s1 hh => ?_) he hpl
  obtain ⟨vs, H1, I1, r1, v, ev, q1⟩ := hh
  subst ev
  refine ⟨I1.kIn, ?_⟩
  cases r1 with
  | cons rv rn =>
    rename_i v' us'
    cases rn
    show wpAny _ _ (call (.ref C) [v']) _ _ _
    have G := gd_of I1
    obtain ⟨hp, g, dr, tk, os⟩ := s1
    refine wpAny_call (PySem.ErX.er_made T G (by have := hr.dp; omega) fun h' tk' e d M => ?_)
    show MkP X pins σ Q (.ref e) ⟨h', g, dr, tk', os⟩
    obtain ⟨oe, fv, hoe, hc, hd, hdat, h1⟩ := M.obj
    have hns := M.ns
    obtain ⟨G', g1, g2⟩ := restrict h' fun b => decide (b ≠ e)
    have gk : ∀ b, b ≠ e → G'.get? b = h'.get? b := fun b hb => g1 b (decide_eq_true hb)
    have ge : G'.get? e = none := g2 e (by simp)
    have old : ∀ b o, hp.get? b = some o → G'.get? b = some o := fun b o q => (gk b (Nat.ne_of_lt (Nat.lt_of_lt_of_le (Heap.lt_size q) M.new))).trans (M.keep b o q)
    have ob : ObjOk X.prog X.w (upd H1 d (.xd [(("value" : Str), v)])) G' d (.xd [(("value" : Str), v)]) :=
      ⟨_, hns.at (fun o q => (gk d M.dne).trans q), fun f => relO_er rv f⟩
    have J : Inv X pins σ (upd H1 d (.xd [(("value" : Str), v)])) ⟨G', g, dr, tk', os⟩ := I1.laid (t' := tk') old M.dbig ob
    refine ⟨e, oe, fv, ⟨G', g, dr, tk', os⟩, _, .ref C, some d, rfl, J, fun b o q => ?_, ge, hoe, ⟨hc, hd⟩, hdat, h1, ?_, rfl, I1.bare, raises_own T.exC T.tyC, q1 d (I1.hok.fresh M.dbig)⟩
    · by_cases hb : b = e
      · have q' : G'.get? b = some o := q
        rw [hb, ge] at q'; cases q'
      · exact (gk b hb).symm.trans q
    · rw [upd_ne (Ne.symm M.dne)]
      exact I1.hok.fresh M.new
/-- raise nm(e) -/
def tRaiseEr (C : Addr) (W : WX) (ta : TA) : TS := fun _ σ H => tMkEr C ta σ H fun cls d H' => W cls d σ H'
theorem ps_raiseEr {a : Expr} {ta : TA} {W : WX} {p pos pos2 : Pos} {k : Nat} (hc : X.calm = true) (T : ErTxt X.prog X.K X.mg nm "value" C fI) (hr : Room k X.A) (tk : Takes X W) (ha : PA X [a] ta) (hg : Gl X nm) (hdb : (nm == ("__debug__" : Str)) = false := by decide)
    (he : starEach (a :: []) X.env = (false, eval a X.env) :: starEach [] X.env := by rfl) (hpl : (backTo pos (starEach [] X.env)).any (·.1) = false := by rfl) :
    PS X (.Raise (some (.Call (.Name nm p) [a] [] pos)) none pos2) (tRaiseEr C W ta) := ps_raise hc tk (pmk_er T hr ha hg hdb he hpl)
theorem xf_of {K : PySem.W.Frag} {P : Program} {mg : Str → Option Value} (T : ErTxt P K mg nm "value" C fI) : XfC K C := ⟨T.ga, T.gg, T.exC, T.hdC⟩
/-- no error comes of it, by its promise -/
theorem passC {P : Program} {w : World} {X : Cx} (hP : X.prog = P := by rfl) (hw : X.w = w := by rfl) : Passes (L2.CX P w) X E0 := by
  subst hP
  subst hw
  exact passes_call takes0 (fun _ _ _ _ h => h)
/-- within a def that lets errors out -/
theorem passE {X : Cx} {E : XK} (tk : Takes X (fun cls d _ H => E cls d H)) : Passes (L2.CX X.prog X.w) X E := passes_call tk (fun _ _ _ _ h => h)
end
section
variable {X : Cx} {CX : CXT} {k : Nat} {f C : Addr} {fd : FuncData} {ps : List Str} {sp : Sp} {E : L2.St → XK} {m : Str} {pos apos : Pos} {e o : Expr} {es : List Expr} {ta : TE} {t : TA}
/-- o.m(e, ..), the wish for an error by the slots -/
def tMethS (C : Addr) (m : Str) (sp : Sp) (E : L2.St → XK) (ta : TE) (t : TA) : TE := fun σ H Q => ta σ H fun x H1 => ∃ a dx fs, x = .ref a ∧ H1 a = some (.ins C dx fs) ∧ fs.lookup m = none ∧ t σ H1 fun vs H2 => sp (x :: vs) H2 Q (E σ)
theorem pe_methS {pl : Sem Bool} (he : PE X o ta) (c : Cls X.K C) (hm : Meth X.K C m f) (F : FnOk X.prog X.w X.K X.mg X.base CX k f fd ps sp) (hr : Room k X.A) (hb : Binds X.K fd ps []) (hx : ∀ σ, PassesAt CX X σ (E σ)) (ha : PA X (e :: es) t)
    (hst : starEach (e :: es) X.env = (false, eval e X.env) :: starEach es X.env := by rfl) (hpl : (backTo pos (starEach es X.env)).any (·.1) = false := by rfl)
    (ht : eval (.Call (.Attribute o m apos) (e :: es) [] pos) X.env = (do
      let ov ← eval o X.env
      standAt apos.atName
      let (f, first) ← holding [ov] (getMethod ov m pl)
      callWith pos f first (backTo pos (starEach (e :: es) X.env)) (backToKw pos (keywordEach [] X.env))) := by rfl) :
    PE X (.Call (.Attribute o m apos) (e :: es) [] pos) (tMethS C m sp E ta t) := by
  refine ⟨fun pins s σ H Q I h => ?_⟩
  refine PySem.W.methodCall_KW (pl := pl) (thn (he.run pins s σ H _ I h) fun u s1 ⟨x, H1, I1, rx, a, dx, fs, ex, ea, l, q⟩ => ?_) ht
  subst ex
  obtain rfl : u = Value.ref a := rx
  refine getmeth_ok I1 ea c hm l ?_
  refine PySem.W.callWith_K (first := [.ref a]) (h₀ := X.base) I.ok.mod.kin hm.kp (thn (ha.run pos pins s1 σ H1 _ I1 q) fun us s2 ⟨vs, H2, I2, r, q2⟩ => ⟨I2.kIn, ?_⟩) hst hpl
  exact run_fnS (us := .ref a :: us) (vs := .ref a :: vs) F hr hb (hx σ) I2 (.cons rfl r) q2
end
/-! ### operators of own classes -/
section
variable {X : Cx} {CX : CXT} {k : Nat} {f C : Addr} {fd : FuncData} {ps : List Str} {sp : Sp} {E : XK}
theorem ins_at {pins : List (Addr × Obj)} {σ : L2.St} {H : Hp} {s : Shared} {a dx : Addr} {fs : List (Str × V)} (I : Inv X pins σ H s) (ea : H a = some (.ins C dx fs)) : ∃ ox od, PySem.W.InstAt s.heap a ox C (some od) := by
  obtain ⟨mA, O, _, _, _, _⟩ := ins_get I.hok ea
  obtain ⟨od, J, _⟩ := O.look
  exact ⟨_, od, J⟩
/-- what a class's __op__ wants: told by k_is -/
structure BinC (K : PySem.W.Frag) (C f : Addr) (op : Operator) (T : String) : Prop where
  sf : PySem.W.selfFirst K C = true
  at_ : PySem.W.findIn K (.ref C) (PySem.dunder op.info.2) = some (some (.ref f))
  fn : PySem.W.isFn K (.ref f) = true
  rv : PySem.W.findIn K (.ref C) (dunderR op.info.2) = some none
  t1 : ∃ fo, PySem.W.findIn K (.type T) (PySem.dunder op.info.2) = some fo
  t2 : ∃ ro, PySem.W.findIn K (.type T) (dunderR op.info.2) = some ro
  sb : PySem.W.subIn K (.type T) (.ref C) = some false
/-- x op i, x an instance, i an int -/
def rBinI (C : Addr) (sp : Sp) (E : XK) : R2 := fun x y H Q => ∃ a dx fs i, x = .ref a ∧ y = .int i ∧ H a = some (.ins C dx fs) ∧ sp [x, y] H Q E
theorem op_binI {op : Operator} (B : BinC X.K C f op "int") (F : FnOk X.prog X.w X.K X.mg X.base CX k f fd ps sp) (hr : Room k X.A) (hb : Binds X.K fd ps []) (hx : Passes CX X E) : OpR X (binaryOp op) (rBinI C sp E) := by
  intro pins s σ H x y v u Q I rx ry h
  obtain ⟨a, dx, fs, i, rfl, rfl, ea, q⟩ := h
  cases (show v = Value.ref a from rx)
  obtain ⟨t, rfl⟩ := (show ∃ t, u = Value.int i t from ry)
  obtain ⟨ox, od, J⟩ := ins_at I ea
  obtain ⟨m, hF⟩ := I.fr
  obtain ⟨fo, h1⟩ := B.t1
  obtain ⟨ro, h2⟩ := B.t2
  refine PySem.W.ksp_binT (T := "int") hF I.ok.mod.kin J rfl B.sf B.at_ B.fn B.rv (.inl rfl) h1 h2 B.sb ?_
  refine wpAny_mono (run_fn (us := [.ref a, .int i t]) (vs := [.ref a, .int i]) F hr hb .nil hx I (.cons rfl (.cons ⟨t, rfl⟩ .nil)) q) (fun w s' z => ?_) fun _ _ x => x
  obtain ⟨z', H', I', rz, qz⟩ := z
  exact SlX.cmpback rz ⟨z', H', I', rz, qz⟩
end
end VW

/-! further rules: text * int, list(text), repr -/
namespace VW
open PySem PySem.Spec PyProof.Rows L2
section
variable {X : Cx}
theorem op_mulS : OpR X (binaryOp .Mult) (fun x y H Q => ∃ z n, x = .str z ∧ y = .int n ∧ MulOk z n ∧ Q (.str (PySem.Txt.mul z n)) H) := by
  intro pins s σ H x y v u Q I rx ry h
  obtain ⟨z, n, rfl, rfl, hok, q⟩ := h
  obtain ⟨t, rfl⟩ := (show ∃ t, v = Value.str z t from rx)
  obtain ⟨t', rfl⟩ := (show ∃ t, u = Value.int n t from ry)
  exact SB.mul hok fun t' k => ⟨.str _, H, I.tok _, ⟨_, rfl⟩, q⟩
theorem mulOk_small {z : Str} {n : Int} (h0 : 0 ≤ n) (h1 : n ≤ 100) (hz : z.length ≤ 100) : MulOk z n := by
  refine ⟨?_, fun a b => ?_, fun a b => ?_⟩
  · simp only [Bool.or_eq_false_iff, decide_eq_false_iff_not]
    omega
  · have : (2 ^ 63 - 1 : Int) / n ≥ 100 := by
      refine Int.le_ediv_of_mul_le (by omega) ?_
      omega
    omega
  · have h2 : z.length * n.toNat ≤ 100 * 100 := Nat.mul_le_mul hz (by omega)
    have e : sizeLine = 16777216 := by decide
    unfold Builtin.Str.tooLong
    simp only [decide_eq_false_iff_not]
    omega
theorem vals_signs : ∀ (cs : List Nat) (us : List Value), us.length = cs.length → (∀ (j : Nat) (c : Nat) (v : Value), cs[j]? = some c → us[j]? = some v → ∃ t, v = Value.str ⟨#[c]⟩ t) → Vals (cs.map fun c => V.str ⟨#[c]⟩) us
  | [], [], _, _ => .nil
  | [], _ :: _, h, _ => by cases h
  | _ :: _, [], h, _ => by cases h
  | c :: cs, u :: us, h, k => .cons (k 0 c u rfl rfl) (vals_signs cs us (Nat.succ.inj h) fun j c v hc hv => k (j + 1) c v hc hv)
theorem call_listS (hc : X.calm = true) : CallR X (.type "list") (fun xs H Q => ∃ z : Str, xs = [.str z] ∧ z.cps.size ≤ sizeLine ∧ ∀ l, H l = none → Q (.ref l) (upd H l (.lst (z.cps.toList.map fun c => V.str ⟨#[c]⟩)))) := by
  intro pins s σ H xs us Q I r h
  obtain ⟨z, rfl, hz, q⟩ := h
  obtain ⟨u, rfl, t, rfl⟩ := vals1 r
  refine call_list_str (I.ok.hd hc) z t (fun h' tk acc' c' hk hS hacc => ?_) hz
  have rv : Vals (z.cps.toList.map fun c => V.str ⟨#[c]⟩) acc'.toList := by
    obtain ⟨h1, h2⟩ := hacc
    refine vals_signs z.cps.toList acc'.toList (by simp [h1]) fun j c v hc hv => ?_
    obtain ⟨c', u, e1, e2⟩ := h2 j v (by simpa using hv)
    have e3 : z.cps[j]? = some c := by simpa using hc
    rw [e3] at e1
    cases e1
    exact ⟨u, e2⟩
  exact ⟨.ref s.heap.objs.size, _, I.laid (t' := tk) hk (Nat.le_refl _) (show ObjOk X.prog X.w _ h' _ (.lst _) from ⟨by rw [List.length_map]; simpa using hz, acc'.toList, c', rv, by simpa using hS⟩), rfl, q _ (I.hok.fresh (Nat.le_refl _))⟩
/-- repr of plain values -/
inductive ReprIs : V → Str → Prop
  | non : ReprIs .non "None"
  | bl (b : Bool) : ReprIs (.bl b) (if b then "True" else "False")
  | int {i : Int} (h : i.natAbs.log2 < 1920) : ReprIs (.int i) (toString i)
  | str {z : Str} (h : (reprText z).length ≤ sizeLine) : ReprIs (.str z) (reprText z)
theorem call_reprF : CallR X (.builtin "repr") (fun xs H Q => ∃ v z, xs = [v] ∧ ReprIs v z ∧ Q (.str z) H) := by
  intro pins s σ H xs us Q I r h
  obtain ⟨v, z, rfl, hr, q⟩ := h
  obtain ⟨u, rfl, r1⟩ := vals1 r
  cases hr with
  | non =>
    cases (show u = Value.none from r1)
    exact PySem.P.repr_of_none ⟨.str _, H, I.tok _, ⟨_, rfl⟩, q⟩
  | bl b =>
    cases (show u = Value.bool b from r1)
    exact PySem.P.repr_of_bool ⟨.str _, H, I.tok _, ⟨_, rfl⟩, q⟩
  | @int i h =>
    obtain ⟨t, rfl⟩ := (show ∃ t, u = Value.int i t from r1)
    exact PySem.P.repr_of_int h ⟨.str _, H, I.tok _, ⟨_, rfl⟩, q⟩
  | @str z h =>
    obtain ⟨t, rfl⟩ := (show ∃ t, u = Value.str z t from r1)
    exact PySem.P.repr_of_str ⟨.str _, H, I.tok _, ⟨_, rfl⟩, q⟩ h
end
/-- a def with defaults, every argument written -/
theorem binds_all {K : PySem.W.Frag} {x qual : Str} {params : Arguments} {body : List Stmt} {scope : Scope} {dvs : List V} {kws : List (Str × V)} {f : Addr} {fd : FuncData} {ps : List Str} (F : FunD K x qual params body scope dvs kws f fd) (hd : dvs ≠ [])
    (h : ∀ (T : Addr) (kV doc pm : Value) (an : Option Addr) (cdv ct : Value) (us its : List Value), us.length = ps.length → its.length = dvs.length →
      ∃ k, bindArgs (PySem.W.fnOf x qual params body scope (.ref T) kV doc pm an cdv ct) ⟨us, []⟩ = seqItems? (.ref T) >>= k ∧ k (some its.toArray) = pure (ps.zip us)) : Binds K fd ps [] := by
  obtain ⟨ds, hv, hb⟩ := F.binds1 (ps := ps) ps.length dvs.length hd (by simp) fun T kV doc pm an cdv ct us its hu hi => by
    obtain ⟨k, e1, e2⟩ := h T kV doc pm an cdv ct us its hu hi
    exact ⟨k, e1, by rw [e2, ← hi, List.drop_length, List.append_nil]⟩
  rw [List.drop_length] at hv
  cases hv
  exact hb
end VW
namespace VW
open PySem PySem.Spec PyProof.Rows L2
theorem dp_strs {K : PySem.W.Frag} {H : Hp} : ∀ zs : List Str, DpAll K H (zs.map V.str) (zs.map PyData.str)
  | [] => .nil
  | _ :: r => .cons (.str _) (dp_strs r)
theorem dp_ints {K : PySem.W.Frag} {H : Hp} : ∀ zs : List Int, DpAll K H (zs.map V.int) (zs.map PyData.int)
  | [] => .nil
  | _ :: r => .cons (.int _) (dp_ints r)
def ascii (z : Str) : Prop := ∀ c ∈ z.cps.toList, c < 128
theorem ok_ascii {z : Str} (h : ascii z) : PyData.strOk z = true := by
  unfold PyData.strOk
  rw [Array.all_eq_true]
  intro i hi
  have := h z.cps[i] (by simp)
  exact decide_eq_true (by omega)
theorem lay_strs : ∀ zs : List Str, (∀ z ∈ zs, ascii z) → PyData.canLayAll0 (zs.map PyData.str) = true ∧ PyData.depthAll (zs.map PyData.str) = 0
  | [], _ => ⟨rfl, rfl⟩
  | z :: r, h => by
    obtain ⟨a, b⟩ := lay_strs r fun x hx => h x (List.mem_cons_of_mem _ hx)
    have hs := ok_ascii (h z (List.mem_cons_self ..))
    refine ⟨?_, ?_⟩
    · simp only [List.map_cons, PyData.canLayAll0, PyData.canLay0, hs, a, Bool.and_self]
    · simpa [PyData.depthAll, PyData.depth] using b
theorem lay_ints : ∀ zs : List Int, PyData.canLayAll0 (zs.map PyData.int) = true ∧ PyData.depthAll (zs.map PyData.int) = 0
  | [] => ⟨rfl, rfl⟩
  | z :: r => by
    obtain ⟨a, b⟩ := lay_ints r
    refine ⟨?_, ?_⟩
    · simp only [List.map_cons, PyData.canLayAll0, PyData.canLay0, a, Bool.and_self]
    · simpa [PyData.depthAll, PyData.depth] using b
theorem shaped_strs (zs : List Str) (h : ∀ z ∈ zs, ascii z) : SeqAt.shaped (.list (zs.map PyData.str)) = true := by
  obtain ⟨a, b⟩ := lay_strs zs h
  unfold SeqAt.shaped
  simp [PyData.canLay0, PyData.depth, a, b]
theorem shaped_ints (zs : List Int) : SeqAt.shaped (.list (zs.map PyData.int)) = true := by
  obtain ⟨a, b⟩ := lay_ints zs
  unfold SeqAt.shaped
  simp [PyData.canLay0, PyData.depth, a, b]
theorem mul_cps (x : Str) (n : Int) : (∀ c ∈ (PySem.Txt.mul x n).cps.toList, c ∈ x.cps.toList) ∧ (PySem.Txt.mul x n).length ≤ x.length * n.toNat := by
  unfold PySem.Txt.mul
  by_cases h1 : n < 1
  · rw [if_pos h1]
    exact ⟨(by intro c hc; exact absurd hc (by simp [PySem.Str.empty])), Nat.zero_le _⟩
  · rw [if_neg h1]
    by_cases h2 : (n == 1 || x.length == 0) = true
    · rw [if_pos h2]
      refine ⟨fun c hc => hc, ?_⟩
      have : 1 ≤ n.toNat := by omega
      exact Nat.le_mul_of_pos_right _ this
    · rw [if_neg h2]
      have key : ∀ (k : Nat) (acc : Array Nat), (∀ c ∈ acc.toList, c ∈ x.cps.toList) → (∀ c ∈ ((List.replicate k x.cps).foldl (· ++ ·) acc).toList, c ∈ x.cps.toList) ∧ ((List.replicate k x.cps).foldl (· ++ ·) acc).size = acc.size + k * x.cps.size := by
        intro k
        induction k with
        | zero => intro acc h; exact ⟨h, by simp⟩
        | succ k ih =>
          intro acc h
          rw [List.replicate_succ, List.foldl_cons]
          obtain ⟨a, b⟩ := ih (acc ++ x.cps) (fun c hc => by
            rw [Array.toList_append] at hc
            rcases List.mem_append.mp hc with q | q
            · exact h c q
            · exact q)
          refine ⟨a, ?_⟩
          rw [b, Array.size_append, Nat.succ_mul]
          omega
      obtain ⟨a, b⟩ := key n.toNat #[] (fun c hc => by cases hc)
      refine ⟨a, ?_⟩
      show ((List.replicate n.toNat x.cps).foldl (· ++ ·) #[]).size ≤ x.cps.size * n.toNat
      rw [b, Nat.mul_comm]
      simp
theorem seqIndex_nat {j n : Nat} (h : j < n) : seqIndex? (j : Int) n = some j := by
  unfold seqIndex?
  have h1 : ¬ ((j : Int) < 0) := by omega
  simp only [h1, if_false]
  rw [if_pos (by simp only [Bool.and_eq_true, decide_eq_true_eq]; omega)]
  simp
theorem app_inj {a b c : Str} (h : a ++ b = a ++ c) : b = c := by
  have e : (a ++ b).cps.toList = (a ++ c).cps.toList := by rw [h]
  rw [PySem.Str.cps_append, PySem.Str.cps_append, Array.toList_append, Array.toList_append] at e
  have e2 := List.append_cancel_left e
  cases b
  cases c
  congr 1
  exact Array.toList_inj.mp e2
theorem app_mem {a b : Str} {c : Nat} (h : c ∈ (a ++ b).cps.toList) : c ∈ a.cps.toList ∨ c ∈ b.cps.toList := by
  rw [PySem.Str.cps_append, Array.toList_append] at h
  exact List.mem_append.mp h
def lets (z : Str) : Prop := ∀ c ∈ z.cps.toList, isLet c = true
theorem lets_ascii {z : Str} (h : lets z) : ascii z := fun c hc => by
  have h1 : c ∈ LET.cps.toList := of_decide_eq_true (h c hc)
  exact (by decide : ∀ c ∈ LET.cps.toList, c < 128) c h1
theorem isNm_of {z : Str} (h : lets z) (h1 : 1 ≤ z.length) (h8 : z.length ≤ 8) : isNm z = true := by
  unfold isNm
  rw [decide_eq_true h1, decide_eq_true h8, List.all_eq_true.mpr h]
  rfl
end VW
namespace VW
theorem erase_perm {α : Type} : ∀ (l : List α) (i : Nat) (h : i < l.length), (l[i] :: l.eraseIdx i).Perm l
  | [], _, h => by cases h
  | a :: r, 0, _ => List.Perm.refl _
  | a :: r, i + 1, h => by
    have h' : i < r.length := Nat.lt_of_succ_lt_succ h
    have ih := erase_perm r i h'
    show (r[i] :: a :: r.eraseIdx i).Perm (a :: r)
    exact (List.Perm.swap a r[i] _).trans (ih.cons a)
theorem map_erase {α β : Type} (f : α → β) : ∀ (l : List α) (i : Nat), (l.map f).eraseIdx i = (l.eraseIdx i).map f
  | [], _ => rfl
  | a :: r, 0 => rfl
  | a :: r, i + 1 => by
    show f a :: (r.map f).eraseIdx i = f a :: (r.eraseIdx i).map f
    rw [map_erase f r i]
theorem nodup_map {α β : Type} {f : α → β} (hf : ∀ a b, f a = f b → a = b) : ∀ {l : List α}, l.Nodup → (l.map f).Nodup
  | [], _ => List.nodup_nil
  | a :: r, h => by
    rw [List.nodup_cons] at h
    rw [List.map_cons, List.nodup_cons]
    refine ⟨fun hm => ?_, nodup_map hf h.2⟩
    obtain ⟨b, hb, e⟩ := List.mem_map.mp hm
    exact h.1 (hf b a e ▸ hb)
end VW
namespace VW
open PySem PySem.Spec PyProof.Rows L2
theorem hu_in {k : Nat} {A : Around} (r : Room k A) : A.units + 65 < cLine := by
  have := r.un
  omega
theorem dpAll_of {K : PySem.W.Frag} {H : Hp} : ∀ (vs : List V) (ds : List PyData), vs.length = ds.length → (∀ (j : Nat) (v : V) (d : PyData), vs[j]? = some v → ds[j]? = some d → Dp K H v d) → DpAll K H vs ds
  | [], [], _, _ => .nil
  | [], _ :: _, h, _ => by cases h
  | _ :: _, [], h, _ => by cases h
  | v :: vs, d :: ds, h, k => .cons (k 0 v d rfl rfl) (dpAll_of vs ds (Nat.succ.inj h) fun j v d hv hd => k (j + 1) v d hv hd)
theorem layAll_of : ∀ (ds : List PyData) (n : Nat), (∀ d ∈ ds, PyData.canLay0 d = true ∧ PyData.depth d ≤ n) → PyData.canLayAll0 ds = true ∧ PyData.depthAll ds ≤ n
  | [], _, _ => ⟨rfl, Nat.zero_le _⟩
  | d :: r, n, h => by
    obtain ⟨a, b⟩ := layAll_of r n fun x hx => h x (List.mem_cons_of_mem _ hx)
    obtain ⟨c, e⟩ := h d (List.mem_cons_self ..)
    refine ⟨?_, ?_⟩
    · simp only [PyData.canLayAll0, c, a, Bool.and_self]
    · simp only [PyData.depthAll]
      omega
theorem shapedL {ds : List PyData} (h : ∀ d ∈ ds, PyData.canLay0 d = true ∧ PyData.depth d ≤ 60) : SeqAt.shaped (.list ds) = true := by
  obtain ⟨a, b⟩ := layAll_of ds 60 h
  unfold SeqAt.shaped
  simp only [PyData.canLay0, PyData.depth, a, Bool.true_and]
  exact decide_eq_true (by omega)
theorem shapedT {ds : List PyData} (h : ∀ d ∈ ds, PyData.canLay0 d = true ∧ PyData.depth d ≤ 60) : SeqAt.shaped (.tuple ds) = true := by
  obtain ⟨a, b⟩ := layAll_of ds 60 h
  unfold SeqAt.shaped
  simp only [PyData.canLay0, PyData.depth, a, Bool.true_and]
  exact decide_eq_true (by omega)
/-- a cell as data -/
def cellD (nm : Str) (a : Int) : PyData := .tuple [.str nm, .int a]
theorem cellD_lay {nm : Str} (h : ascii nm) (a : Int) : PyData.canLay0 (cellD nm a) = true ∧ PyData.depth (cellD nm a) ≤ 60 := by
  refine ⟨?_, ?_⟩
  · simp only [cellD, PyData.canLay0, PyData.canLayAll0, ok_ascii h, Bool.and_self]
  · simp [cellD, PyData.depth, PyData.depthAll]
theorem cellD_shaped {nm : Str} (h : ascii nm) (a : Int) : SeqAt.shaped (cellD nm a) = true := by
  obtain ⟨x, y⟩ := cellD_lay h a
  unfold SeqAt.shaped
  rw [x, Bool.true_and, decide_eq_true_eq]
  omega
theorem cellD_eqv (nm : Str) (a b : Int) : PyData.eqv (cellD nm a) (cellD nm b) = decide (a = b) := by
  simp [cellD, PyData.eqv, PyData.eqvAll]
  by_cases h : a = b <;> simp [h]
/-- the distances that are found -/
def distL (st f g : Int) : List Int := if (f - g) % st = 0 then [(f - g) / st] else []
theorem dist_meet {st f g i j : Int} (h : 1 ≤ st) (e : st * j + g = st * i + f) : (f - g) % st = 0 ∧ (f - g) / st = j - i := by
  have e2 : f - g = st * (j - i) := by rw [Int.mul_sub]; omega
  rw [e2]
  exact ⟨Int.mul_emod_right _ _, Int.mul_ediv_cancel_left _ (by omega)⟩
theorem dist_there {st f g i : Int} (h : 1 ≤ st) (d : (f - g) % st = 0) : st * (i + (f - g) / st) + g = st * i + f := by
  have e := Int.mul_ediv_cancel' (Int.dvd_of_emod_eq_zero d)
  rw [Int.mul_add, e]
  omega
theorem dist_small {st f g : Int} (h : 1 ≤ st) (f0 : -9 ≤ f) (f1 : f ≤ 9) (g0 : -9 ≤ g) (g1 : g ≤ 9) : -18 ≤ (f - g) / st ∧ (f - g) / st ≤ 18 := by
  constructor
  · refine Int.le_ediv_of_mul_le (by omega) ?_
    omega
  · refine Int.le_trans (Int.ediv_le_ediv (by omega) (show f - g ≤ 18 by omega)) ?_
    exact Int.ediv_le_self _ (by omega)
end VW
namespace VW
open PySem PySem.Spec PyProof.Rows L2
theorem inV_ints (x : Int) : ∀ fs : List Int, inV (V.int x) (fs.map V.int) = decide (x ∈ fs)
  | [] => rfl
  | a :: r => by
    have ih := inV_ints x r
    unfold inV at ih ⊢
    rw [List.map_cons, List.any_cons, ih]
    have e : eqV (V.int a) (V.int x) = decide (a = x) := by
      first | rfl | simp [eqV]
    rw [e]
    by_cases h : a = x
    · subst h
      simp
    · have h' : ¬ x = a := fun z => h z.symm
      simp [h, h']
end VW

/-! ==, !=, len, in, [..] of instances by their classes' own defs -/
namespace PySem.W
open PySem PySem.Calls PyProof.Rows
section
variable {prog : Program} {w : World} {A : Around} {E : Value → Shared → Prop} {s : Shared} {K : Frag} {x C L f : Addr} {h₀ : Heap} {m : Str → Option Value} {ox : Obj} {od : Option Obj} {b tb : Value}
theorem vw_bound_builtin {M : Model} {name : Str} {id : String} {args : List Value} {Q : Option Value → Shared → Prop} (X : K.In s.heap) (I : InstAt s.heap x ox C od) (hs : findIn K (.ref C) name = some (some (.builtin id)))
    (hb : ∀ v, bindSpecial (.builtin id) v = pure (.builtin id, [v])) (h : wpAny M A (call (.builtin id) (.ref x :: args)) (fun v => Q (some v)) E s) : wpAny M A (callSpecialIfBound? (.ref x) name args) Q E s := by
  simp only [callSpecialIfBound?, bindSpecialIfBound?]
  refine wpAny_holding (wpAny_bind (wpAny_bind (wpAny_bind (I.type.here ((looks_findIn X hs).here ?_)))))
  simp only [hb]
  refine wpAny_bind (wpAny_askSetting (wpAny_ite ?_))
  have fin : wpAny M A (call (.builtin id) ([.ref x] ++ args) >>= fun v => pure (some v)) Q E s := wpAny_bind (wpAny_mono h (fun v s' h' => wpAny_pure h') fun _ _ h' => h')
  split
  · exact wpAny_bind (wpAny_pure (wpAny_pure (by exact fin)))
  · exact wpAny_tryCatch (wpAny_bind (wpAny_pure (wpAny_pure (by exact fin))))
theorem vw_ne_entry {Q : Fin → Shared → Prop} (X : K.In s.heap) (I : InstAt s.heap x ox C od) (hs : findIn K (.ref C) "__eq__" = some (some (.ref f))) (hf : isFn K (.ref f) = true) (hu : A.units < cLine)
    (hcall : wpAny (model prog w) A (call (.ref f) [.ref x, b]) (fun v s' => ∃ c, v = .bool c ∧ Q (.done (.ret (.bool (!c)))) s') E s) :
    wpAny (model prog w) A (Builtin.«object.__ne__» ⟨[.ref x, b], []⟩) Q E s := by
  have one : wpAny (model prog w) A (callSpecialIfBound? (.ref x) (Str.ofString "__eq__") [b]) (fun r s' => ∃ c, r = some (.bool c) ∧ Q (.done (.ret (.bool (!c)))) s') E s :=
    ifBound_K X I hs hf (wpAny_mono hcall (fun v s' ⟨c, e, q⟩ => ⟨c, by rw [e], q⟩) fun _ _ e => e)
  obtain ⟨hp, g, d, t, os⟩ := s
  unfold Builtin.«object.__ne__»
  repeat (first
    | with_reducible refine wpAny_cRoomFor hu ?_
    | (refine wpAny_bind (m := callSpecialIfBound? (.ref x) (Str.ofString "__eq__") [b]) (wpAny_mono one (fun r s' hr => by
          obtain ⟨c, rfl, hq⟩ := hr
          repeat (first | exact hq | exact wpAny_pure hq | exact wpAny_truthy_bool hq | (refine wpAny_bind (m := truthy (.bool _)) (wpAny_truthy_bool ?_)) | wp_step)) fun _ _ e => e))
    | wp_step)
theorem vw_ne_K {Q : Value → Shared → Prop} (hu : A.units + 1 < cLine) (F : Fr h₀ L s.heap m) (X₀ : K.In h₀) (I : InstAt s.heap x ox C od) (hb : Looks (model prog w) s.heap (typeOf b) tb) (hn : notFirst K C tb = true)
    (hne : findIn K (.ref C) "__ne__" = some (some (.builtin "object.__ne__"))) (hob : mroIn K C (.type "object") = some true) (hs : findIn K (.ref C) "__eq__" = some (some (.ref f))) (hf : isFn K (.ref f) = true)
    (h : wpAny (model prog w) A.in1 (call (.ref f) [.ref x, b]) (fun v s' => ∃ c, v = .bool c ∧ Q (.bool (!c)) s') E s) : wpAny (model prog w) A (richCompare .NotEq (.ref x) b) Q E s := by
  have X := X₀.keeps F.keep
  have one : wpAny (model prog w) A (tryCompare (.ref x) (cmpInfo .NotEq).2.1 b) (fun r s' => ∃ v, r = some v ∧ Q v s') E s := by
    unfold tryCompare
    refine wpAny_bind (vw_bound_builtin X I hne (fun v => PySem.F.cmp_object.ne.bind v) (wpAny_call (codeAny_call_builtin PySem.F.cmp_object.ne.plain PySem.F.cmpEntry_ne
      (check_slot PySem.F.cmpKind_ne PySem.F.cmpSplit_ne (I.type.andThen (looks_mroIn X hob)) (PySem.F.cmpArgs_ne _ _) (vw_ne_entry (A := A.in1) X I hs hf hu (wpAny_mono h (fun v s' hv => ?_) fun _ _ e => e))))))
    obtain ⟨c, rfl, hq⟩ := hv
    first | exact ⟨c, rfl, wpAny_pure ⟨_, rfl, hq⟩⟩ | exact ⟨c, rfl, wpAny_pure (wpAny_pure ⟨_, rfl, hq⟩)⟩
  unfold richCompare
  simp only [oneThing_ref]
  refine wpAny_holding (wpAny_bind (wpAny_cRoomFor (Nat.lt_of_succ_lt hu) ?_))
  refine wpAny_bind (I.type.here (wpAny_bind (hb.here ?_)))
  split
  · rename_i q
    have e : subIn K tb (.ref C) = some false := by
      rcases Bool.or_eq_true_iff.mp hn with e | e
      · rw [beq_iff_eq.mp e] at q; simp at q
      · exact beq_iff_eq.mp e
    refine wpAny_bind ((looks_subIn X e).here ?_)
    simp only [Bool.false_eq_true, if_false]
    refine wpAny_bind (wpAny_mono one (fun r s' z => ?_) fun _ _ e => e)
    obtain ⟨v, rfl, hq⟩ := z
    exact wpAny_pure hq
  · refine wpAny_bind (wpAny_pure ?_)
    simp only [Bool.false_eq_true, if_false]
    refine wpAny_bind (wpAny_mono one (fun r s' z => ?_) fun _ _ e => e)
    obtain ⟨v, rfl, hq⟩ := z
    exact wpAny_pure hq
end
end PySem.W
namespace VW
open PySem PySem.Spec PyProof.Rows L2
section
variable {X : Cx} {CX : CXT} {k : Nat} {f C : Addr} {fd : FuncData} {ps : List Str} {sp : Sp} {E : XK}
/-- the callee runs one deeper -/
theorem run_in1 {pins : List (Addr × Obj)} {σ : L2.St} {H : Hp} {s : Shared} {Q : VK} {us : List Value} {vs : List V} (F : FnOk X.prog X.w X.K X.mg X.base CX k f fd ps sp) (hr : Room (k + 1) X.A) (hb : Binds X.K fd ps []) (hx : Passes CX X E)
    (I : Inv X pins σ H s) (r : Vals vs us) (h : sp vs H Q E) : wpAny (model X.prog X.w) X.A.in1 (call (.ref f) us) (EP X pins σ Q) X.xe s := by
  have hl : us.length = ps.length := by rw [← r.length]; exact F.len _ _ _ _ h
  have hb' := hb s us I.kIn (by rw [List.append_nil]; exact hl)
  rw [List.append_nil] at hb'
  refine wpAny_call (codeAny_mono (F.run X.A.in1 X.stack s H ⟨us, []⟩ us vs Q E hr.in1 I.env0.in1 hb' r h) fun r s' hq => ?_)
  cases r with
  | error e => exact hx pins σ H s e s' I hq
  | ok fl =>
    cases fl with
    | ret u => exact I.after hq
    | next => exact False.elim hq
    | brk => exact False.elim hq
    | cont => exact False.elim hq
/-- the class's own __eq__ -/
structure EqC (K : PySem.W.Frag) (C f : Addr) : Prop where
  eq : PySem.W.findIn K (.ref C) "__eq__" = some (some (.ref f))
  fn : PySem.W.isFn K (.ref f) = true
  ne : PySem.W.findIn K (.ref C) "__ne__" = some (some (.builtin "object.__ne__"))
  ob : PySem.W.mroIn K C (.type "object") = some true
/-- y's type does not go first -/
def NotFst (K : PySem.W.Frag) (C : Addr) (H : Hp) (y : V) : Prop := (∃ b dx fs, y = .ref b ∧ H b = some (.ins C dx fs)) ∨ ∃ t, TyX K H y t ∧ PySem.W.notFirst K C t = true
theorem notFst_at {pins : List (Addr × Obj)} {σ : L2.St} {H : Hp} {s : Shared} {y : V} {u : Value} (I : Inv X pins σ H s) (ry : RelV y u) (h : NotFst X.K C H y) : ∃ t, PySem.W.Looks (model X.prog X.w) s.heap (typeOf u) t ∧ PySem.W.notFirst X.K C t = true := by
  rcases h with ⟨b, dx, fs, rfl, eb⟩ | ⟨t, ty, hn⟩
  · cases (show u = Value.ref b from ry)
    obtain ⟨ox, od, J⟩ := ins_at I eb
    exact ⟨.ref C, J.type, by unfold PySem.W.notFirst; simp⟩
  · obtain ⟨P, Z, p, _⟩ := kit_of I ry ty
    exact ⟨t, Z.ty _ _ I.kIn p, hn⟩
def rEqO (K : PySem.W.Frag) (C : Addr) (sp : Sp) (E : XK) : R2 := fun x y H Q => ∃ a dx fs, x = .ref a ∧ H a = some (.ins C dx fs) ∧ NotFst K C H y ∧ sp [x, y] H Q E
theorem op_eqO (B : EqC X.K C f) (F : FnOk X.prog X.w X.K X.mg X.base CX k f fd ps sp) (hr : Room k X.A) (hb : Binds X.K fd ps []) (hx : Passes CX X E) : OpR X (compareOp .Eq) (rEqO X.K C sp E) := by
  intro pins s σ H x y v u Q I rx ry h
  obtain ⟨a, dx, fs, rfl, ea, hn, q⟩ := h
  cases (show v = Value.ref a from rx)
  obtain ⟨ox, od, J⟩ := ins_at I ea
  obtain ⟨t, ht, hn'⟩ := notFst_at I ry hn
  obtain ⟨m, hF⟩ := I.fr
  show wpAny _ _ (richCompare .Eq (.ref a) u) _ _ _
  refine PySem.W.cmp_K (op := .Eq) hr.units0 hF I.ok.mod.kin J ht hn' B.eq B.fn ?_
  refine wpAny_mono (run_fn (us := [.ref a, u]) (vs := [.ref a, y]) F hr hb .nil hx I (.cons rfl (.cons ry .nil)) q) (fun w s' z => ?_) fun _ _ x => x
  obtain ⟨z', H', I', rz, qz⟩ := z
  exact SlX.cmpback rz ⟨z', H', I', rz, qz⟩
def rNeO (K : PySem.W.Frag) (C : Addr) (sp : Sp) (E : XK) : R2 := fun x y H Q => ∃ a dx fs, x = .ref a ∧ H a = some (.ins C dx fs) ∧ NotFst K C H y ∧ sp [x, y] H (fun v H' => ∃ c, v = .bl c ∧ Q (.bl (!c)) H') E
theorem op_neO (B : EqC X.K C f) (F : FnOk X.prog X.w X.K X.mg X.base CX k f fd ps sp) (hr : Room (k + 1) X.A) (hb : Binds X.K fd ps []) (hx : Passes CX X E) : OpR X (compareOp .NotEq) (rNeO X.K C sp E) := by
  intro pins s σ H x y v u Q I rx ry h
  obtain ⟨a, dx, fs, rfl, ea, hn, q⟩ := h
  cases (show v = Value.ref a from rx)
  obtain ⟨ox, od, J⟩ := ins_at I ea
  obtain ⟨t, ht, hn'⟩ := notFst_at I ry hn
  obtain ⟨m, hF⟩ := I.fr
  show wpAny _ _ (richCompare .NotEq (.ref a) u) _ _ _
  refine PySem.W.vw_ne_K (hu_of hr) hF I.ok.mod.kin J ht hn' B.ne B.ob B.eq B.fn ?_
  refine wpAny_mono (run_in1 (us := [.ref a, u]) (vs := [.ref a, y]) F hr hb hx I (.cons rfl (.cons ry .nil)) q) (fun w s' z => ?_) fun _ _ x => x
  obtain ⟨z', H', I', rz, c, rfl, qz⟩ := z
  cases (show w = Value.bool c from rz)
  exact ⟨c, rfl, .bl (!c), H', I', rfl, qz⟩
/-- len(x) by __len__ -/
structure SpC (K : PySem.W.Frag) (C f : Addr) (m : Str) : Prop where
  at_ : PySem.W.findIn K (.ref C) m = some (some (.ref f))
  fn : PySem.W.isFn K (.ref f) = true
theorem call_lenO (B : SpC X.K C f "__len__") (F : FnOk X.prog X.w X.K X.mg X.base CX k f fd ps sp) (hr : Room (k + 1) X.A) (hb : Binds X.K fd ps []) (hx : Passes CX X E) :
    CallR X (.builtin "len") (fun xs H Q => ∃ a dx fs, xs = [.ref a] ∧ H a = some (.ins C dx fs) ∧ sp [.ref a] H (fun v H' => ∃ n : Nat, v = .int n ∧ n ≤ 1000000 ∧ Q (.int n) H') E) := by
  intro pins s σ H xs us Q I r h
  obtain ⟨a, dx, fs, rfl, ea, q⟩ := h
  obtain ⟨u, rfl, ru⟩ := vals1 r
  cases (show u = Value.ref a from ru)
  obtain ⟨ox, od, J⟩ := ins_at I ea
  obtain ⟨m, hF⟩ := I.fr
  refine PySem.W.len_K hF I.ok.mod.kin J B.at_ B.fn ?_
  refine wpAny_mono (run_in1 (us := [.ref a]) (vs := [.ref a]) F hr hb hx I (.cons rfl .nil) q) (fun w s' z => ?_) fun _ _ x => x
  obtain ⟨z', H', I', rz, n, rfl, hn, qz⟩ := z
  obtain ⟨t, rfl⟩ := (show ∃ t, w = Value.int n t from rz)
  exact ⟨⟨by omega, by omega⟩, .int n, H', I'.tok _, ⟨_, rfl⟩, qz⟩
/-- y in x, y not in x by __contains__ -/
theorem op_inO (B : SpC X.K C f "__contains__") (F : FnOk X.prog X.w X.K X.mg X.base CX k f fd ps sp) (hr : Room k X.A) (hb : Binds X.K fd ps []) (hx : Passes CX X E) :
    OpR X (compareOp .In) (fun y x H Q => ∃ a dx fs, x = .ref a ∧ H a = some (.ins C dx fs) ∧ sp [x, y] H (fun v H' => ∃ c, v = .bl c ∧ Q (.bl c) H') E) := by
  intro pins s σ H y x u v Q I ry rx h
  obtain ⟨a, dx, fs, rfl, ea, q⟩ := h
  cases (show v = Value.ref a from rx)
  obtain ⟨ox, od, J⟩ := ins_at I ea
  obtain ⟨m, hF⟩ := I.fr
  refine PySem.W.in_K hF I.ok.mod.kin J B.at_ B.fn ?_
  refine wpAny_mono (run_fn (us := [.ref a, u]) (vs := [.ref a, y]) F hr hb .nil hx I (.cons rfl (.cons ry .nil)) q) (fun w s' z => ?_) fun _ _ x => x
  obtain ⟨z', H', I', rz, c, rfl, qz⟩ := z
  cases (show w = Value.bool c from rz)
  exact wpAny_truthy_bool ⟨.bl c, H', I', rfl, qz⟩
theorem op_notInO (B : SpC X.K C f "__contains__") (F : FnOk X.prog X.w X.K X.mg X.base CX k f fd ps sp) (hr : Room k X.A) (hb : Binds X.K fd ps []) (hx : Passes CX X E) :
    OpR X (compareOp .NotIn) (fun y x H Q => ∃ a dx fs, x = .ref a ∧ H a = some (.ins C dx fs) ∧ sp [x, y] H (fun v H' => ∃ c, v = .bl c ∧ Q (.bl (!c)) H') E) := by
  intro pins s σ H y x u v Q I ry rx h
  obtain ⟨a, dx, fs, rfl, ea, q⟩ := h
  cases (show v = Value.ref a from rx)
  obtain ⟨ox, od, J⟩ := ins_at I ea
  obtain ⟨m, hF⟩ := I.fr
  refine PySem.W.notIn_K hF I.ok.mod.kin J B.at_ B.fn ?_
  refine wpAny_mono (run_fn (us := [.ref a, u]) (vs := [.ref a, y]) F hr hb .nil hx I (.cons rfl (.cons ry .nil)) q) (fun w s' z => ?_) fun _ _ x => x
  obtain ⟨z', H', I', rz, c, rfl, qz⟩ := z
  cases (show w = Value.bool c from rz)
  exact wpAny_truthy_bool ⟨.bl (!c), H', I', rfl, qz⟩
end
end VW

/-! data that stays; a def with a default and a star; making with a star -/
namespace VW
open PySem PySem.Spec PyProof.Rows L2 StX
mutual
theorem dp_same {K : PySem.W.Frag} {H H' : Hp} (e : Same H H') : ∀ (d : PyData) (v : V), Dp K H v d → Dp K H' v d
  | .none, _, h => by cases h; exact .non
  | .bool b, _, h => by cases h; exact .bl b
  | .int i, _, h => by cases h; exact .int i
  | .str x, _, h => by cases h; exact .str x
  | .list ds, _, h => by
    cases h with
    | lst h1 h2 => exact .lst (e.seq h1) (dpAll_same e ds _ h2)
  | .tuple ds, _, h => by
    cases h with
    | tup h1 h2 => exact .tup (same_t e h1) (dpAll_same e ds _ h2)
  | .dict _, _, h => by cases h
theorem dpAll_same {K : PySem.W.Frag} {H H' : Hp} (e : Same H H') : ∀ (ds : List PyData) (vs : List V), DpAll K H vs ds → DpAll K H' vs ds
  | [], _, h => by cases h; exact .nil
  | d :: ds, _, h => by
    cases h with
    | cons h1 h2 => exact .cons (dp_same e d _ h1) (dpAll_same e ds _ h2)
end
mutual
/-- no list within -/
def noL : PyData → Bool
  | .none | .bool _ | .int _ | .str _ => true
  | .list _ => false
  | .tuple ds => noLs ds
  | .dict _ => false
def noLs : List PyData → Bool
  | [] => true
  | d :: r => noL d && noLs r
end
mutual
theorem dp_kp {K : PySem.W.Frag} {s L : Addr} {H H' : Hp} (e : Kp s H H') (S : Src H s L) : ∀ (d : PyData) (v : V), noL d = true → Dp K H v d → Dp K H' v d
  | .none, _, _, h => by cases h; exact .non
  | .bool b, _, _, h => by cases h; exact .bl b
  | .int i, _, _, h => by cases h; exact .int i
  | .str x, _, _, h => by cases h; exact .str x
  | .list ds, _, n, _ => by simp [noL] at n
  | .tuple ds, _, n, h => by
    cases h with
    | tup h1 h2 => exact .tup (e.t S h1) (dpAll_kp e S ds _ (by simpa [noL] using n) h2)
  | .dict _, _, _, h => by cases h
theorem dpAll_kp {K : PySem.W.Frag} {s L : Addr} {H H' : Hp} (e : Kp s H H') (S : Src H s L) : ∀ (ds : List PyData) (vs : List V), noLs ds = true → DpAll K H vs ds → DpAll K H' vs ds
  | [], _, _, h => by cases h; exact .nil
  | d :: ds, _, n, h => by
    have n' : noL d = true ∧ noLs ds = true := by simpa [noLs] using n
    cases h with
    | cons h1 h2 => exact .cons (dp_kp e S d _ n'.1 h1) (dpAll_kp e S ds _ n'.2 h2)
end
mutual
/-- an instance p is being filled: what holds no list stays -/
theorem dp_ins {K : PySem.W.Frag} {p C dx : Addr} {fs : List (Str × V)} {H H' : Hp} (e : Kp p H H') (hp : H p = some (.ins C dx fs)) : ∀ (d : PyData) (v : V), Dp K H v d → Dp K H' v d
  | .none, _, h => by cases h; exact .non
  | .bool b, _, h => by cases h; exact .bl b
  | .int i, _, h => by cases h; exact .int i
  | .str x, _, h => by cases h; exact .str x
  | .list ds, _, h => by
    cases h with
    | lst h1 h2 =>
      refine .lst ?_ (dpAll_ins e hp ds _ h2)
      rcases h1 with (h | ⟨o, h⟩) | h
      · exact .inl (.inl (e _ _ h (ne_of h hp (by intro z; cases z))))
      · exact .inl (.inr ⟨o, e _ _ h (ne_of h hp (by intro z; cases z))⟩)
      · exact .inr h
  | .tuple ds, _, h => by
    cases h with
    | tup h1 h2 =>
      refine .tup ?_ (dpAll_ins e hp ds _ h2)
      rcases h1 with (h | ⟨o, h⟩) | h
      · exact .inl (.inl (e _ _ h (ne_of h hp (by intro z; cases z))))
      · exact .inl (.inr ⟨o, e _ _ h (ne_of h hp (by intro z; cases z))⟩)
      · exact .inr h
  | .dict _, _, h => by cases h
theorem dpAll_ins {K : PySem.W.Frag} {p C dx : Addr} {fs : List (Str × V)} {H H' : Hp} (e : Kp p H H') (hp : H p = some (.ins C dx fs)) : ∀ (ds : List PyData) (vs : List V), DpAll K H vs ds → DpAll K H' vs ds
  | [], _, h => by cases h; exact .nil
  | d :: ds, _, h => by
    cases h with
    | cons h1 h2 => exact .cons (dp_ins e hp d _ h1) (dpAll_ins e hp ds _ h2)
end
mutual
/-- a list at s is changed: what holds no list stays -/
theorem dp_kpl {K : PySem.W.Frag} {s : Addr} {xs : List V} {H H' : Hp} (e : Kp s H H') (hs : H s = some (.lst xs)) : ∀ (d : PyData) (v : V), noL d = true → Dp K H v d → Dp K H' v d
  | .none, _, _, h => by cases h; exact .non
  | .bool b, _, _, h => by cases h; exact .bl b
  | .int i, _, _, h => by cases h; exact .int i
  | .str x, _, _, h => by cases h; exact .str x
  | .list ds, _, n, _ => by simp [noL] at n
  | .tuple ds, _, n, h => by
    cases h with
    | tup h1 h2 =>
      refine .tup ?_ (dpAll_kpl e hs ds _ (by simpa [noL] using n) h2)
      rcases h1 with (h | ⟨o, h⟩) | h
      · exact .inl (.inl (e _ _ h (ne_of h hs (by intro z; cases z))))
      · exact .inl (.inr ⟨o, e _ _ h (ne_of h hs (by intro z; cases z))⟩)
      · exact .inr h
  | .dict _, _, _, h => by cases h
theorem dpAll_kpl {K : PySem.W.Frag} {s : Addr} {xs : List V} {H H' : Hp} (e : Kp s H H') (hs : H s = some (.lst xs)) : ∀ (ds : List PyData) (vs : List V), noLs ds = true → DpAll K H vs ds → DpAll K H' vs ds
  | [], _, _, h => by cases h; exact .nil
  | d :: ds, _, n, h => by
    have n' : noL d = true ∧ noLs ds = true := by simpa [noLs] using n
    cases h with
    | cons h1 h2 => exact .cons (dp_kpl e hs d _ n'.1 h1) (dpAll_kpl e hs ds _ n'.2 h2)
end
theorem dpAll_len {K : PySem.W.Frag} {H : Hp} : ∀ {vs : List V} {ds : List PyData}, DpAll K H vs ds → vs.length = ds.length
  | _, _, .nil => rfl
  | _, _, .cons _ t => congrArg Nat.succ (dpAll_len t)
theorem dpAll_get {K : PySem.W.Frag} {H : Hp} : ∀ {vs : List V} {ds : List PyData} {i : Nat} {v : V}, DpAll K H vs ds → vs[i]? = some v → ∃ d, ds[i]? = some d ∧ Dp K H v d
  | _, _, _, _, .nil, e => by cases e
  | _, _, 0, _, .cons h _, e => by cases e; exact ⟨_, rfl, h⟩
  | _, _, i + 1, _, .cons _ t, e => by
    obtain ⟨d, h1, h2⟩ := dpAll_get (i := i) t e
    exact ⟨d, h1, h2⟩
theorem dpAll_app {K : PySem.W.Frag} {H : Hp} : ∀ {vs ws : List V} {ds es : List PyData}, DpAll K H vs ds → DpAll K H ws es → DpAll K H (vs ++ ws) (ds ++ es)
  | _, _, _, _, .nil, h => h
  | _, _, _, _, .cons a t, h => .cons a (dpAll_app t h)
/-! ### refs as data -/
abbrev Rf := Str × Int
def refD (r : Rf) : PyData := cellD r.1 r.2
def tgD : Option Rf → PyData
  | none => .none
  | some r => refD r
theorem refD_noL (r : Rf) : noL (refD r) = true := rfl
theorem tgD_noL : ∀ t : Option Rf, noL (tgD t) = true
  | none => rfl
  | some _ => rfl
theorem refs_noL : ∀ so : List Rf, noLs (so.map refD) = true
  | [] => rfl
  | _ :: r => by
    show (true && noLs (r.map refD)) = true
    rw [refs_noL r]
    rfl
theorem refD_eqv (a b : Rf) : PyData.eqv (refD a) (refD b) = decide (a = b) := by
  obtain ⟨x, i⟩ := a
  obtain ⟨y, j⟩ := b
  simp only [refD, cellD, PyData.eqv, PyData.eqvAll, Bool.and_true, Prod.mk.injEq]
  by_cases h1 : x = y <;> by_cases h2 : i = j <;> simp [h1, h2]
theorem tgD_eqv : ∀ a b : Option Rf, PyData.eqv (tgD a) (tgD b) = decide (a = b)
  | none, none => rfl
  | none, some b => by simp [tgD, refD, cellD, PyData.eqv]
  | some a, none => by simp [tgD, refD, cellD, PyData.eqv]
  | some a, some b => by
    show PyData.eqv (refD a) (refD b) = _
    rw [refD_eqv]
    simp
theorem refs_eqv : ∀ a b : List Rf, PyData.eqvAll (a.map refD) (b.map refD) = decide (a = b)
  | [], [] => rfl
  | [], _ :: _ => rfl
  | _ :: _, [] => rfl
  | x :: a, y :: b => by
    show (PyData.eqv (refD x) (refD y) && PyData.eqvAll (a.map refD) (b.map refD)) = _
    rw [refD_eqv, refs_eqv a b]
    by_cases h1 : x = y <;> by_cases h2 : a = b <;> simp [h1, h2]
def okRf (r : Rf) : Prop := ascii r.1
theorem tgD_lay {t : Option Rf} (h : ∀ r, t = some r → okRf r) : PyData.canLay0 (tgD t) = true ∧ PyData.depth (tgD t) ≤ 60 := by
  cases t with
  | none => exact ⟨rfl, Nat.zero_le _⟩
  | some r => exact cellD_lay (h r rfl) _
theorem shaped_of {d : PyData} (h : PyData.canLay0 d = true ∧ PyData.depth d ≤ 60) : SeqAt.shaped d = true := by
  unfold SeqAt.shaped
  rw [h.1, Bool.true_and]
  exact decide_eq_true (by omega)
theorem refs_lay {so : List Rf} (h : ∀ r ∈ so, okRf r) : ∀ d ∈ so.map refD, PyData.canLay0 d = true ∧ PyData.depth d ≤ 60 := fun d hd => by
  obtain ⟨r, hr, rfl⟩ := List.mem_map.mp hd
  exact cellD_lay (h r hr) _
/-- a ref as a value -/
theorem ref_val {K : PySem.W.Frag} {H : Hp} {v : V} {r : Rf} (h : Dp K H v (refD r)) : ∃ t, v = .ref t ∧ SqT K H t [.str r.1, .int r.2] := by
  unfold refD cellD at h
  cases h with
  | tup h1 h2 =>
    cases h2 with
    | cons a b =>
      cases a
      cases b with
      | cons c d =>
        cases c
        cases d
        exact ⟨_, rfl, h1⟩
def goodRf (r : Rf) : Prop := isNm r.1 = true ∧ -9 ≤ r.2 ∧ r.2 ≤ 9
theorem ref_is {K : PySem.W.Frag} {H : Hp} {v : V} {r : Rf} (h : Dp K H v (refD r)) (hz : r.1.length ≤ sizeLine) (b : Bool) (hb : (isNm r.1 && (decide (-9 ≤ r.2) && decide (r.2 ≤ 9))) = b) : RefIs K H v b := by
  obtain ⟨t, rfl, ht⟩ := ref_val h
  subst hb
  exact .two ht (.str hz) (.int _)
theorem ref_good {K : PySem.W.Frag} {H : Hp} {v : V} {r : Rf} (h : Dp K H v (refD r)) (g : goodRf r) : RefIs K H v true := by
  refine ref_is h ?_ true ?_
  · have h8 := g.1
    unfold isNm at h8
    simp only [Bool.and_eq_true, decide_eq_true_eq] at h8
    exact sz_of (by omega)
  · rw [g.1, decide_eq_true g.2.1, decide_eq_true g.2.2]
    rfl
/-! ### a def with one default (None), a star behind it -/
section
variable {CX : CXT} {P : Program} {w : World} {K : PySem.W.Frag} {mg : Str → Option Value} {base : Heap} {k : Nat} {f T : Addr} {name qual : Str} {params : Arguments} {body : List Stmt} {scope : Scope} {kV doc pm cdv ct oc : Value} {an od : Option Addr}
  {osl : Array (Option Value)} {N : List Str} {sp : Sp} {p1 p2 p3 pv : Str} {oT : Obj} {nT : Nat}
theorem fn_starD (lk : K.lookup f = some ⟨oc, od, .func (PySem.W.fnOf name qual params body scope (.ref T) kV doc pm an cdv ct), osl⟩) (hcd : PySem.W.codeIn K cdv qual = true) (lT : K.lookup T = some oT) (dT : oT.data = .seq #[Value.none] nT)
    (S : FnScope N [p1, p2, p3, pv] scope) (hCX : CXUp CX)
    (hb3 : ∀ (a b c : Value) (rest : List Value), ∃ kk, bindArgs (PySem.W.fnOf name qual params body scope (.ref T) kV doc pm an cdv ct) ⟨a :: b :: c :: rest, []⟩ = seqItems? (.ref T) >>= kk ∧ kk (some #[Value.none]) = (newTuple rest >>= fun t => pure [(p1, a), (p2, b), (p3, c), (pv, t)]))
    (hb2 : ∀ (a b : Value), ∃ kk, bindArgs (PySem.W.fnOf name qual params body scope (.ref T) kV doc pm an cdv ct) ⟨[a, b], []⟩ = seqItems? (.ref T) >>= kk ∧ kk (some #[Value.none]) = (newTuple [] >>= fun t => pure [(p1, a), (p2, b), (p3, .none), (pv, t)]))
    (hbody : ∀ (A : Around) (outer : List Env) (s : Shared) (H : Hp) (vs : List V) (Q : VK) (E : XK), Room k (A.deeper (envOfC qual scope s.heap.objs.size f cdv)) → sp vs H Q E →
      ∃ t, PSs (cxOf CX P w K mg base N qual scope f cdv A outer s H E) body t ∧ t { nx := fun _ H' => Q .non H', rt := Q } (start N vs) H) :
    FnR P w K mg base CX (k + 1) f (fun vs H Q E => (∃ a b c rest, vs = a :: b :: c :: rest ∧ rest.length ≤ sizeLine ∧ ∀ p, H p = none → sp [a, b, c, .ref p] (upd H p (.tup rest)) Q E) ∨
      ∃ a b, vs = [a, b] ∧ ∀ p, H p = none → sp [a, b, .non, .ref p] (upd H p (.tup [])) Q E) := by
  intro A outer s H us vs Q E hr e0 r hsp
  have hn : H s.heap.objs.size = none := e0.hok.fresh (Nat.le_refl _)
  have KX : K.In s.heap := e0.mod.kin.keeps fun b o e => (e0.bs b o e).1
  have go : ∀ (a b c : V) (ua ub uc : Value) (rest : List V) (ur : List Value) (args : Args), RelV a ua → RelV b ub → RelV c uc → Vals rest ur → rest.length ≤ sizeLine → (∀ p, H p = none → sp [a, b, c, .ref p] (upd H p (.tup rest)) Q E) →
      (∃ kk, bindArgs (PySem.W.fnOf name qual params body scope (.ref T) kV doc pm an cdv ct) args = seqItems? (.ref T) >>= kk ∧ kk (some #[Value.none]) = (newTuple ur >>= fun t => pure [(p1, ua), (p2, ub), (p3, uc), (pv, t)])) →
      codeAny (model P w) A (.call (.ref f) args) (CR CX outer P w H s Q E) s := by
    intro a b c ua ub uc rest ur args ra rb rc rr hz hq hbind
    obtain ⟨kk, e1, e2⟩ := hbind
    have hl2 : ur.length ≤ sizeLine := by rw [← rr.length]; exact hz
    refine run_bnd lk hcd S hr e0 (G := fun xs H2 => ∃ p, H p = none ∧ xs = [a, b, c, V.ref p] ∧ H2 = upd H p (.tup rest)) (fun A' Ex Q' h => ?_) fun s2 H2 xs ⟨p, hp, ex, eH⟩ hr' => ?_
    · rw [e1]
      refine wpAny_bind (wpAny_seqItems (KX _ _ lT) dT ?_)
      rw [e2]
      refine wpAny_bind (wpAny_newTuple (wpAny_pure ?_) hl2)
      have new : ObjOk P w (upd H s.heap.objs.size (.tup rest)) (s.heap.push ({ cls := .type "tuple", data := .seq ur.toArray } : Obj)) s.heap.objs.size (.tup rest) := ⟨hz, ur, rr, ⟨_, Heap.get?_push_size _ rfl, rfl, _, rfl⟩⟩
      have un := un_laid (fs := frs outer) (s := s) (o := ({ cls := .type "tuple", data := .seq ur.toArray } : Obj)) (u := .tup rest) hn
      exact h _ _ [a, b, c, V.ref s.heap.objs.size] [ua, ub, uc, Value.ref s.heap.objs.size] (env0_laid e0 new) un rfl (fun e s' => hCX outer s H _ _ E e s' un (fun b o q => Heap.get?_push_of_some _ q) rfl) (.cons ra (.cons rb (.cons rc (.cons rfl .nil)))) rfl ⟨_, hn, rfl, rfl⟩
    · subst ex eH
      exact hbody A outer s2 _ _ Q E hr' (hq p hp)
  rcases hsp with ⟨a, b, c, rest, rfl, hz, hq⟩ | ⟨a, b, rfl, hq⟩
  · cases r with
    | cons ra r =>
      cases r with
      | cons rb r =>
        cases r with
        | cons rc rr => exact go a b c _ _ _ rest _ _ ra rb rc rr hz hq (hb3 _ _ _ _)
  · cases r with
    | cons ra r =>
      cases r with
      | cons rb rr =>
        cases rr
        exact go a b .non _ _ .none [] [] _ ra rb rfl .nil (Nat.zero_le _) hq (hb2 _ _)
end
section
variable {X : Cx} {CX : CXT} {k : Nat} {f C : Addr} {sp : Sp} {E : XK} {x : Str} {e : Expr} {es : List Expr} {t : TA} {p pos : Pos}
/-- C(e, .., *y) -/
theorem pe_makeS (M : Mk X.K C f) (F : FnR X.prog X.w X.K X.mg X.base CX k f sp) (hr : Room (k + 1) X.A) (hg : Gl X x) (hm : X.mg x = some (.ref C)) (hx : Passes CX X E) (ha : PA X (e :: es) t) (hdb : (x == ("__debug__" : Str)) = false := by decide)
    (he : starEach (e :: es) X.env = (false, eval e X.env) :: starEach es X.env := by rfl) (hst : (backTo pos (starEach es X.env)).any (·.1) = true := by rfl) : PE X (.Call (.Name x p) (e :: es) [] pos) (tMakeR C sp E t) := by
  refine ⟨fun pins s σ H Q I h => ?_⟩
  refine wpAny_Call_Name_kw (ld_glob I hg hm ?_ hdb)
  refine PySem.W.callWith_S2 (h₀ := X.base) I.ok.mod.kin M.kp (thn (ha.run pos pins s σ H _ I h) fun us s1 ⟨vs, H1, I1, r, q⟩ => ⟨I1.kIn, ?_⟩) he hst
  exact run_makeR M F hr hx I1 r q
end
end VW

/-! isinstance of a caught own error that has a field -/
namespace PySem.W
open PySem PySem.Spec PySem.Calls PyProof.Rows
section
variable {prog : Program} {w : World} {A : Around} {E : Value → Shared → Prop} {s : Shared} {K : Frag} {x D : Addr} {ox : Obj} {od : Option Obj}
theorem vw_findObj {C : Addr} {name : Str} {a g : Value} (hc : (clsIn K C).isSome = true) (ha : findIn K (.ref C) name = some (some a)) (hg : specialIn K a "__get__" = some (some g)) (ht : takesIn K a = some true) : findObj K C od name = some (.bind g a) := by
  obtain ⟨cd, hc⟩ := Option.isSome_iff_exists.mp hc
  unfold findObj
  rw [hc, Option.bind_some, ha, Option.bind_some]
  simp [hg, ht]
theorem vw_classE {Q : Option Value → Shared → Prop} (hga : findIn K (.ref D) "__getattribute__" = some (some (.builtin "BaseException.__getattribute__"))) (hgt : findIn K (.ref D) "__getattr__" = some none) (hsub : subIn K (.ref D) (.type "BaseException") = some true)
    (hdct : hasDictIn K D = true) (ha : findIn K (.ref D) "__class__" = some (some (.builtin "object.__class__")))
    (hn : specialIn K (.builtin "object.__class__") "__get__" = some (some (.builtin "getset_descriptor.__get__"))) (htk : takesIn K (.builtin "object.__class__") = some true) (hm : mroIn K D (.type "object") = some true)
    (X : K.In s.heap) (I : InstAt s.heap x ox D od) (h : Q (some (.ref D)) { s with toks := s.toks + 1 }) : wpAny (model prog w) A (getAttr? (.ref x) "__class__") Q E s := by
  have hf : findObj K D od "__class__" = some (.bind (.builtin "getset_descriptor.__get__") (.builtin "object.__class__")) := vw_findObj (by obtain ⟨cd, hc, _⟩ := any_some hdct; rw [hc]; rfl) ha hn htk
  obtain ⟨hp, g, d, t, os⟩ := s
  have L0 := I.type (M := model prog w)
  have L1 := looks_findIn (M := model prog w) X hga
  have L2 := looks_findIn (M := model prog w) X hgt
  have L3 := looks_find (M := model prog w) X I hf
  have sub : Looks (model prog w) hp (isInstance (.ref x) (.type "BaseException")) true := L0.andThen (looks_subIn X hsub)
  have hx0 : (false && onTheHeap (Value.builtin "BaseException.__getattribute__")) = false := rfl
  have hx2 : (Value.builtin "BaseException.__getattribute__" == Value.builtin "object.__getattribute__") = false := by decide +kernel
  have hx1 : (onTheHeap (Value.ref D) && Value.builtin "BaseException.__getattribute__" == Value.builtin "object.__getattribute__") = false := by rw [hx2]; rfl
  unfold getAttr? getAttrBy? getAttrBy
  refine wpAny_bind (wpAny_mkText (wpAny_bind (wpAny_attempt (wpAny_holding (wpAny_bind (L0.at (wpAny_bind (L1.at ?_))))))))
  show wpAny _ _ (if (onTheHeap (Value.ref D) && Value.builtin "BaseException.__getattribute__" == Value.builtin "object.__getattribute__") = true then _ else _) _ _ _
  rw [hx1, if_neg Bool.false_ne_true]
  unfold getAttrByItsOwn hookBefore
  refine wpAny_bind ?_
  rw [if_pos (show onTheHeap (Value.ref D) = true from rfl)]
  refine L2.at ?_
  refine wpAny_bind (wpAny_attempt (wpAny_holding ?_))
  unfold callGetattribute
  rw [hx0, if_neg Bool.false_ne_true]
  unfold boundAndCalled
  rw [PySem.F.excAttr_ValueError.ga.bind (.ref x)]
  refine wpAny_bind (wpAny_pure ?_)
  show wpAny _ _ (call (.builtin "BaseException.__getattribute__") [.ref x, .str "__class__" t]) _ _ _
  refine wpAny_call (codeAny_call_builtin PySem.F.excAttr_ValueError.ga.plain PySem.F.entry_bexc_ga ?_)
  refine @check_slot (model prog w) _ _ ⟨hp, g, d, t + 1, os⟩ "BaseException.__getattribute__" "BaseException" "__getattribute__" (.ref x) [.str "__class__" t] [] _ (by decide +kernel) (by decide +kernel) sub (PySem.F.args_bexc_ga (.ref x) (.str "__class__" t)) ?_
  unfold Builtin.«object.__getattribute__»
  refine wpAny_bind (wpAny_of_eq (a := ((Value.ref x : Value), [Value.str "__class__" t])) (by first | rfl | (simp only [slotArgs]; rfl)) ?_)
  refine wpAny_bind (wpAny_pure (wpAny_bind (L0.at (wpAny_bind (L3.at ?_)))))
  show wpAny _ _ (holding [Value.builtin "object.__class__"] (call (.builtin "getset_descriptor.__get__") [.builtin "object.__class__", .ref x, .ref D]) >>= ret) _ _ _
  refine wpAny_bind (wpAny_holding (wpAny_call (class_get (s := ⟨hp, g, d, t + 1, os⟩) (ox := ox) (od := od) X I hm ?_)))
  refine wpAny_pure ?_
  show wpAny _ _ (handedOut (.ref D)) _ _ _
  rw [handedOut_of (v := .ref D) rfl]
  first
    | exact wpAny_pure (wpAny_pure h)
    | exact wpAny_pure h
    | exact wpAny_pure (wpAny_bind (wpAny_pure (wpAny_pure h)))
theorem vw_kitx (hga : findIn K (.ref D) "__getattribute__" = some (some (.builtin "BaseException.__getattribute__"))) (hgt : findIn K (.ref D) "__getattr__" = some none) (hsub : subIn K (.ref D) (.type "BaseException") = some true) (hdct : hasDictIn K D = true) (ha : findIn K (.ref D) "__class__" = some (some (.builtin "object.__class__")))
    (hn : specialIn K (.builtin "object.__class__") "__get__" = some (some (.builtin "getset_descriptor.__get__"))) (htk : takesIn K (.builtin "object.__class__") = some true) (hm : mroIn K D (.type "object") = some true) :
    KitX K (.ref x) (.ref D) (fun h => InstAt h x ox D od) where
  ty := fun _ _ _ I => I.type
  it := fun _ _ X _ => by
    obtain ⟨cdD, hcD, _⟩ := any_some hdct
    unfold clsIn at hcD
    split at hcD
    · rename_i c' d' cd' sl' ho
      intro A' Q' E' s' k q
      unfold isType loadHead
      exact wpAny_bind (wpAny_loadPart (k _ _ (X _ _ ho)) (wpAny_pure q))
    · cases hcD
  ne := fun h tp dd its n sl X htp => by
    obtain ⟨cdD, hcD, _⟩ := any_some hdct
    refine Bool.eq_false_iff.mpr fun q => ?_
    have e : D = tp := Value.ref.inj (beq_iff_eq.mp q)
    subst e
    unfold clsIn at hcD
    split at hcD
    · rename_i c' d' cd' sl' ho
      have z := (X _ _ ho).symm.trans htp
      cases z
    · cases hcD
  ca := fun X I k => vw_classE hga hgt hsub hdct ha hn htk hm X I k
end
end PySem.W
namespace VW
open PySem PySem.Spec PyProof.Rows L2
/-- isinstance(e, c), e the exception that the suite holds, of the class D, with the dict dd -/
def rIsD (K : PySem.W.Frag) (D a : Addr) (cls : Value) (d : Option Addr) : List V → Hp → VK → Prop := fun xs H Q => ∃ (c : V) (cv : Value) (b : Bool) (dd : Addr) (fs : List (Str × V)), xs = [.ref a, c] ∧ cls = .ref D ∧ d = some dd ∧ H dd = some (.xd fs) ∧ ClsV c cv ∧ PySem.W.kitOne K (.ref D) cv = some b ∧ Q (.bl b) H
theorem call_isD {X : Cx} {a D : Addr} {oe : Obj} {cls : Value} {d : Option Addr} {pn : List (Addr × Obj)} (C : ExcC X.K D) (hz : Zc cls d oe) (hf : ∃ vs, oe.data = .fields vs) : CallR (X.suite a ((a, oe) :: pn)) (.builtin "isinstance") (rIsD X.K D a cls d) := by
  intro pins s σ H xs us Q I r h
  obtain ⟨c, cv, b, dd, fs, rfl, ec, ed, hd, k, e, q⟩ := h
  subst ec
  subst ed
  obtain ⟨u1, u2, rfl, rx, rt⟩ := vals2 r
  cases (show u1 = Value.ref a from rx)
  have e2 := k.eq rt
  subst e2
  obtain ⟨hget, _⟩ := I.pin (a, oe) (List.mem_append.mpr (.inl List.mem_cons_self))
  obtain ⟨vs, hv⟩ := hf
  obtain ⟨mA, hns, hr⟩ := (show ObjOk X.prog X.w H s.heap dd (.xd fs) from I.hok dd _ hd)
  obtain ⟨od, ho, hl⟩ := lookIn_ns hns
  have J : PySem.W.InstAt s.heap a oe D (some od) := ⟨hget, hz.1, by unfold PySem.W.notCls; rw [hv] <;> rfl, by rw [hz.2]; exact ho⟩
  exact PySem.W.kia_one (PySem.W.vw_kitx C.hg C.hk C.hs C.hd C.ha C.hn C.ht C.hm) I.kIn J e (fun z => nomatch z) fun tk => ⟨.bl b, H, I.kept (t' := tk) fun _ _ z => z, rfl, q⟩
end VW

/-! what is shown of lists and tuples: promises for calls under no guard -/
namespace VW
open PySem PySem.Spec PyProof.Rows L2
section
variable {P : Program} {w : World} {K : PySem.W.Frag} {mg : Str → Option Value} {base : Heap} {CX : CXT} {k : Nat} {f : Addr} {fd : FuncData} {ps : List Str} {sp : Sp}
/-- a promise that holds where no repr is under way -/
structure FnG (P : Program) (w : World) (K : PySem.W.Frag) (mg : Str → Option Value) (base : Heap) (CX : CXT) (k : Nat) (f : Addr) (fd : FuncData) (ps : List Str) (sp : Sp) : Prop where
  len : ∀ vs H Q E, sp vs H Q E → vs.length = ps.length
  run : ∀ (A : Around) (outer : List Env) (s : Shared) (H : Hp) (args : Args) (us : List Value) (vs : List V) (Q : VK) (E : XK), A.guards = some [] → Room k A → Env0 P w K mg base A outer s H → BindsTo s fd args (ps.zip us) → Vals vs us → sp vs H Q E →
    codeAny (model P w) A (.call (.ref f) args) (CR CX outer P w H s Q E) s
theorem okG {x qual : Str} {st : Stmt} {N : List Str} (F : Fun K x qual st f fd) (S : FnScope N ps (defScope st)) (len : ∀ vs H Q E, sp vs H Q E → vs.length = ps.length)
    (hbody : ∀ (cdv : Value) (A : Around) (outer : List Env) (s : Shared) (H : Hp) (vs : List V) (Q : VK) (E : XK), A.guards = some [] → Room k (A.deeper (envOfC qual (defScope st) s.heap.objs.size f cdv)) → sp vs H Q E →
      ∃ t, PSs (cxOf CX0 P w K mg base N qual (defScope st) f cdv A outer s H E).nox (defBody st) t ∧ t { nx := fun _ H' => Q .non H', rt := Q } (start N vs) H) : FnG P w K mg base CX0 (k + 1) f fd ps sp := by
  obtain ⟨oc, od, kV, doc, pm, an, cdv, ct, osl, rfl, lk, hcd⟩ := F.ex
  refine ⟨len, fun A outer s H args us vs Q E hg hr e0 hb r hsp => ?_⟩
  refine StX.run_bnd lk hcd S hr e0 (G := fun xs H2 => xs = vs ∧ H2 = H ∧ True) (fun A' Ex Q' h => hb _ _ _ _ (h s H vs us e0 (Un.refl ..) rfl (fun _ _ z => z) r (len _ _ _ _ hsp) ⟨rfl, rfl, trivial⟩)) fun s2 H2 xs hG hr' => ?_
  obtain ⟨rfl, rfl, _⟩ := hG
  obtain ⟨t, h1, h2⟩ := hbody cdv A outer s2 _ _ Q E hg hr' hsp
  exact ⟨t, h1.nox, h2⟩
end
section
variable {X : Cx} {CX : CXT} {k : Nat} {f : Addr} {fd : FuncData} {ps : List Str} {sp : Sp} {E : XK} {x : Str} {e : Expr} {es : List Expr} {t : TA} {p pos : Pos}
theorem run_fnG {pins : List (Addr × Obj)} {σ : L2.St} {H : Hp} {s : Shared} {Q : VK} {us : List Value} {vs : List V} (hgd : X.A.guards = some []) (F : FnG X.prog X.w X.K X.mg X.base CX k f fd ps sp) (hr : Room k X.A) (hb : Binds X.K fd ps []) (hx : Passes CX X E)
    (I : Inv X pins σ H s) (r : Vals vs us) (h : sp vs H Q E) : wpAny (model X.prog X.w) X.A (call (.ref f) us) (EP X pins σ Q) X.xe s := by
  have hl : us.length = ps.length := by rw [← r.length]; exact F.len _ _ _ _ h
  have hb' := hb s us I.kIn (by rw [List.append_nil]; exact hl)
  rw [List.append_nil] at hb'
  refine wpAny_call (codeAny_mono (F.run X.A X.stack s H ⟨us, []⟩ us vs Q E hgd hr I.env0 hb' r h) fun r s' hq => ?_)
  cases r with
  | error e => exact hx pins σ H s e s' I hq
  | ok fl =>
    cases fl with
    | ret u => exact I.after hq
    | next => exact False.elim hq
    | brk => exact False.elim hq
    | cont => exact False.elim hq
theorem pe_callG (hgd : X.A.guards = some []) (F : FnG X.prog X.w X.K X.mg X.base CX k f fd ps sp) (hr : Room k X.A) (hg : Gl X x) (hm : X.mg x = some (.ref f)) (hk : PySem.W.keepIn X.K (.ref f) = true) (hb : Binds X.K fd ps []) (hx : Passes CX X E)
    (ha : PA X (e :: es) t) (hdb : (x == ("__debug__" : Str)) = false := by decide) (he : starEach (e :: es) X.env = (false, eval e X.env) :: starEach es X.env := by rfl) (hpl : (backTo pos (starEach es X.env)).any (·.1) = false := by rfl) :
    PE X (.Call (.Name x p) (e :: es) [] pos) (fun σ H Q => t σ H fun vs H1 => sp vs H1 Q E) := by
  refine ⟨fun pins s σ H Q I h => ?_⟩
  refine wpAny_Call_Name_kw (ld_glob I hg hm ?_ hdb)
  refine PySem.W.callWith_K (h₀ := X.base) I.ok.mod.kin hk (thn (ha.run pos pins s σ H _ I h) fun us s1 ⟨vs, H1, I1, r, q⟩ => ⟨I1.kIn, ?_⟩) he hpl
  exact run_fnG hgd F hr hb hx I1 r q
/-- the text that repr gives: scalars, or data of lists and tuples -/
inductive ReprD (K : PySem.W.Frag) (H : Hp) : V → Str → Prop
  | sc {v : V} {z : Str} (h : ReprIs v z) : ReprD K H v z
  | dt {a : Addr} {d : PyData} (h : Dp K H (.ref a) d) (h1 : d.showable = true) (h2 : d.hasDict = false) (h3 : d.depth ≤ 60) (h4 : d.shown.length ≤ sizeLine) : ReprD K H (.ref a) d.shown
theorem call_reprG (hgd : X.A.guards = some []) (hu : X.A.units + 64 < cLine) : CallR X (.builtin "repr") (fun xs H Q => ∃ v z, xs = [v] ∧ ReprD X.K H v z ∧ Q (.str z) H) := by
  intro pins s σ H xs us Q I r h
  obtain ⟨v, z, rfl, hz, q⟩ := h
  cases hz with
  | sc hz => exact call_reprF pins s σ H _ us Q I r ⟨v, z, rfl, hz, q⟩
  | dt hd h1 h2 h3 h4 =>
    rename_i a d
    obtain ⟨u, rfl, ru⟩ := vals1 r
    cases (show u = Value.ref a from ru)
    obtain ⟨as, rd⟩ := Dp.reads I d _ _ hd ru
    exact PySem.repr_of_reads' rd h1 (fun e => by rw [h2] at e; cases e) hgd (by omega) (fun _ _ z => z) (fun h' u tk hk => ⟨.str _, H, I.kept (t' := tk) hk, ⟨_, rfl⟩, q⟩) h4
end
/-! ### the head -/
theorem law_callG {P : Program} {w : World} {K : PySem.W.Frag} {mg mb : Str → Option Value} {CX : CXT} {k : Nat} {fa a : Addr} {fd : FuncData} {x : Str} {sp : Sp} {s₁ : Shared} {vs : List Value} {ns : List Int}
    (KX : K.In s₁.heap) (hns : s₁.heap.Ns mainGlobals mg) (hb : s₁.heap.Ns builtinsNs mb) (hbb : ∀ x : Str, x ≠ "__name__" → mb x = bootBuiltins x) (hlim : s₁.heap.NoLimit) (hg : s₁.gens = #[])
    (ha : s₁.heap.get? a = some { cls := .type "list", data := .seq vs.toArray }) (hi : IntsAre vs ns) (hl : ns.length ≤ sizeLine) (hr : Room k callerA)
    (F : ∀ base : Heap, K.In base → base.Ns mainGlobals mg → FnG P w K mg base CX k fa fd [x] sp) (hbind : ∀ (s : Shared) (u : Value), BindsTo s fd ⟨[u], []⟩ [(x, u)])
    (hsp : ∀ H : Hp, Only H → SqL K H a (ns.map V.int) → sp [.ref a] H (fun v _ => v = .bl true) fun _ _ _ => False)
    (hCX : ∀ H e s', CX [] H s₁ (fun _ _ _ => False) e s' → False) :
    codeAny (model P w) callerA (.call (.ref fa) ⟨[.ref a], []⟩) (fun r s' => r = .ok (.ret (.bool true)) ∧ OldK s₁.heap s'.heap ∧ s'.os = s₁.os ∧ AllBare s'.gens) s₁ := by
  -- what is tracked at the start: the script, if it is not the module's own
  obtain ⟨H, hO, hS, hok, own⟩ : ∃ H : Hp, Only H ∧ SqL K H a (ns.map V.int) ∧ HOk P w H s₁.heap ∧ ∀ b, H b ≠ none → b = a ∧ K.lookup b = none := by
    have rv := vals_ints hi
    cases hk : K.lookup a with
    | some o =>
      have e := KX a o hk
      rw [ha] at e
      cases e
      refine ⟨fun _ => none, fun _ => .inl rfl, .inr ⟨_, vs.toArray, _, hk, rfl, rfl, rfl, ?_, by simpa using rv⟩, fun b u z => ?_, fun b z => absurd rfl z⟩
      · rw [List.size_toArray, hi.length]
        exact hl
      · exact absurd (show (none : Option HO) = some u from z) (by simp)
    | none =>
      have other : ∀ b, b ≠ a → (upd (fun _ => none) a (.frz { cls := .type "list", data := .seq vs.toArray } (.lst (ns.map V.int))) : Hp) b = none := fun b n => upd_ne n
      refine ⟨upd (fun _ => none) a (.frz { cls := .type "list", data := .seq vs.toArray } (.lst (ns.map V.int))), fun b => ?_, .inl (.inr ⟨_, upd_same⟩), fun b u z => ?_, fun b z => ?_⟩
      · by_cases c : b = a
        · rw [c]
          exact .inr ⟨_, _, upd_same⟩
        · exact .inl (other b c)
      · by_cases c : b = a
        · subst c
          rw [upd_same] at z
          cases z
          exact ⟨ha, by rw [List.length_map]; exact hl, vs, _, rv, ha⟩
        · rw [other b c] at z
          cases z
      · by_cases c : b = a
        · rw [c]
          exact ⟨rfl, hk⟩
        · exact absurd (other b c) z
  have free : ∀ b o, s₁.heap.get? b = some o → (∀ xs n, o.data ≠ .seq xs n) → H b = none := fun b o e d => by
    cases q : H b with
    | none => rfl
    | some u =>
      obtain ⟨e', _⟩ := own b (by rw [q]; simp)
      rw [e', ha] at e
      cases e
      exact absurd rfl (d _ _)
  have ns' : ∀ {b : Addr} {m : Str → Option Value}, s₁.heap.Ns b m → (hidT s₁.heap H).Ns b m := fun {b m} ⟨o, es, ep, e, d, r⟩ => ⟨o, es, ep, hidT_get e (free b o e fun xs n z => by rw [d] at z; cases z), d, r⟩
  have kin : K.In (hidT s₁.heap H) := fun b o e => hidT_get (KX b o e) (by
    cases q : H b with
    | none => rfl
    | some u =>
      obtain ⟨_, e'⟩ := own b (by rw [q]; simp)
      rw [e'] at e
      cases e)
  have e0 : Env0 P w K mg (hidT s₁.heap H) callerA [] s₁ H := { frames := rfl, mod := ⟨kin, ns' hns, ⟨mb, ns' hb, hbb⟩, let ⟨mc, h1, h2⟩ := hlim; ⟨mc, ns' h1, h2⟩⟩, bs := fun b o e => of_hidT e, bsz := Nat.le_of_eq (hidT_size _ _), funs := trivial, frf := fun b hb => (by cases hb), hok := hok, bare := .of_eq hg }
  refine codeAny_mono ((F _ kin (ns' hns)).run callerA [] s₁ H ⟨[.ref a], []⟩ [.ref a] [.ref a] _ _ rfl hr e0 (hbind s₁ (.ref a)) (.cons rfl .nil) (hsp H hO hS)) fun r s' h => ?_
  cases r with
  | error e => exact (hCX H e s' h).elim
  | ok fl =>
    cases fl with
    | next => exact False.elim h
    | brk => exact False.elim h
    | cont => exact False.elim h
    | ret u =>
      obtain ⟨v, H', os, bare, un, hok', r', q⟩ := h
      cases (show v = .bl true from q)
      cases (show u = Value.bool true from r')
      refine ⟨rfl, OldK.of_keep fun b o e => ?_, os, bare⟩
      rcases hO b with z | ⟨ob, xs, z⟩
      · exact un.keep b o e z (fun z => by cases z) (by simp)
      · have e1 := (hok b _ z).1
        rw [e] at e1
        cases e1
        exact (hok' b _ (un.frzs b _ _ z)).1
theorem walk_ofG {l : PySem.W.OpenLaw} {n k : Nat} {q : Program} {loose : List Str} {XP : (Str → Option Value) → Heap → Prop} {YP : World → Heap → Prop} {d : DefRec} {K : Params → PySem.W.Frag} {CX : World → CXT} {sp : World → Sp} {x : Str}
    (hn : l.most = some n) (hn2 : n ≤ sizeLine) (hdf : d.params.defaults = []) (hr : Room k callerA)
    (hY : ∀ (w : World) (h : Heap), YP w h → (K w.params).In h)
    (F : ∀ (w : World) (mg : Str → Option Value) (fa : Addr) (h : Heap), (K w.params).In h → h.Ns mainGlobals mg → mg d.name = some (.ref fa) →
      ∃ fd : FuncData, (∀ (s : Shared) (u : Value), BindsTo s fd ⟨[u], []⟩ [(x, u)]) ∧
        ∀ base : Heap, (K w.params).In base → base.Ns mainGlobals mg → FnG l.prog w (K w.params) mg base (CX w) k fa fd [x] (sp w))
    (hsp : ∀ (w : World) (H : Hp) (a : Addr) (ns : List Int), ns.length ≤ n → Only H → SqL (K w.params) H a (ns.map V.int) → sp w [.ref a] H (fun v _ => v = .bl true) fun _ _ _ => False)
    (hCX : ∀ (w : World) (H : Hp) (s : Shared) (e : Value) (s' : Shared), CX w [] H s (fun _ _ _ => False) e s' → False) :
    PySem.W.WalkO q loose XP YP l.row.toRowW d [] (fun f vs => PySem.call f vs) := by
  refine Att.attach_call hn hdf fun w s₀ s₁ mg mb fa o pm cd doc a vs ns G Y ho hd hcd hmg hobj hints hlen hg => ?_
  have KX := hY w _ Y
  obtain ⟨fd, hb, hF⟩ := F w mg fa _ KX G.T.g hmg
  exact law_callG KX G.T.g G.T.b G.T.builtins G.T.nolimit hg hobj hints (Nat.le_trans hlen hn2) hr hF hb (fun H hO hS => hsp w H a ns hlen hO hS) fun H e s' => hCX w H s₁ e s'
end VW

/-! the head of a law that makes lambdas, under no guard -/
namespace VW
open PySem PySem.Spec PyProof.Rows L2 LamX
/-- law_callG with the tables of code objects cs -/
theorem law_callTG {P : Program} {w : World} {K : PySem.W.Frag} {mg mb : Str → Option Value} {CX : CXT} {k : Nat} {fa a : Addr} {cs : List (Addr × Addr)} {fd : FuncData} {x : Str} {sp : Sp} {s₁ : Shared} {vs : List Value} {ns : List Int}
    (KX : K.In s₁.heap) (hns : s₁.heap.Ns mainGlobals mg) (hb : s₁.heap.Ns builtinsNs mb) (hbb : ∀ x : Str, x ≠ "__name__" → mb x = bootBuiltins x) (hlim : s₁.heap.NoLimit) (hg : s₁.gens = #[])
    (hT : ∀ p ∈ cs, s₁.heap.get? p.2 = some { cls := .none, data := .fields #[] }) (nT : ∀ p ∈ cs, K.lookup p.2 = none) (C : ∀ p ∈ cs, PySem.W.CodeHd s₁.heap p.1 p.2)
    (hbm : ∃ (bm : Addr) (ob : Obj), mg "__builtins__" = some (.ref bm) ∧ bm ≠ builtinsNs ∧ s₁.heap.get? bm = some ob ∧ ob.cls = .type "module" ∧ ob.dict = some builtinsNs ∧ ob.data = .plain)
    (ha : s₁.heap.get? a = some { cls := .type "list", data := .seq vs.toArray }) (hi : IntsAre vs ns) (hl : ns.length ≤ sizeLine) (hr : Room k callerA)
    (F : ∀ base : Heap, K.In base → base.Ns mainGlobals mg → (∀ p ∈ cs, TabB base mg p.1 p.2) → FnG P w K mg base CX k fa fd [x] sp) (hbind : ∀ (s : Shared) (u : Value), BindsTo s fd ⟨[u], []⟩ [(x, u)])
    (hsp : ∀ H : Hp, (∀ p ∈ cs, H p.2 = some (.tbl #[])) → SqL K H a (ns.map V.int) → sp [.ref a] H (fun v _ => v = .bl true) fun _ _ _ => False)
    (hCX : ∀ H e s', CX [] H s₁ (fun _ _ _ => False) e s' → False) :
    codeAny (model P w) callerA (.call (.ref fa) ⟨[.ref a], []⟩) (fun r s' => r = .ok (.ret (.bool true)) ∧ OldK s₁.heap s'.heap ∧ s'.os = s₁.os ∧ AllBare s'.gens) s₁ := by
  have tab : ∀ b, b ∈ cs.map (·.2) → s₁.heap.get? b = some { cls := .none, data := .fields #[] } := fun b h => by
    obtain ⟨p, hp, rfl⟩ := List.mem_map.mp h
    exact hT p hp
  have aT : a ∉ cs.map (·.2) := fun z => by
    have q := (tab a z).symm.trans ha
    cases q
  -- what is tracked at the start: the tables, and the script if it is not the module's own
  let H0 : Hp := fun b => if b ∈ cs.map (·.2) then some (.tbl #[]) else none
  have h0T : ∀ b, b ∈ cs.map (·.2) → H0 b = some (.tbl #[]) := fun b h => if_pos h
  have h0N : ∀ b, b ∉ cs.map (·.2) → H0 b = none := fun b h => if_neg h
  obtain ⟨H, hH, hO, hS, hok, own⟩ : ∃ H : Hp, (∀ p ∈ cs, H p.2 = some (.tbl #[])) ∧ (∀ b, H b = none ∨ b ∈ cs.map (·.2) ∨ ∃ o xs, H b = some (.frz o (.lst xs))) ∧ SqL K H a (ns.map V.int) ∧ HOk P w H s₁.heap ∧ ∀ b, H b ≠ none → b ∈ cs.map (·.2) ∨ (b = a ∧ K.lookup b = none) := by
    have rv := vals_ints hi
    cases hk : K.lookup a with
    | some o =>
      have e := KX a o hk
      rw [ha] at e
      cases e
      refine ⟨H0, fun p hp => h0T _ (List.mem_map.mpr ⟨p, hp, rfl⟩), fun b => ?_, .inr ⟨_, vs.toArray, _, hk, rfl, rfl, rfl, ?_, by simpa using rv⟩, fun b u z => ?_, fun b z => ?_⟩
      · by_cases c : b ∈ cs.map (·.2)
        · exact .inr (.inl c)
        · exact .inl (h0N b c)
      · rw [List.size_toArray, hi.length]
        exact hl
      · by_cases c : b ∈ cs.map (·.2)
        · rw [h0T b c] at z
          cases z
          exact tab b c
        · rw [h0N b c] at z
          cases z
      · by_cases c : b ∈ cs.map (·.2)
        · exact .inl c
        · exact absurd (h0N b c) z
    | none =>
      have other : ∀ b, b ≠ a → (upd H0 a (.frz { cls := .type "list", data := .seq vs.toArray } (.lst (ns.map V.int))) : Hp) b = H0 b := fun b n => upd_ne n
      refine ⟨upd H0 a (.frz { cls := .type "list", data := .seq vs.toArray } (.lst (ns.map V.int))), fun p hp => ?_, fun b => ?_, .inl (.inr ⟨_, upd_same⟩), fun b u z => ?_, fun b z => ?_⟩
      · have hm : p.2 ∈ cs.map (·.2) := List.mem_map.mpr ⟨p, hp, rfl⟩
        rw [other _ (fun z => aT (by rw [← z]; exact hm))]
        exact h0T _ hm
      · by_cases c : b = a
        · rw [c]
          exact .inr (.inr ⟨_, _, upd_same⟩)
        · rw [other b c]
          by_cases c2 : b ∈ cs.map (·.2)
          · exact .inr (.inl c2)
          · exact .inl (h0N b c2)
      · by_cases c : b = a
        · subst c
          rw [upd_same] at z
          cases z
          exact ⟨ha, by rw [List.length_map]; exact hl, vs, _, rv, ha⟩
        · rw [other b c] at z
          by_cases c2 : b ∈ cs.map (·.2)
          · rw [h0T b c2] at z
            cases z
            exact tab b c2
          · rw [h0N b c2] at z
            cases z
      · by_cases c : b = a
        · rw [c]
          exact .inr ⟨rfl, hk⟩
        · rw [other b c] at z
          by_cases c2 : b ∈ cs.map (·.2)
          · exact .inl c2
          · exact absurd (h0N b c2) z
  have free : ∀ b o, s₁.heap.get? b = some o → (∀ xs n, o.data ≠ .seq xs n) → o.data ≠ .fields #[] → H b = none := fun b o e d1 d2 => by
    cases q : H b with
    | none => rfl
    | some u =>
      rcases own b (by rw [q]; simp) with c | ⟨e', _⟩
      · rw [tab b c] at e
        cases e
        exact absurd rfl d2
      · rw [e', ha] at e
        cases e
        exact absurd rfl (d1 _ _)
  have ns' : ∀ {b : Addr} {m : Str → Option Value}, s₁.heap.Ns b m → (hidT s₁.heap H).Ns b m := fun {b m} ⟨o, es, ep, e, d, r⟩ => ⟨o, es, ep, hidT_get e (free b o e (fun xs n z => by rw [d] at z; cases z) fun z => by rw [d] at z; cases z), d, r⟩
  have kin : K.In (hidT s₁.heap H) := fun b o e => hidT_get (KX b o e) (by
    cases q : H b with
    | none => rfl
    | some u =>
      rcases own b (by rw [q]; simp) with c | ⟨_, e'⟩
      · obtain ⟨p, hp, rfl⟩ := List.mem_map.mp c
        rw [nT p hp] at e
        cases e
      · rw [e'] at e
        cases e)
  have TB : ∀ p ∈ cs, TabB (hidT s₁.heap H) mg p.1 p.2 := fun p hp => by
    have hTp := hT p hp
    refine ⟨?_, ?_, fun z => ?_⟩
    · obtain ⟨o, us, file, tf, flags, tg, inF, text, tt, e1, r1, r2, r3, r⟩ := C p hp
      refine ⟨o, us, file, tf, flags, tg, inF, text, tt, hidT_get e1 (free _ _ e1 (fun vs n z => by rw [r2] at z; cases z) fun z => ?_), r1, r2, r3, r⟩
      rw [r2] at z
      cases z
      simp at r3
    · obtain ⟨bm, ob, b1, b2, b3, b4, b5, b6⟩ := hbm
      refine ⟨bm, ob, b1, b2, fun q => ?_, fun q => ?_, hidT_get b3 (free _ _ b3 (fun vs n z => by rw [b6] at z; cases z) fun z => by rw [b6] at z; cases z), b4, b5, b6⟩
      · obtain ⟨o, es, ep, e, hd, _⟩ := hns
        rw [q, e] at b3
        cases b3
        rw [hd] at b6
        cases b6
      · rw [q, hTp] at b3
        cases b3
        cases b6
    · obtain ⟨o, es, ep, e, hd, _⟩ := hns
      rw [z, hTp] at e
      cases e
      cases hd
  have e0 : Env0 P w K mg (hidT s₁.heap H) callerA [] s₁ H := { frames := rfl, mod := ⟨kin, ns' hns, ⟨mb, ns' hb, hbb⟩, let ⟨mc, h1, h2⟩ := hlim; ⟨mc, ns' h1, h2⟩⟩, bs := fun b o e => of_hidT e, bsz := Nat.le_of_eq (hidT_size _ _), funs := trivial, frf := fun b hb => (by cases hb), hok := hok, bare := .of_eq hg }
  refine codeAny_mono ((F _ kin (ns' hns) TB).run callerA [] s₁ H ⟨[.ref a], []⟩ [.ref a] [.ref a] _ _ rfl hr e0 (hbind s₁ (.ref a)) (.cons rfl .nil) (hsp H hH hS)) fun r s' h => ?_
  cases r with
  | error e => exact (hCX H e s' h).elim
  | ok fl =>
    cases fl with
    | next => exact False.elim h
    | brk => exact False.elim h
    | cont => exact False.elim h
    | ret u =>
      obtain ⟨v, H', os, bare, un, hok', r', q⟩ := h
      cases (show v = .bl true from q)
      cases (show u = Value.bool true from r')
      have keep : ∀ b o, b ∉ cs.map (·.2) → s₁.heap.get? b = some o → s'.heap.get? b = some o := fun b o nb e => by
        rcases hO b with z | z | ⟨ob, xs, z⟩
        · exact un.keep b o e z (fun z => by cases z) (by simp)
        · exact absurd z nb
        · have e1 := (hok b _ z).1
          rw [e] at e1
          cases e1
          exact (hok' b _ (un.frzs b _ _ z)).1
      have grown : ∀ p ∈ cs, ∃ more : Array Value, s'.heap.get? p.2 = some { cls := .none, data := .fields more } := fun p hp => by
        obtain ⟨more, z⟩ := un.tbls p.2 #[] (hH p hp)
        exact ⟨_, hok' p.2 _ z⟩
      refine ⟨rfl, ⟨fun b o e => ?_, fun b o e => ?_⟩, os, bare⟩
      · by_cases c : b ∈ cs.map (·.2)
        · obtain ⟨p, hp, rfl⟩ := List.mem_map.mp c
          obtain ⟨more, hm⟩ := grown p hp
          rw [hT p hp] at e
          cases e
          exact .inr (.inl ⟨((C p hp).tab (hT p hp)).isCodeTable, rfl, #[], more, rfl, by rw [Array.empty_append]; exact hm⟩)
        · exact .inl (keep b o c e)
      · by_cases c : b ∈ cs.map (·.2)
        · obtain ⟨p, hp, rfl⟩ := List.mem_map.mp c
          exact ⟨_, (grown p hp).choose_spec⟩
        · exact ⟨o, keep b o c e⟩
/-- what is known of the law's promise at the head's heap h: as LawAtS, with FnG -/
def LawAtG (l : PySem.W.OpenLaw) (w : World) (K : PySem.W.Frag) (CX : CXT) (k n : Nat) (x : Str) (mg : Str → Option Value) (fa : Addr) (h : Heap) : Prop :=
  ∃ (fd : FuncData) (cs : List (Addr × Addr)) (sp : Sp), (∀ p ∈ cs, h.get? p.2 = some { cls := .none, data := .fields #[] }) ∧ (∀ p ∈ cs, K.lookup p.2 = none) ∧ (∀ p ∈ cs, PySem.W.CodeHd h p.1 p.2) ∧ (∀ (s : Shared) (u : Value), BindsTo s fd ⟨[u], []⟩ [(x, u)]) ∧
    (∀ (H : Hp) (a : Addr) (ns : List Int), ns.length ≤ n → (∀ p ∈ cs, H p.2 = some (.tbl #[])) → SqL K H a (ns.map V.int) → sp [.ref a] H (fun v _ => v = .bl true) fun _ _ _ => False) ∧
    ∀ base : Heap, K.In base → base.Ns mainGlobals mg → (∀ p ∈ cs, TabB base mg p.1 p.2) → FnG l.prog w K mg base CX k fa fd [x] sp
theorem walk_ofTG {l : PySem.W.OpenLaw} {n k : Nat} {q : Program} {loose : List Str} {XP : (Str → Option Value) → Heap → Prop} {YP : World → Heap → Prop} {d : DefRec} {K : Params → PySem.W.Frag} {CX : World → CXT} {x : Str}
    (hn : l.most = some n) (hn2 : n ≤ sizeLine) (hdf : d.params.defaults = []) (hr : Room k callerA) (hrec : ((recsOf q).any fun e => e.name == d.name) = true) (hY : ∀ (w : World) (h : Heap), YP w h → (K w.params).In h)
    (F : ∀ (w : World) (mg : Str → Option Value) (fa : Addr) (h : Heap), YP w h → (K w.params).In h → h.Ns mainGlobals mg → mg d.name = some (.ref fa) → OwnTab (K w.params) fa h → LawAtG l w (K w.params) (CX w) k n x mg fa h)
    (hCX : ∀ (w : World) (H : Hp) (s : Shared) (e : Value) (s' : Shared), CX w [] H s (fun _ _ _ => False) e s' → False) :
    PySem.W.WalkO q loose XP YP l.row.toRowW d [] (fun f vs => PySem.call f vs) := by
  refine Att.attach_call hn hdf fun w s₀ s₁ mg mb fa o pm cd doc a vs ns G Y ho hd hcd hmg hobj hints hlen hg => ?_
  have KX := hY w _ Y
  have own : OwnTab (K w.params) fa s₁.heap := fun c P o1 fd1 e dd vs1 sl k1 k2 k3 k4 k5 => by
    obtain ⟨dL, hm, hn1⟩ := List.any_eq_true.mp hrec
    obtain ⟨a', o', fd', c', P', h1, h2, h3, h4, h5, ⟨oc, vc, e1, _, e3, e4⟩, hP⟩ := G.T.tab dL hm
    rw [beq_iff_eq.mp hn1, hmg] at h1
    cases h1
    rw [KX _ _ k1] at h2
    cases h2
    rw [k2] at h3
    cases h3
    rw [k3] at h4
    cases h4
    rw [KX _ _ k4] at e1
    cases e1
    cases e3
    rw [k5] at e4
    cases e4
    exact hP
  obtain ⟨fd, cs, sp, hT, nT, C, hb, hsp, hF⟩ := F w mg fa _ Y KX G.T.g hmg own
  exact law_callTG KX G.T.g G.T.b G.T.builtins G.T.nolimit hg hT nT C G.T.bmain hobj hints (Nat.le_trans hlen hn2) hr hF hb (fun H hH hS => hsp H a ns hlen hH hS) fun H e s' => hCX w H s₁ e s'
end VW

/-! try with several «except X as n» -/
namespace VW
open PySem PySem.Spec PyProof.Rows L2
/-- one clause: the class, the name's slot, what the suite reads -/
abbrev Cl := Value × Nat × (Addr → Value → Option Addr → TS)
/-- where the suite ends, the name is gone -/
def gone (i : Nat) (D : Ends) : Ends := { nx := fun σ' H' => D.nx (σ'.set i none) H', rt := D.rt, bk := fun σ' H' => D.bk (σ'.set i none) H', ct := fun σ' H' => D.ct (σ'.set i none) H' }
def wClauses (K : PySem.W.Frag) (Wout : WX) (D : Ends) : List Cl → WX
  | [] => Wout
  | (c, i, ts) :: r => fun cls d σ H => ∃ b, PySem.W.exmOne K cls c = some b ∧ (b = true → ∀ a, H a = none → ts a cls d (gone i D) (σ.set i (some (.ref a))) H) ∧ (b = false → wClauses K Wout D r cls d σ H)
inductive ClausesOk (X : Cx) : List ExceptHandler → List Cl → Prop
  | nil : ClausesOk X [] []
  | cons {x n : Str} {c : Value} {i : Nat} {ts : Addr → Value → Option Addr → TS} {b₀ : Stmt} {suite : List Stmt} {np pos' : Pos} {hds : List ExceptHandler} {l : List Cl} (hi : X.N[i]? = some n) (hln : X.env.kindOf n = some .local) (hc : Names X x c)
      (hsu : ∀ (a : Addr) (oe : Obj) (cls : Value) (d : Option Addr) (pn : List (Addr × Obj)), Zc cls d oe → (∃ vs, oe.data = .fields vs) → PSs (X.suite a ((a, oe) :: pn)) (b₀ :: suite) (ts a cls d)) (r : ClausesOk X hds l) :
      ClausesOk X (.ExceptHandler (some (.Name x np)) (some n) (b₀ :: suite) pos' :: hds) ((c, i, ts) :: l)
section
variable {X : Cx} {body : List Stmt} {h₀ : ExceptHandler} {hds : List ExceptHandler} {l : List Cl} {pos : Pos} {tb : WX → TS} {Wout : WX} {pins : List (Addr × Obj)}
/-- the clauses at an exception that has landed here -/
theorem clauses_run {D : Ends} {a : Addr} {B : Heap} {sI s' : Shared} {σ' : L2.St} {H' : Hp} {cls : Value} {d : Option Addr} {h3 : Heap} (hs : X.stack = X.env :: X.outer) (hf : X.env.frame = some X.env.locals) (hN : X.N.Nodup) (ok : X.Ok)
    (J3 : Inv X pins σ' H' { s' with heap := h3 }) (na : H' a = none) (nL : a ≠ X.env.locals) (nF : a ∉ X.fs) {oe3 : Obj} {vs3 : Array Value} (he3 : h3.get? a = some oe3) (hz3 : Zc cls d oe3) (hd3 : oe3.data = .fields vs3)
    (again : ∀ {A : Around} {Q : Unit → Shared → Prop} {E : Value → Shared → Prop}, (∀ h4 oe4 vs4, h4.get? a = some oe4 → Zc cls d oe4 → oe4.data = .fields vs4 → Inv X pins σ' H' { s' with heap := h4 } → Q () { s' with heap := h4 }) → wpAny (model X.prog X.w) A (setFlight (.ref a) none) Q E { s' with heap := h3 })
    (out : Wout cls d σ' H' → wpAny (model X.prog X.w) X.A (handleBy (.ref a) X.env []) (SP X pins D) X.xe { s' with heap := h3 }) :
    ∀ {hds' : List ExceptHandler} {l' : List Cl}, ClausesOk X hds' l' → wClauses X.K Wout D l' cls d σ' H' → wpAny (model X.prog X.w) X.A (handleBy (.ref a) X.env hds') (SP X pins D) X.xe { s' with heap := h3 } := by
  intro hds' l' hk
  have ff : X.A.frames = some (X.env :: X.outer) := by rw [ok.frames, hs]
  have S3 := J3.suite he3 hd3 na nL nF
  induction hk with
  | nil => exact out
  | @cons x n c i ts b₀ suite np pos' hds2 l2 hi hln hc hsu r ih =>
    rintro ⟨b, hb1, hyes, hno⟩
    refine wpAny_handleBy_cons (codeAny_handlers_test ?_) (by intro q; cases q)
    have hty : PySem.W.Looks (model X.prog X.w) h3 (typeOf (.ref a)) cls := fun A Q E s k q => wpAny_typeOf_ref (k _ _ he3) (by rw [hz3.1]; exact q)
    have named : ∀ {Q : Value → Shared → Prop} {E : Value → Shared → Prop}, Q c { s' with heap := h3 } → wpAny (model X.prog X.w) (X.A.mark (some (.ref a))) (eval (.Name x np) X.env) Q E { s' with heap := h3 } := fun {Q E} q => by
      obtain ⟨hg, hdbg, hm | ⟨hm, hv, hnn⟩⟩ := hc
      · exact ld_glob (X := X.suite a ((a, oe3) :: (X.pn ++ pins))) S3 hg hm q hdbg
      · exact ld_blt (X := X.suite a ((a, oe3) :: (X.pn ++ pins))) S3 hg hm hv q hnn hdbg
    refine named ((PySem.W.exm_one (M := model X.prog X.w) J3.kIn hty hb1).here ?_)
    cases b with
    | false =>
      show wpAny _ X.A (handleBy (.ref a) X.env hds2) _ _ _
      exact ih (hno rfl)
    | true =>
      refine codeAny_handlers_suite_as (again fun h4 oe4 vs4 he4 hz4 hd4 J4 => ?_)
      refine store_ok (X := X.suite a ((a, oe4) :: (X.pn ++ pins))) (v := .ref a) (J4.suite he4 hd4 na nL nF) hN hi (.inl hln) rfl (fun s5 S5 => ?_) (.inr hln)
      refine wpAny_mono ((hsu a oe4 cls d (X.pn ++ pins) hz4 ⟨_, hd4⟩).run [] s5 _ H' _ S5 (hyes rfl a na)) (fun f s6 hsp => ?_) (fun _ _ z => False.elim z)
      have bye : ∀ {σ6 : L2.St} {H6 : Hp} {Q : Shared → Prop}, Inv (X.suite a ((a, oe4) :: (X.pn ++ pins))) [] σ6 H6 s6 → (∀ s7, Inv X pins (σ6.set i none) H6 s7 → Q s7) →
          wpAny (model X.prog X.w) X.A (do bindName X.env n .none; unbindBehindTheSuite X.env n pos') (fun _ s7 => Q s7) X.xe s6 := fun S6 hq => gone_ok (S6.unsuite ok) hN hi hln hq
      cases f with
      | next => exact let ⟨_, _, S6, q6⟩ := hsp; bye S6 fun _ J7 => ⟨_, _, J7, q6⟩
      | brk => exact let ⟨_, _, S6, q6⟩ := hsp; bye S6 fun _ J7 => ⟨_, _, J7, q6⟩
      | cont => exact let ⟨_, _, S6, q6⟩ := hsp; bye S6 fun _ J7 => ⟨_, _, J7, q6⟩
      | ret u => exact let ⟨_, _, _, S6, r6, q6⟩ := hsp; bye S6 fun _ J7 => ⟨_, _, _, J7, r6, q6⟩
theorem ps_try_clauses (hs : X.stack = X.env :: X.outer) (hf : X.env.frame = some X.env.locals) (hN : X.N.Nodup) (tk : Takes X Wout)
    (hb : ∀ (W : WX) (pn : List (Addr × Obj)) (xe : Value → Shared → Prop), Takes (X.tr pn xe) W → PassesOwn (model X.prog X.w) X.A X.env xe → PSs (X.tr pn xe) body (tb W))
    (hh : ClausesOk X (h₀ :: hds) l) : PS X (.Try body (h₀ :: hds) [] [] pos) (fun D σ H => tb (wClauses X.K Wout D l) D σ H) := by
  refine ⟨fun pins s σ H D I h => wpAny_Try_except ?_⟩
  have ok := I.ok
  have hfr : X.A.frames = some (X.env :: X.outer) := by rw [ok.frames, hs]
  refine wpAny_mono ((hb (wClauses X.K Wout D l) (X.pn ++ pins) (fun e s₁ => wpAny (model X.prog X.w) X.A (noteFrame e X.env) (fun _ s₂ => wpAny (model X.prog X.w) X.A (setFlight e none) (fun _ s₃ =>
    wpAny (model X.prog X.w) X.A (handleBy e X.env (h₀ :: hds)) (SP X pins D) X.xe s₃) X.xe s₂) X.xe s₁) (fun u s' xx => ?_) PassesOwn.looking).run [] s σ H D (I.toTry _) h) (fun f s1 hsp => ?_) (fun e s1 he => he)
  · obtain ⟨a, B, sI, pins', σ', H', cls, d, rfl, J', nb, up, sky, na, os, ag, wish⟩ := xx
    have J : Inv X pins σ' H' sI := J'.ofTry ok
    show wpAny (model X.prog X.w) X.A (noteFrame (.ref a) X.env) _ _ _
    refine Sky.land Zc.steady hfr hf (by rw [← hs]; exact sky) fun h3 fl3 up3 => ?_
    obtain ⟨oe3, vs3, he3, hz3, hd3⟩ := fl3.there
    have nfr : a ∉ frs (X.env :: X.outer) := fun hm => by
      obtain ⟨_, o', e', hnf⟩ := fl3.2.2.1.mem hm
      rw [he3] at e'
      cases e'
      exact hnf _ hd3
    have nL : a ≠ X.env.locals := fun z => nfr (List.mem_filterMap.mpr ⟨X.env, List.mem_cons_self, by rw [hf, z]⟩)
    have nF : a ∉ X.fs := fun hm => by
      obtain ⟨e, he, q⟩ := List.mem_filterMap.mp hm
      exact nfr (List.mem_filterMap.mpr ⟨e, List.mem_cons_of_mem _ he, q⟩)
    refine clauses_run (B := B) (sI := sI) hs hf hN ok (J.landed nb fl3.1 (up.trans up3) os ag) na nL nF he3 hz3 hd3 (fun {A Q E} hq => HandSPX.lands_againZ fl3 fun h4 fl4 up4 => ?_) (fun w => ?_) hh wish
    · obtain ⟨oe4, vs4, he4, hz4, hd4⟩ := fl4.there
      exact hq h4 oe4 vs4 he4 hz4 hd4 (J.landed nb fl4.1 ((up.trans up3).trans up4) os ag)
    · refine wpAny_handleBy_nil ?_
      obtain ⟨k1, k2, k3, oe, vs, T, oT, ts', he, hz, hd, h1, hr⟩ := id fl3
      unfold PySem.passOn
      refine wpAny_bind (wpAny_field he hd h1 ?_)
      rw [if_neg (show ¬ ((Value.ref T == Value.none) = true) from by simp)]
      have fin : wpAny (model X.prog X.w) X.A (setFlight (.ref a) X.env.frame) (fun _ s4 => wpAny (model X.prog X.w) X.A (throw (.ref a) : Sem Flow) (SP X pins D) X.xe s4) X.xe { s' with heap := h3 } := by
        rw [hf]
        exact HandSPX.setFlight_upZ fl3 fun h4 hh4 up4 => wpAny_throw (tk _ _ ⟨a, B, sI, pins, σ', H', cls, d, rfl, J, nb, (up.trans up3).trans up4, .inr (.inr (by rw [hs]; exact hh4)), na, os, ag, w⟩)
      first
        | exact wpAny_bind (wpAny_pure (wpAny_bind fin))
        | exact wpAny_bind fin
  · cases f with
    | next => exact let ⟨_, _, J', q⟩ := hsp; wpAny_execs_nil ⟨_, _, J'.ofTry ok, q⟩
    | brk => exact let ⟨_, _, J', q⟩ := hsp; ⟨_, _, J'.ofTry ok, q⟩
    | cont => exact let ⟨_, _, J', q⟩ := hsp; ⟨_, _, J'.ofTry ok, q⟩
    | ret u => exact let ⟨_, _, _, J', r, q⟩ := hsp; ⟨_, _, _, J'.ofTry ok, r, q⟩
end
end VW

/-! lambdas handed to a def of the text -/
namespace VW
open PySem PySem.Spec PyProof.Rows L2 LamX
section
variable {P : Program} {w : World} {K : PySem.W.Frag} {mg : Str → Option Value} {base : Heap} {k : Nat} {f : Addr} {fd : FuncData} {ps : List Str} {sp : Sp}
/-- okG, its code object known -/
theorem okGc {x qual : Str} {st : Stmt} {N : List Str} (F : Fun K x qual st f fd) (S : FnScope N ps (defScope st)) (len : ∀ vs H Q E, sp vs H Q E → vs.length = ps.length)
    (hbody : ∀ (cdv : Value), fd.code = cdv → ∀ (A : Around) (outer : List Env) (s : Shared) (H : Hp) (vs : List V) (Q : VK) (E : XK), A.guards = some [] → Room k (A.deeper (envOfC qual (defScope st) s.heap.objs.size f cdv)) → sp vs H Q E →
      ∃ t, PSs (cxOf CX0 P w K mg base N qual (defScope st) f cdv A outer s H E).nox (defBody st) t ∧ t { nx := fun _ H' => Q .non H', rt := Q } (start N vs) H) : FnG P w K mg base CX0 (k + 1) f fd ps sp := by
  obtain ⟨oc, od, kV, doc, pm, an, cdv, ct, osl, rfl, lk, hcd⟩ := F.ex
  refine ⟨len, fun A outer s H args us vs Q E hg hr e0 hb r hsp => ?_⟩
  refine StX.run_bnd lk hcd S hr e0 (G := fun xs H2 => xs = vs ∧ H2 = H ∧ True) (fun A' Ex Q' h => hb _ _ _ _ (h s H vs us e0 (Un.refl ..) rfl (fun _ _ z => z) r (len _ _ _ _ hsp) ⟨rfl, rfl, trivial⟩)) fun s2 H2 xs hG hr' => ?_
  obtain ⟨rfl, rfl, _⟩ := hG
  obtain ⟨t, h1, h2⟩ := hbody cdv rfl A outer s2 _ _ Q E hg hr' hsp
  exact ⟨t, h1.nox, h2⟩
end
section
variable {X : Cx}
theorem pe_lamF {T : List (Addr × Str)} {TT : (XK → Hp → VK → Prop) → Hp → VK → Prop} {x a : Str} {g c P : Addr} {k : Nat} {st : Stmt} {fd : FuncData} {Ng : List Str} {params : Arguments} {body : Expr} {scope : Scope} {t : XK → TE} {p lpos pos : Pos} (F : Fun X.K x x st g fd) (hg : Gl X x) (hm : X.mg x = some (.ref g))
    (hb : L2.Binds X.K fd [a] []) (Sg : FnScope Ng [a] (defScope st)) (hNg : Ng[0]? = some a) (hva : Vis (defScope st) a) (hG : ∀ cdv : Value, GivesTo X Ng x (defScope st) g cdv (defBody st) a (X.env.qual ++ "<lambda>") TT)
    (TB : TabB X.base X.mg c P) (hcode : X.env.code = .ref c) (hmT : (P, X.env.qual ++ "<lambda>") ∈ T) (hu : ∀ p ∈ T, p.1 = P → p.2 = X.env.qual ++ "<lambda>") (hr : Room (k + 2) X.A) (L : LamS X.env.scope scope) (hdef : defaultsOf params X.env = ([], []))
    (hbind : ∀ (q : Str) (cl : List (Str × Addr)) (pm cv ctv : Value), bindArgs (PySem.W.kla_fn "<lambda>" q params body scope cl pm cv ctv) ⟨[], []⟩ = pure [])
    (hbody : ∀ (A : Around) (outer : List Env) (s : Shared) (H : Hp) (E : XK) (f c' : Addr), Room k (A.deeper (lamEnv X scope s.heap.objs.size f c')) → PE (lamCx X A outer s H E scope f c') body (t E))
    (hdb : (x == ("__debug__" : Str)) = false := by decide) (hd : (a == ("__debug__" : Str)) = false := by decide) (hcd : (a == ("__classdict__" : Str)) = false := by decide) :
    PE X (.Call (.Name x p) [.Lambda params body scope lpos] [] pos) (tLam T TT t) := by
  obtain ⟨oc, od, kV, doc, pm, an, cdv, ct, osl, rfl, lk, hcdv⟩ := F.ex
  exact pe_lamcall hg hm F.kp lk hcdv hb Sg hNg hva (hG cdv) TB hcode hmT hu hr L hdef hbind hbody hdb hd hcd
/-- an error leaves the lambda's body -/
theorem passL {A : Around} {outer : List Env} {s : Shared} {H : Hp} {E : XK} {scope : Scope} {f c' : Addr} : Passes (L2.CX X.prog X.w) (lamCx X A outer s H E scope f c') E := passE (takes_of rfl rfl rfl rfl)
end
/-! the tables stay -/
theorem tabs_kp {T : List (Addr × Str)} {s L : Addr} {H H' : Hp} (e : Kp s H H') (S : Src H s L) (t : Tabs T H) : Tabs T H' := fun p hp => by
  obtain ⟨ps, h1, h2, h3⟩ := t p hp
  obtain ⟨xs, hs⟩ := S.at
  refine ⟨ps, e _ _ h1 (ne_of h1 hs (by intro z; cases z)), h2, fun pos cv hc => ?_⟩
  obtain ⟨c, e1, e2⟩ := h3 pos cv hc
  exact ⟨c, e1, e _ _ e2 (ne_of e2 hs (by intro z; cases z))⟩
theorem tabs_same {T : List (Addr × Str)} {H H' : Hp} (e : Same H H') (t : Tabs T H) : Tabs T H' := t.ext e
theorem src_extN {s L : Addr} {H H' : Hp} (e : ExtN H H') (S : Src H s L) : Src H' s L := by
  obtain ⟨i, q, z, ns, h1, h2, r⟩ := S
  exact ⟨i, q, z, ns, e _ _ h1 (by intro ps z; cases z), e _ _ h2 (by intro ps z; cases z), r⟩
theorem exm_other {K : PySem.W.Frag} {S C : Addr} (h1 : PySem.W.subIn K (.ref S) (.type "BaseException") = some true) (h2 : PySem.W.isClsIn K S = true) (h3 : PySem.W.typeIn K (.ref S) = some (.type "type")) (h4 : PySem.W.subIn K (.ref C) (.ref S) = some false) :
    PySem.W.exmOne K (.ref C) (.ref S) = some false := by
  have e1 : (PySem.W.subIn K (.ref S) (.type "BaseException") == some true) = true := by rw [h1] <;> rfl
  have e2 : ((PySem.W.clsIn K S).isSome && PySem.W.typeIn K (.ref S) == some (.type "type")) = true := by
    have h2' : (PySem.W.clsIn K S).isSome = true := h2
    rw [h2', h3] <;> rfl
  show (if (PySem.W.subIn K (.ref S) (.type "BaseException") == some true) = true then (if ((PySem.W.clsIn K S).isSome && PySem.W.typeIn K (.ref S) == some (.type "type")) = true then PySem.W.subIn K (.ref C) (.ref S) else none) else none) = some false
  rw [if_pos e1, if_pos e2]
  exact h4
end VW

/-! an own operator with a truth value -/
namespace VW
open PySem PySem.Spec PyProof.Rows L2
section
variable {X : Cx} {CX : CXT} {k : Nat} {f C : Addr} {fd : FuncData} {ps : List Str} {sp : Sp} {E : XK}
def rBinB (C : Addr) (sp : Sp) (E : XK) : R2 := fun x y H Q => ∃ a dx fs b, x = .ref a ∧ y = .bl b ∧ H a = some (.ins C dx fs) ∧ sp [x, y] H Q E
theorem op_binB {op : Operator} (B : BinC X.K C f op "bool") (F : FnOk X.prog X.w X.K X.mg X.base CX k f fd ps sp) (hr : Room k X.A) (hb : Binds X.K fd ps []) (hx : Passes CX X E) : OpR X (binaryOp op) (rBinB C sp E) := by
  intro pins s σ H x y v u Q I rx ry h
  obtain ⟨a, dx, fs, i, rfl, rfl, ea, q⟩ := h
  cases (show v = Value.ref a from rx)
  cases (show u = Value.bool i from ry)
  obtain ⟨ox, od, J⟩ := ins_at I ea
  obtain ⟨m, hF⟩ := I.fr
  obtain ⟨fo, h1⟩ := B.t1
  obtain ⟨ro, h2⟩ := B.t2
  refine PySem.W.ksp_binT (T := "bool") hF I.ok.mod.kin J rfl B.sf B.at_ B.fn B.rv (.inl rfl) h1 h2 B.sb ?_
  refine wpAny_mono (run_fn (us := [.ref a, .bool i]) (vs := [.ref a, .bl i]) F hr hb .nil hx I (.cons rfl (.cons rfl .nil)) q) (fun w s' z => ?_) fun _ _ x => x
  obtain ⟨z', H', I', rz, qz⟩ := z
  exact SlX.cmpback rz ⟨z', H', I', rz, qz⟩
end
end VW

namespace Law
open PySem L2 VW
abbrev PRG : Program := PySem.Challenge.pw_vectorwidths_k02_lines_made
def top (i : Nat) : Stmt := PySem.Challenge.pw_vectorwidths_k02_lines_made.main.body.getD i (.Pass ⟨0, 0, 0, 0⟩)
abbrev s_is_integer : Stmt := top 11
abbrev N_is_integer : List Str := ["value"]
theorem sc_is_integer : FnScope N_is_integer ["value"] (defScope s_is_integer) := ⟨rfl, rfl, rfl, by decide +kernel, rfl, by decide +kernel, by decide +kernel⟩
abbrev s_is_between : Stmt := top 12
abbrev N_is_between : List Str := ["value", "low", "high"]
theorem sc_is_between : FnScope N_is_between ["value", "low", "high"] (defScope s_is_between) := ⟨rfl, rfl, rfl, by decide +kernel, rfl, by decide +kernel, by decide +kernel⟩
abbrev s_is_count : Stmt := top 13
abbrev N_is_count : List Str := ["value"]
theorem sc_is_count : FnScope N_is_count ["value"] (defScope s_is_count) := ⟨rfl, rfl, rfl, by decide +kernel, rfl, by decide +kernel, by decide +kernel⟩
abbrev s_is_name : Stmt := top 14
abbrev N_is_name : List Str := ["value", "sign"]
theorem sc_is_name : FnScope N_is_name ["value"] (defScope s_is_name) := ⟨rfl, rfl, rfl, by decide +kernel, rfl, by decide +kernel, by decide +kernel⟩
abbrev s_is_offset : Stmt := top 15
abbrev N_is_offset : List Str := ["value"]
theorem sc_is_offset : FnScope N_is_offset ["value"] (defScope s_is_offset) := ⟨rfl, rfl, rfl, by decide +kernel, rfl, by decide +kernel, by decide +kernel⟩
abbrev s_Line___init__ : Stmt := inClass (top 16) 0
abbrev N_Line___init__ : List Str := ["self", "name", "stride"]
theorem sc_Line___init__ : FnScope N_Line___init__ ["self", "name", "stride"] (defScope s_Line___init__) := ⟨rfl, rfl, rfl, by decide +kernel, rfl, by decide +kernel, by decide +kernel⟩
abbrev s_Line_name : Stmt := inClass (top 16) 1
abbrev N_Line_name : List Str := ["self"]
theorem sc_Line_name : FnScope N_Line_name ["self"] (defScope s_Line_name) := ⟨rfl, rfl, rfl, by decide +kernel, rfl, by decide +kernel, by decide +kernel⟩
abbrev s_Line_stride : Stmt := inClass (top 16) 2
abbrev N_Line_stride : List Str := ["self"]
theorem sc_Line_stride : FnScope N_Line_stride ["self"] (defScope s_Line_stride) := ⟨rfl, rfl, rfl, by decide +kernel, rfl, by decide +kernel, by decide +kernel⟩
abbrev s_Line___eq__ : Stmt := inClass (top 16) 3
abbrev N_Line___eq__ : List Str := ["self", "other"]
theorem sc_Line___eq__ : FnScope N_Line___eq__ ["self", "other"] (defScope s_Line___eq__) := ⟨rfl, rfl, rfl, by decide +kernel, rfl, by decide +kernel, by decide +kernel⟩
abbrev s_Line___mul__ : Stmt := inClass (top 16) 4
abbrev N_Line___mul__ : List Str := ["self", "times"]
theorem sc_Line___mul__ : FnScope N_Line___mul__ ["self", "times"] (defScope s_Line___mul__) := ⟨rfl, rfl, rfl, by decide +kernel, rfl, by decide +kernel, by decide +kernel⟩
abbrev s_Line_cell : Stmt := inClass (top 16) 5
abbrev N_Line_cell : List Str := ["self", "offset", "at"]
theorem sc_Line_cell : FnScope N_Line_cell ["self", "offset", "at"] (defScope s_Line_cell) := ⟨rfl, rfl, rfl, by decide +kernel, rfl, by decide +kernel, by decide +kernel⟩
abbrev s__law_begin : Stmt := top 18
abbrev N__law_begin : List Str := ["script"]
theorem sc__law_begin : FnScope N__law_begin ["script"] (defScope s__law_begin) := ⟨rfl, rfl, rfl, by decide +kernel, rfl, by decide +kernel, by decide +kernel⟩
abbrev s__law_draw : Stmt := top 19
abbrev N__law_draw : List Str := ["source", "limit", "cell", "digit"]
theorem sc__law_draw : FnScope N__law_draw ["source", "limit"] (defScope s__law_draw) := ⟨rfl, rfl, rfl, by decide +kernel, rfl, by decide +kernel, by decide +kernel⟩
abbrev s__law_pick : Stmt := top 20
abbrev N__law_pick : List Str := ["source", "items"]
theorem sc__law_pick : FnScope N__law_pick ["source", "items"] (defScope s__law_pick) := ⟨rfl, rfl, rfl, by decide +kernel, rfl, by decide +kernel, by decide +kernel⟩
abbrev s__law_mixed : Stmt := top 21
abbrev N__law_mixed : List Str := ["source", "items", "left", "found"]
theorem sc__law_mixed : FnScope N__law_mixed ["source", "items"] (defScope s__law_mixed) := ⟨rfl, rfl, rfl, by decide +kernel, rfl, by decide +kernel, by decide +kernel⟩
abbrev s__law_stem : Stmt := top 22
abbrev N__law_stem : List Str := ["source", "letters"]
theorem sc__law_stem : FnScope N__law_stem ["source"] (defScope s__law_stem) := ⟨rfl, rfl, rfl, by decide +kernel, rfl, by decide +kernel, by decide +kernel⟩
abbrev s__law_names : Stmt := top 23
abbrev N__law_names : List Str := ["source", "many", "stem", "letters", "letter"]
theorem sc__law_names : FnScope N__law_names ["source", "many"] (defScope s__law_names) := ⟨rfl, rfl, rfl, by decide +kernel, rfl, by decide +kernel, by decide +kernel⟩
abbrev s__law_refused : Stmt := top 24
abbrev N__law_refused : List Str := ["call", "e"]
theorem sc__law_refused : FnScope N__law_refused ["call"] (defScope s__law_refused) := ⟨rfl, rfl, rfl, by decide +kernel, rfl, by decide +kernel, by decide +kernel⟩
abbrev s_law : Stmt := top 25
abbrev N_law : List Str := ["script", "source", "turn", "word", "step", "line", "by", "at", "k", "odd", "bad", "far", "none"]
theorem sc_law : FnScope N_law ["script"] (defScope s_law) := ⟨rfl, rfl, rfl, by decide +kernel, rfl, by decide +kernel, by decide +kernel⟩
structure Ad where
  C_InvalidNumber : Addr
  i_InvalidNumber : Addr
  C_InvalidName : Addr
  i_InvalidName : Addr
  C_InvalidRef : Addr
  i_InvalidRef : Addr
  C_WidthError : Addr
  C_Line : Addr
  a_is_integer : Addr
  fd_is_integer : FuncData
  a_is_between : Addr
  fd_is_between : FuncData
  a_is_count : Addr
  fd_is_count : FuncData
  a_is_name : Addr
  fd_is_name : FuncData
  a_is_offset : Addr
  fd_is_offset : FuncData
  a_Line___init__ : Addr
  fd_Line___init__ : FuncData
  a_Line_name : Addr
  fd_Line_name : FuncData
  p_Line_name : Addr
  a_Line_stride : Addr
  fd_Line_stride : FuncData
  p_Line_stride : Addr
  a_Line___eq__ : Addr
  fd_Line___eq__ : FuncData
  a_Line___mul__ : Addr
  fd_Line___mul__ : FuncData
  a_Line_cell : Addr
  fd_Line_cell : FuncData
  a__law_begin : Addr
  fd__law_begin : FuncData
  a__law_draw : Addr
  fd__law_draw : FuncData
  a__law_pick : Addr
  fd__law_pick : FuncData
  a__law_mixed : Addr
  fd__law_mixed : FuncData
  a__law_stem : Addr
  fd__law_stem : FuncData
  a__law_names : Addr
  fd__law_names : FuncData
  a__law_refused : Addr
  fd__law_refused : FuncData
  a_law : Addr
  fd_law : FuncData
  c_law : Addr
  p_law : Addr
structure Tx (P : Program) (A : Ad) (K : PySem.W.Frag) (mg : Str → Option Value) : Prop where
  er_InvalidNumber : ErTxt P K mg "InvalidNumber" "value" A.C_InvalidNumber A.i_InvalidNumber
  er_InvalidName : ErTxt P K mg "InvalidName" "value" A.C_InvalidName A.i_InvalidName
  er_InvalidRef : ErTxt P K mg "InvalidRef" "value" A.C_InvalidRef A.i_InvalidRef
  g_WidthError : mg "WidthError" = some (.ref A.C_WidthError)
  xc_InvalidName : ExcC K A.C_InvalidName
  xc_InvalidNumber : ExcC K A.C_InvalidNumber
  ks_InvalidNumber_WidthError : PySem.W.kitOne K (.ref A.C_InvalidNumber) (.ref A.C_WidthError) = some true
  ks_InvalidName_WidthError : PySem.W.kitOne K (.ref A.C_InvalidName) (.ref A.C_WidthError) = some true
  en_InvalidNumber_InvalidName : PySem.W.exmOne K (.ref A.C_InvalidNumber) (.ref A.C_InvalidName) = some false
  ki_InvalidName_ValueError : PySem.W.kitOne K (.ref A.C_InvalidName) (.type "ValueError") = some true
  ki_InvalidNumber_InvalidRef : PySem.W.kitOne K (.ref A.C_InvalidNumber) (.ref A.C_InvalidRef) = some false
  g_Line : mg "Line" = some (.ref A.C_Line)
  cl_Line : Cls K A.C_Line
  n_Line_kept_name : NoAttr K A.C_Line "kept_name"
  n_Line_kept_stride : NoAttr K A.C_Line "kept_stride"
  M_Line : Mk K A.C_Line A.a_Line___init__
  oc_Line : OwnC K A.C_Line
  eq_Line : EqC K A.C_Line A.a_Line___eq__
  bin_Line___mul__ : BinC K A.C_Line A.a_Line___mul__ .Mult "int"
  binB_Line___mul__ : BinC K A.C_Line A.a_Line___mul__ .Mult "bool"
  nft_Line_str : PySem.W.notFirst K A.C_Line (.type "str") = true
  nkt_Line_str : PySem.W.kitOne K (.type "str") (.ref A.C_Line) = some false
  F_is_integer : Fun K "is_integer" "is_integer" s_is_integer A.a_is_integer A.fd_is_integer
  b_is_integer : Binds K A.fd_is_integer ["value"] []
  g_is_integer : mg "is_integer" = some (.ref A.a_is_integer)
  F_is_between : Fun K "is_between" "is_between" s_is_between A.a_is_between A.fd_is_between
  b_is_between : Binds K A.fd_is_between ["value", "low", "high"] []
  g_is_between : mg "is_between" = some (.ref A.a_is_between)
  F_is_count : Fun K "is_count" "is_count" s_is_count A.a_is_count A.fd_is_count
  b_is_count : Binds K A.fd_is_count ["value"] []
  g_is_count : mg "is_count" = some (.ref A.a_is_count)
  F_is_name : Fun K "is_name" "is_name" s_is_name A.a_is_name A.fd_is_name
  b_is_name : Binds K A.fd_is_name ["value"] []
  g_is_name : mg "is_name" = some (.ref A.a_is_name)
  F_is_offset : Fun K "is_offset" "is_offset" s_is_offset A.a_is_offset A.fd_is_offset
  b_is_offset : Binds K A.fd_is_offset ["value"] []
  g_is_offset : mg "is_offset" = some (.ref A.a_is_offset)
  F_Line___init__ : FunD K "__init__" "Line.__init__" (defArgs s_Line___init__) (defBody s_Line___init__) (defScope s_Line___init__) [.int 1] [] A.a_Line___init__ A.fd_Line___init__
  b_Line___init__ : Binds K A.fd_Line___init__ ["self", "name", "stride"] []
  bd_Line___init__ : ∃ ds, Vals [.int 1] ds ∧ Binds K A.fd_Line___init__ ["self", "name", "stride"] ds
  me_Line___init__ : Meth K A.C_Line "__init__" A.a_Line___init__
  F_Line_name : Fun K "name" "Line.name" s_Line_name A.a_Line_name A.fd_Line_name
  b_Line_name : Binds K A.fd_Line_name ["self"] []
  pr_Line_name : PropOf K A.C_Line "name" A.p_Line_name A.a_Line_name
  F_Line_stride : Fun K "stride" "Line.stride" s_Line_stride A.a_Line_stride A.fd_Line_stride
  b_Line_stride : Binds K A.fd_Line_stride ["self"] []
  pr_Line_stride : PropOf K A.C_Line "stride" A.p_Line_stride A.a_Line_stride
  F_Line___eq__ : Fun K "__eq__" "Line.__eq__" s_Line___eq__ A.a_Line___eq__ A.fd_Line___eq__
  b_Line___eq__ : Binds K A.fd_Line___eq__ ["self", "other"] []
  me_Line___eq__ : Meth K A.C_Line "__eq__" A.a_Line___eq__
  F_Line___mul__ : Fun K "__mul__" "Line.__mul__" s_Line___mul__ A.a_Line___mul__ A.fd_Line___mul__
  b_Line___mul__ : Binds K A.fd_Line___mul__ ["self", "times"] []
  me_Line___mul__ : Meth K A.C_Line "__mul__" A.a_Line___mul__
  F_Line_cell : Fun K "cell" "Line.cell" s_Line_cell A.a_Line_cell A.fd_Line_cell
  b_Line_cell : Binds K A.fd_Line_cell ["self", "offset", "at"] []
  me_Line_cell : Meth K A.C_Line "cell" A.a_Line_cell
  F__law_begin : Fun K "_law_begin" "_law_begin" s__law_begin A.a__law_begin A.fd__law_begin
  b__law_begin : Binds K A.fd__law_begin ["script"] []
  g__law_begin : mg "_law_begin" = some (.ref A.a__law_begin)
  F__law_draw : Fun K "_law_draw" "_law_draw" s__law_draw A.a__law_draw A.fd__law_draw
  b__law_draw : Binds K A.fd__law_draw ["source", "limit"] []
  g__law_draw : mg "_law_draw" = some (.ref A.a__law_draw)
  F__law_pick : Fun K "_law_pick" "_law_pick" s__law_pick A.a__law_pick A.fd__law_pick
  b__law_pick : Binds K A.fd__law_pick ["source", "items"] []
  g__law_pick : mg "_law_pick" = some (.ref A.a__law_pick)
  F__law_mixed : Fun K "_law_mixed" "_law_mixed" s__law_mixed A.a__law_mixed A.fd__law_mixed
  b__law_mixed : Binds K A.fd__law_mixed ["source", "items"] []
  g__law_mixed : mg "_law_mixed" = some (.ref A.a__law_mixed)
  F__law_stem : Fun K "_law_stem" "_law_stem" s__law_stem A.a__law_stem A.fd__law_stem
  b__law_stem : Binds K A.fd__law_stem ["source"] []
  g__law_stem : mg "_law_stem" = some (.ref A.a__law_stem)
  F__law_names : Fun K "_law_names" "_law_names" s__law_names A.a__law_names A.fd__law_names
  b__law_names : Binds K A.fd__law_names ["source", "many"] []
  g__law_names : mg "_law_names" = some (.ref A.a__law_names)
  F__law_refused : Fun K "_law_refused" "_law_refused" s__law_refused A.a__law_refused A.fd__law_refused
  b__law_refused : Binds K A.fd__law_refused ["call"] []
  g__law_refused : mg "_law_refused" = some (.ref A.a__law_refused)
  cd_law : A.fd_law.code = .ref A.c_law
  F_law : Fun K "law" "law" s_law A.a_law A.fd_law
  b_law : Binds K A.fd_law ["script"] []
  g_law : mg "law" = some (.ref A.a_law)
  m_ValueError : mg "ValueError" = none
  m_all : mg "all" = none
  m_bool : mg "bool" = none
  m_int : mg "int" = none
  m_isinstance : mg "isinstance" = none
  m_len : mg "len" = none
  m_list : mg "list" = none
  m_range : mg "range" = none
  m_repr : mg "repr" = none
  m_str : mg "str" = none
  c_LETTERS : ∃ t, mg "LETTERS" = some (.str "abcdefghijklmnopqrstuvwxyz" t)
  c_MOST_LETTERS : ∃ t, mg "MOST_LETTERS" = some (.int 8 t)
  c_MOST_STRIDE : ∃ t, mg "MOST_STRIDE" = some (.int 6 t)
  c_MOST_OFFSET : ∃ t, mg "MOST_OFFSET" = some (.int 9 t)
section
variable {P : Program} {w : World} {K : PySem.W.Frag} {mg : Str → Option Value} {base : Heap} {A : Ad}
/-- an error of the class at C with the value v is let out -/
def Rz (E : XK) (C : Addr) (H : Hp) (v : V) : Prop := ∀ (d : Addr) (H' : Hp), Same H H' → H d = none → H' d = some (.xd [(("value" : Str), v)]) → E (.ref C) (some d) H'
theorem Rz.go {E : XK} {C d : Addr} {H H1 : Hp} {v : V} (h : Rz E C H v) (s : Same H H1) (n : H1 d = none) : E (.ref C) (some d) (upd H1 d (.xd [(("value" : Str), v)])) :=
  h d _ (s.trans (Same.new n)) (s.free n) upd_same
theorem _root_.VW.Src.kpx {H H' : Hp} {s L p : Addr} (h : Src H s L) (n : p ≠ s ∧ p ≠ L) (k : Kp p H H') : Src H' s L := by
  obtain ⟨i, q, z, ns, h1, h2, r⟩ := h
  exact ⟨i, q, z, ns, k _ _ h1 n.1.symm, k _ _ h2 n.2.symm, r⟩
/-- the two fields of a line -/
def lf (nm : Str) (st : Int) : List (Str × V) := [("kept_name", .str nm), ("kept_stride", .int st)]
theorem lf_name (nm : Str) (st : Int) : (lf nm st).lookup ("kept_name" : Str) = some (.str nm) := by first | rfl | kernel_rfl
theorem lf_stride (nm : Str) (st : Int) : (lf nm st).lookup ("kept_stride" : Str) = some (.int st) := by first | rfl | kernel_rfl
theorem lf_made (nm : Str) (st : Int) : putF "kept_stride" (.int st) (putF "kept_name" (.str nm) []) = lf nm st := by first | rfl | kernel_rfl
/-- at p a line -/
def LineAt (A : Ad) (H : Hp) (p : Addr) (nm : Str) (st : Int) : Prop := ∃ dx, H p = some (.ins A.C_Line dx (lf nm st))
theorem LineAt.same {A : Ad} {H H' : Hp} {p : Addr} {nm : Str} {st : Int} (e : Same H H') (h : LineAt A H p nm st) : LineAt A H' p nm st := by
  obtain ⟨dx, h⟩ := h
  exact ⟨dx, e _ _ h⟩
theorem LineAt.kp {A : Ad} {H H' : Hp} {s L p : Addr} {nm : Str} {st : Int} (e : Kp s H H') (S : Src H s L) (h : LineAt A H p nm st) : LineAt A H' p nm st := by
  obtain ⟨dx, h⟩ := h
  obtain ⟨xs, hs⟩ := S.at
  exact ⟨dx, e _ _ h (ne_of h hs (by intro z; cases z))⟩

def sp_is_integer (K : PySem.W.Frag) : Sp := fun vs H Q _ => ∃ (v : V) (k : Kd), vs = [v] ∧ Kn K H v k ∧ Q (.bl (decide (k = .int))) H
theorem ok_is_integer (T : Tx P A K mg) : FnOk P w K mg base CX0 1 A.a_is_integer A.fd_is_integer ["value"] (sp_is_integer K) := by
  refine T.F_is_integer.ok sc_is_integer (fun vs H Q E h => ?_) (fun cdv A' outer s H vs Q E hr h => ?_)
  · obtain ⟨v, k, rfl, _⟩ := h
    rfl
  · obtain ⟨v, k, rfl, hk, q⟩ := h
    refine ⟨_, (pss_one (ps_ret (pe_and (pe_callB call_isi (by rfl) T.m_isinstance bb_isinstance (pa_cons (pv 0) (pa_cons (pe_bltn (v := .ty "int") (by rfl) T.m_int bb_int rfl) pa_nil))) (pe_one (pe_not (pe_callB call_isi (by rfl) T.m_isinstance bb_isinstance (pa_cons (pv 0) (pa_cons (pe_bltn (v := .ty "bool") (by rfl) T.m_bool bb_bool rfl) pa_nil)))))))), ?_⟩
    obtain ⟨t, h1, h2⟩ := hk.ty
    refine ⟨_, rfl, _, _, t, _, _, rfl, .ty _, h1, h2 "int" (by decide), _, rfl, ?_⟩
    cases k with
    | int => exact iteT ⟨_, rfl, _, _, t, _, _, rfl, .ty _, h1, h2 "bool" (by decide), _, rfl, q⟩
    | bl => exact iteT ⟨_, rfl, _, _, t, _, _, rfl, .ty _, h1, h2 "bool" (by decide), _, rfl, q⟩
    | _ => exact iteF q

def sp_is_between (K : PySem.W.Frag) : Sp := fun vs H Q _ => ∃ (v : V) (k : Kd) (lo hi : Int), vs = [v, .int lo, .int hi] ∧ Kn K H v k ∧ Q (.bl (btw v lo hi)) H
theorem ok_is_between (T : Tx P A K mg) : FnOk P w K mg base CX0 2 A.a_is_between A.fd_is_between ["value", "low", "high"] (sp_is_between K) := by
  refine T.F_is_between.ok sc_is_between (fun vs H Q E h => ?_) (fun cdv A' outer s H vs Q E hr h => ?_)
  · obtain ⟨v, k, lo, hi, rfl, _⟩ := h
    rfl
  · obtain ⟨v, k, lo, hi, rfl, hk, q⟩ := h
    refine ⟨_, (pss_one (ps_ret (pe_and (pe_call (ok_is_integer T) (hr.mono (by decide)) (by rfl) T.g_is_integer T.F_is_integer.kp T.b_is_integer .nil pass0 (pa_cons (pv 0) pa_nil)) (pe_one (pe_chain op_le op_le (pv 1) (pv 0) (pv 2)))))), ?_⟩
    refine ⟨_, rfl, v, k, rfl, hk, _, rfl, ?_⟩
    by_cases hi' : k = .int
    · subst hi'
      cases hk with
      | int i =>
        refine iteT ⟨_, rfl, _, rfl, _, _, rfl, rfl, _, rfl, ?_⟩
        by_cases c : lo ≤ i
        · rw [if_pos (decide_eq_true c)]
          refine ⟨_, rfl, _, _, rfl, rfl, ?_⟩
          have e : btw (.int i) lo hi = decide (i ≤ hi) := by
            show (decide (lo ≤ i) && decide (i ≤ hi)) = _
            rw [decide_eq_true c, Bool.true_and]
          rw [e] at q
          exact q
        · rw [decide_eq_false c]
          refine iteF ?_
          have e : btw (.int i) lo hi = false := by
            show (decide (lo ≤ i) && decide (i ≤ hi)) = _
            rw [decide_eq_false c, Bool.false_and]
          rw [e] at q
          exact q
    · rw [decide_eq_false hi']
      refine iteF ?_
      rw [hk.notInt hi'] at q
      exact q

def sp_is_count (K : PySem.W.Frag) : Sp := fun vs H Q _ => ∃ (v : V) (k : Kd), vs = [v] ∧ Kn K H v k ∧ Q (.bl (cntV v)) H
theorem ok_is_count (T : Tx P A K mg) : FnOk P w K mg base CX0 2 A.a_is_count A.fd_is_count ["value"] (sp_is_count K) := by
  refine T.F_is_count.ok sc_is_count (fun vs H Q E h => ?_) (fun cdv A' outer s H vs Q E hr h => ?_)
  · obtain ⟨v, k, rfl, _⟩ := h
    rfl
  · obtain ⟨v, k, rfl, hk, q⟩ := h
    refine ⟨_, (pss_one (ps_ret (pe_and (pe_call (ok_is_integer T) (hr.mono (by decide)) (by rfl) T.g_is_integer T.F_is_integer.kp T.b_is_integer .nil pass0 (pa_cons (pv 0) pa_nil)) (pe_one (pe_cmpR op_ge (pv 0) pe_int (nomark _)))))), ?_⟩
    refine ⟨_, rfl, v, k, rfl, hk, _, rfl, ?_⟩
    by_cases hi' : k = .int
    · subst hi'
      cases hk with
      | int i => exact iteT ⟨_, rfl, _, _, rfl, rfl, q⟩
    · rw [decide_eq_false hi']
      refine iteF ?_
      rw [hk.notCnt hi'] at q
      exact q

def sp_is_name (K : PySem.W.Frag) : Sp := fun vs H Q _ => ∃ (v : V) (k : Kd), vs = [v] ∧ Kn K H v k ∧ ∀ H', Same H H' → Q (.bl (nmV v)) H'
theorem ok_is_name (T : Tx P A K mg) : FnOk P w K mg base CX0 1 A.a_is_name A.fd_is_name ["value"] (sp_is_name K) := by
  refine T.F_is_name.ok sc_is_name (fun vs H Q E h => ?_) (fun cdv A' outer s H vs Q E hr h => ?_)
  · obtain ⟨v, k, rfl, _⟩ := h
    rfl
  · obtain ⟨v, k, rfl, hk, q⟩ := h
    refine ⟨_, (pss_cons (ps_if (PW.pt (pw_or (pt_not (pt_val (pe_callB call_isi (by rfl) T.m_isinstance bb_isinstance (pa_cons (pv 0) (pa_cons (pe_bltn (v := .ty "str") (by rfl) T.m_str bb_str rfl) pa_nil))))) (pw_or1 (pt_not (pt_chain op_le op_le pe_int (pe_callB call_len_str (by rfl) T.m_len bb_len (pa_cons (pv 0) pa_nil)) (pe_glob (v := .int 8) (by rfl) T.c_MOST_LETTERS.choose_spec ⟨_, rfl⟩)))))) (pss_one (ps_ret pe_bl)) pss_nil)
      (pss_one (ps_ret (pe_callB (cr_all rfl) (by rfl) T.m_all bb_all (pa_cons (pe_lc (own := [("sign", 1)]) (g := gName 1) (tt := tYes) (by rfl) sc_is_name.nd (pi_str (pv 0)) (blkOk_by (own := [("sign", 1)]) (N := N_is_name) (sc := defScope s_is_name) (by decide +kernel)) (fun _ _ _ _ _ => (pg_name (i := 1) sc_is_name.nd rfl (.inl rfl))) (fun _ _ _ _ _ => pts_nil) (fun _ _ _ _ _ => (pe_cmpR op_in_sign (pv 1) (pe_glob (v := .str "abcdefghijklmnopqrstuvwxyz") (by rfl) T.c_LETTERS.choose_spec ⟨_, rfl⟩) (by rfl)))) pa_nil))))), ?_⟩
    obtain ⟨t, h1, h2⟩ := hk.ty
    refine ⟨_, rfl, _, _, t, _, _, rfl, .ty _, h1, h2 "str" (by decide), _, rfl, ?_⟩
    by_cases hs : k = .str
    · subst hs
      cases hk with
      | @str z hz =>
        have e0 : (!isk .str "str") = false := by decide
        rw [e0]
        refine iteF ?_
        refine ⟨_, rfl, z, rfl, hz, _, _, rfl, rfl, _, rfl, ?_⟩
        by_cases c1 : (1 : Int) ≤ (z.length : Int)
        · rw [if_pos (decide_eq_true c1)]
          refine ⟨_, _, rfl, rfl, _, rfl, ?_⟩
          by_cases c2 : (z.length : Int) ≤ 8
          · rw [decide_eq_true c2]
            refine iteF ?_
            refine ⟨_, rfl, z, rfl, fun D hD => ?_⟩
            refine lc_it (walk_str (z := z)) (fun i H' => Same H H' ∧ H' D = some (.lst ((((z.cps.toList).take i).map isLet).map V.bl))) ⟨Same.new hD, upd_same⟩ (fun _ _ _ _ => trivial) ?_ ?_
            · rintro i x H1 H2 hi ⟨s1, d1⟩ ⟨rfl, c, hc, rfl⟩
              refine ⟨rfl, _, rfl, c, LET, rfl, rfl, _, d1, ?_, s1.mut hD, ?_⟩
              · rw [List.length_map, List.length_map, List.length_take]
                have : z.cps.toList.length = z.length := by simp [PySem.Str.length]
                exact sz_lt (by omega)
              · rw [upd_same, take_succ_of (by rw [Array.getElem?_toList]; exact hc), List.map_append, List.map_append]
                rfl
            · rintro H1 ⟨s1, d1⟩
              refine ⟨D, _, rfl, SqL.of d1, ?_⟩
              have e : isNm z = List.all (((z.cps.toList).take z.cps.size).map isLet) id := by
                unfold isNm
                rw [decide_eq_true (show 1 ≤ z.length by omega), decide_eq_true (show z.length ≤ 8 by omega), show z.cps.size = z.cps.toList.length by simp, List.take_length, List.all_map]
                rfl
              have q1 : Q (.bl (isNm z)) H1 := q H1 s1
              rw [e] at q1
              exact q1
          · rw [decide_eq_false c2]
            refine iteT ?_
            have e : isNm z = false := by
              unfold isNm
              rw [decide_eq_false (show ¬ z.length ≤ 8 by omega), Bool.and_false, Bool.false_and]
            have q1 : Q (.bl (isNm z)) H := q H (Same.refl H)
            rw [e] at q1
            exact q1
        · rw [decide_eq_false c1]
          refine iteF ⟨_, rfl, iteT ?_⟩
          have e : isNm z = false := by
            unfold isNm
            rw [decide_eq_false (show ¬ 1 ≤ z.length by omega), Bool.false_and, Bool.false_and]
          have q1 : Q (.bl (isNm z)) H := q H (Same.refl H)
          rw [e] at q1
          exact q1
    · have e0 : (!isk k "str") = true := by cases k <;> first | decide | exact absurd rfl hs
      refine ifT e0 ?_
      have q1 := q H (Same.refl H)
      rw [hk.notStr hs] at q1
      exact q1

def sp_is_offset (K : PySem.W.Frag) : Sp := fun vs H Q _ => ∃ (v : V) (k : Kd), vs = [v] ∧ Kn K H v k ∧ Q (.bl (btw v (-9) 9)) H
theorem ok_is_offset (T : Tx P A K mg) : FnOk P w K mg base CX0 3 A.a_is_offset A.fd_is_offset ["value"] (sp_is_offset K) := by
  refine T.F_is_offset.ok sc_is_offset (fun vs H Q E h => ?_) (fun cdv A' outer s H vs Q E hr h => ?_)
  · obtain ⟨v, k, rfl, _⟩ := h
    rfl
  · obtain ⟨v, k, rfl, hk, q⟩ := h
    refine ⟨_, (pss_one (ps_ret (pe_call (ok_is_between T) (hr.mono (by decide)) (by rfl) T.g_is_between T.F_is_between.kp T.b_is_between .nil pass0 (pa_cons (pv 0) (pa_cons (pe_un un_neg (pe_glob (v := .int 9) (by rfl) T.c_MOST_OFFSET.choose_spec ⟨_, rfl⟩)) (pa_cons (pe_glob (v := .int 9) (by rfl) T.c_MOST_OFFSET.choose_spec ⟨_, rfl⟩) pa_nil)))))), ?_⟩
    exact ⟨_, rfl, _, rfl, v, k, -9, 9, rfl, hk, q⟩

def sp_Line___init__ (A : Ad) (K : PySem.W.Frag) : Sp := fun vs H Q E => ∃ (p dx : Addr) (x y : V) (kx ky : Kd), vs = [.ref p, x, y] ∧ H p = some (.ins A.C_Line dx []) ∧ Kn K H x kx ∧ Kn K H y ky ∧
  (nmV x = false → Rz E A.C_InvalidName H x) ∧ (nmV x = true → btw y 1 6 = false → Rz E A.C_InvalidNumber H y) ∧
  (∀ (nm : Str) (st : Int), x = .str nm → y = .int st → isNm nm = true → 1 ≤ st → st ≤ 6 → ∀ H', Kp p H H' → H' p = some (.ins A.C_Line dx (lf nm st)) → Q .non H')
theorem ok_Line___init__ (T : Tx P A K mg) : FnOk P w K mg base (L2.CX P w) 3 A.a_Line___init__ A.fd_Line___init__ ["self", "name", "stride"] (sp_Line___init__ A K) := by
  refine T.F_Line___init__.ok sc_Line___init__ (fun vs H Q E h => ?_) (fun cdv A' outer s H vs Q E hr h => ?_)
  · obtain ⟨p, dx, x, y, kx, ky, rfl, _⟩ := h
    rfl
  · obtain ⟨p, dx, x, y, kx, ky, rfl, hp, hx, hy, e1, e2, q⟩ := h
    refine ⟨_, (pss_cons (ps_if (pt_not (pt_val (pe_call (ok_is_name T) (hr.mono (by decide)) (by rfl) T.g_is_name T.F_is_name.kp T.b_is_name .nil pass0 (pa_cons (pv 1) pa_nil)))) (pss_one (ps_raiseEr (by rfl) T.er_InvalidName (hr.mono (Nat.zero_le _)) (takes_of rfl rfl rfl rfl) (pa_cons (pv 1) pa_nil) (by rfl))) pss_nil)
      (pss_cons (ps_if (pt_not (pt_val (pe_call (ok_is_between T) (hr.mono (by decide)) (by rfl) T.g_is_between T.F_is_between.kp T.b_is_between .nil pass0 (pa_cons (pv 2) (pa_cons pe_int (pa_cons (pe_glob (v := .int 6) (by rfl) T.c_MOST_STRIDE.choose_spec ⟨_, rfl⟩) pa_nil)))))) (pss_one (ps_raiseEr (by rfl) T.er_InvalidNumber (hr.mono (Nat.zero_le _)) (takes_of rfl rfl rfl rfl) (pa_cons (pv 2) pa_nil) (by rfl))) pss_nil)
      (pss_cons (ps_fld (pv 0) (pv 1) rfl)
      (pss_one (ps_fld (pv 0) (pv 2) rfl))))), ?_⟩
    refine ⟨_, rfl, x, kx, rfl, hx, fun H1 s1 => ⟨_, rfl, ?_⟩⟩
    cases c1 : nmV x with
    | false => exact ⟨_, rfl, _, rfl, fun d hd => (e1 c1).go s1 hd⟩
    | true =>
      refine ⟨_, rfl, y, ky, 1, 6, rfl, hy.same s1, _, rfl, ?_⟩
      cases c2 : btw y 1 6 with
      | false => exact ⟨_, rfl, _, rfl, fun d hd => (e2 c1 c2).go s1 hd⟩
      | true =>
        obtain ⟨nm, rfl⟩ : ∃ nm, x = .str nm := by cases hx <;> first | exact ⟨_, rfl⟩ | cases c1
        obtain ⟨st, rfl⟩ : ∃ st, y = .int st := by cases hy <;> first | exact ⟨_, rfl⟩ | cases c2
        have c3 : decide ((1 : Int) ≤ st) = true ∧ decide (st ≤ 6) = true := Bool.and_eq_true_iff.mp c2
        refine ⟨_, rfl, _, rfl, p, A.C_Line, dx, _, rfl, s1 _ _ hp, T.cl_Line, T.n_Line_kept_name, by show 0 < 1000; decide, _, rfl, _, rfl, p, A.C_Line, dx, _, rfl, upd_same, T.cl_Line, T.n_Line_kept_stride, by show 1 < 1000; decide, ?_⟩
        rw [lf_made, upd_upd]
        refine q nm st rfl rfl c1 (of_decide_eq_true c3.1) (of_decide_eq_true c3.2) _ (fun b o e n => ?_) upd_same
        rw [upd_ne n]
        exact s1 _ _ e

def sp_Line_name (A : Ad) : Sp := fun vs H Q _ => ∃ (p : Addr) (nm : Str) (st : Int), vs = [.ref p] ∧ LineAt A H p nm st ∧ Q (.str nm) H
theorem ok_Line_name (T : Tx P A K mg) : FnOk P w K mg base CX0 1 A.a_Line_name A.fd_Line_name ["self"] (sp_Line_name A) := by
  refine T.F_Line_name.ok sc_Line_name (fun vs H Q E h => ?_) (fun cdv A' outer s H vs Q E hr h => ?_)
  · obtain ⟨p, nm, st, rfl, _⟩ := h
    rfl
  · obtain ⟨p, nm, st, rfl, ⟨dx, hp⟩, q⟩ := h
    refine ⟨_, (pss_one (ps_ret (pe_fld (pv 0) rfl))), ?_⟩
    exact ⟨_, rfl, p, A.C_Line, dx, _, _, rfl, hp, T.cl_Line, T.n_Line_kept_name, lf_name _ _, q⟩

def sp_Line_stride (A : Ad) : Sp := fun vs H Q _ => ∃ (p : Addr) (nm : Str) (st : Int), vs = [.ref p] ∧ LineAt A H p nm st ∧ Q (.int st) H
theorem ok_Line_stride (T : Tx P A K mg) : FnOk P w K mg base CX0 1 A.a_Line_stride A.fd_Line_stride ["self"] (sp_Line_stride A) := by
  refine T.F_Line_stride.ok sc_Line_stride (fun vs H Q E h => ?_) (fun cdv A' outer s H vs Q E hr h => ?_)
  · obtain ⟨p, nm, st, rfl, _⟩ := h
    rfl
  · obtain ⟨p, nm, st, rfl, ⟨dx, hp⟩, q⟩ := h
    refine ⟨_, (pss_one (ps_ret (pe_fld (pv 0) rfl))), ?_⟩
    exact ⟨_, rfl, p, A.C_Line, dx, _, _, rfl, hp, T.cl_Line, T.n_Line_kept_stride, lf_stride _ _, q⟩

theorem kit_self {K : PySem.W.Frag} (C : Addr) : PySem.W.kitOne K (.ref C) (.ref C) = some true := by
  unfold PySem.W.kitOne
  rw [if_pos (beq_self_eq_true _)]
theorem hu_big {A : Around} {k : Nat} (hr : Room k A) : A.units + 100 < cLine := by
  have := hr.un
  omega
def sp_Line___eq__ (A : Ad) (K : PySem.W.Frag) : Sp := fun vs H Q _ => ∃ (p : Addr) (nm : Str) (st : Int) (y : V), vs = [.ref p, y] ∧ LineAt A H p nm st ∧
  ((∃ (p' : Addr) (nm' : Str) (st' : Int), y = .ref p' ∧ LineAt A H p' nm' st' ∧ Q (.bl (decide (nm = nm') && decide (st = st'))) H) ∨ ∃ z : Str, y = .str z ∧ Q (.bl false) H)
theorem ok_Line___eq__ (T : Tx P A K mg) : FnOk P w K mg base CX0 1 A.a_Line___eq__ A.fd_Line___eq__ ["self", "other"] (sp_Line___eq__ A K) := by
  refine T.F_Line___eq__.ok sc_Line___eq__ (fun vs H Q E h => ?_) (fun cdv A' outer s H vs Q E hr h => ?_)
  · obtain ⟨p, nm, st, y, rfl, _⟩ := h
    rfl
  · obtain ⟨p, nm, st, y, rfl, ⟨dx, hp⟩, h⟩ := h
    refine ⟨_, (pss_cons (ps_if (pt_not (pt_val (pe_callB call_isi (by rfl) T.m_isinstance bb_isinstance (pa_cons (pv 1) (pa_cons (pe_glob (v := .ref A.C_Line) (by rfl) T.g_Line rfl) pa_nil))))) (pss_one (ps_ret pe_bl)) pss_nil)
      (pss_one (ps_ret (pe_and (pe_cmpR op_eq (pe_fld (pv 0) rfl) (pe_fld (pv 1) rfl) (nomark _)) (pe_one (pe_cmpR op_eq (pe_fld (pv 0) rfl) (pe_fld (pv 1) rfl) (nomark _))))))), ?_⟩
    have c := T.oc_Line
    rcases h with ⟨p', nm', st', rfl, ⟨dx', hp'⟩, q⟩ | ⟨z, rfl, q⟩
    · refine ⟨_, rfl, _, _, _, _, _, rfl, .own _, .base (.ins hp' c.cl c.ha c.hn c.htk c.hm), kit_self _, _, rfl, ?_⟩
      refine ⟨_, rfl, p, A.C_Line, dx, _, _, rfl, hp, T.cl_Line, T.n_Line_kept_name, lf_name _ _, _, rfl, p', A.C_Line, dx', _, _, rfl, hp', T.cl_Line, T.n_Line_kept_name, lf_name _ _, rfl, _, rfl, ?_⟩
      by_cases c1 : nm = nm'
      · subst c1
        refine ifT (decide_eq_true rfl) ?_
        refine ⟨_, rfl, p, A.C_Line, dx, _, _, rfl, hp, T.cl_Line, T.n_Line_kept_stride, lf_stride _ _, _, rfl, p', A.C_Line, dx', _, _, rfl, hp', T.cl_Line, T.n_Line_kept_stride, lf_stride _ _, rfl, ?_⟩
        rw [decide_eq_true rfl, Bool.true_and] at q
        have e : decide (V.int st = V.int st') = decide (st = st') := by
          by_cases c2 : st = st'
          · rw [c2, decide_eq_true rfl, decide_eq_true rfl]
          · rw [decide_eq_false c2, decide_eq_false fun z => c2 (V.int.inj z)]
        rw [e]
        exact q
      · rw [decide_eq_false c1, Bool.false_and] at q
        rw [decide_eq_false fun z => c1 (V.str.inj z)]
        exact ifF rfl q
    · exact ⟨_, rfl, _, _, _, _, _, rfl, .own _, .base (.str _), T.nkt_Line_str, _, rfl, q⟩

/-- line * times -/
def mulOk (st : Int) (v : V) : Bool := match v with
  | .int i => decide (1 ≤ i) && decide (st * i ≤ 6)
  | _ => false
def sp_Line___mul__ (A : Ad) (K : PySem.W.Frag) : Sp := fun vs H Q E => ∃ (p : Addr) (nm : Str) (st : Int) (v : V) (k : Kd), vs = [.ref p, v] ∧ LineAt A H p nm st ∧ isNm nm = true ∧ nm.length ≤ sizeLine ∧ 1 ≤ st ∧ st ≤ 6 ∧ Kn K H v k ∧
  (mulOk st v = false → Rz E A.C_InvalidNumber H v) ∧
  (∀ (i : Int), v = .int i → mulOk st v = true → ∀ (r : Addr) H', H r = none → Same H H' → LineAt A H' r nm (st * i) → Q (.ref r) H')
theorem ok_Line___mul__ (T : Tx P A K mg) : FnOk P w K mg base (L2.CX P w) 5 A.a_Line___mul__ A.fd_Line___mul__ ["self", "times"] (sp_Line___mul__ A K) := by
  refine T.F_Line___mul__.okX sc_Line___mul__ (fun vs H Q E h => ?_) (fun cdv A' outer s H vs Q E hr h => ?_)
  · obtain ⟨p, nm, st, v, k, rfl, _⟩ := h
    rfl
  · obtain ⟨p, nm, st, v, k, rfl, ⟨dx, hp⟩, hnm, hln, s0, s6, hv, e, q⟩ := h
    refine ⟨_, (pss_cons (ps_if (pt_not (pt_val (pe_call (ok_is_integer T) (hr.mono (by decide)) (by rfl) T.g_is_integer T.F_is_integer.kp T.b_is_integer .nil pass0 (pa_cons (pv 1) pa_nil)))) (pss_one (ps_raiseEr (by rfl) T.er_InvalidNumber (hr.mono (Nat.zero_le _)) (takes_of rfl rfl rfl rfl) (pa_cons (pv 1) pa_nil) (by rfl))) pss_nil)
      (pss_cons (ps_if (PW.pt (pw_or (pt_cmpR op_lt (pv 1) pe_int (nomark _)) (pw_or1 (pt_cmpR op_gt (pe_op op_mul (pe_fld (pv 0) rfl) (pv 1)) (pe_glob (v := .int 6) (by rfl) T.c_MOST_STRIDE.choose_spec ⟨_, rfl⟩) (nomark _))))) (pss_one (ps_raiseEr (by rfl) T.er_InvalidNumber (hr.mono (Nat.zero_le _)) (takes_of rfl rfl rfl rfl) (pa_cons (pv 1) pa_nil) (by rfl))) pss_nil)
      (pss_one (ps_ret (pe_make T.M_Line (ok_Line___init__ T) (hr.mono (by decide)) (by rfl) T.g_Line T.b_Line___init__ .nil (passE (takes_of rfl rfl rfl rfl)) (pa_cons (pe_fld (pv 0) rfl) (pa_cons (pe_op op_mul (pe_fld (pv 0) rfl) (pv 1)) pa_nil))))))), ?_⟩
    refine ⟨_, rfl, v, k, rfl, hv, _, rfl, ?_⟩
    by_cases hk : k = .int
    · subst hk
      cases hv with
      | int i =>
        refine ⟨_, rfl, _, _, rfl, rfl, _, rfl, ?_⟩
        have fin : mulOk st (.int i) = false → ∀ d, H d = none → E (.ref A.C_InvalidNumber) (some d) (upd H d (.xd [(("value" : Str), V.int i)])) := fun c d hd => (e c).go (Same.refl H) hd
        by_cases c1 : i < 1
        · refine ifT (decide_eq_true c1) ?_
          exact ⟨_, rfl, _, rfl, fun d hd => fin (by show (decide (1 ≤ i) && _) = false; rw [decide_eq_false (show ¬ 1 ≤ i by omega), Bool.false_and]) d hd⟩
        · refine ifF (decide_eq_false c1) ?_
          refine ⟨_, rfl, p, A.C_Line, dx, _, _, rfl, hp, T.cl_Line, T.n_Line_kept_stride, lf_stride _ _, _, rfl, _, _, rfl, rfl, .inl ⟨by omega, by omega⟩, _, _, rfl, rfl, _, rfl, ?_⟩
          by_cases c2 : (6 : Int) < st * i
          · refine ifT (decide_eq_true c2) ?_
            exact ⟨_, rfl, _, rfl, fun d hd => fin (by show (_ && decide (st * i ≤ 6)) = false; rw [decide_eq_false (show ¬ st * i ≤ 6 by omega), Bool.and_false]) d hd⟩
          · refine ifF (decide_eq_false c2) ?_
            have ok : mulOk st (.int i) = true := by
              show (decide (1 ≤ i) && decide (st * i ≤ 6)) = true
              rw [decide_eq_true (show 1 ≤ i by omega), decide_eq_true (show st * i ≤ 6 by omega)]
              rfl
            have hpos : 1 ≤ st * i := by
              have h1 : 0 < st * i := Int.mul_pos (by omega) (by omega)
              omega
            refine ⟨_, rfl, p, A.C_Line, dx, _, _, rfl, hp, T.cl_Line, T.n_Line_kept_name, lf_name _ _, _, rfl, p, A.C_Line, dx, _, _, rfl, hp, T.cl_Line, T.n_Line_kept_stride, lf_stride _ _, _, rfl, _, _, rfl, rfl, .inl ⟨by omega, by omega⟩, ?_⟩
            intro x dx' hx hdx ne
            have s1 : Same H (upd (upd H dx' (.own x)) x (.ins A.C_Line dx' [])) := fun b o e => by
              rw [upd_ne (ne_of_none e hx), upd_ne (ne_of_none e hdx)]
              exact e
            refine ⟨x, dx', _, _, .str, .int, rfl, upd_same, .str hln, .int _, fun z => ?_, fun _ z => ?_, fun nm' st' e1 e2 _ _ _ H2 k2 h2 => ⟨rfl, ?_⟩⟩
            · have : isNm nm = false := z
              rw [hnm] at this
              cases this
            · exfalso
              have : (decide ((1 : Int) ≤ st * i) && decide (st * i ≤ 6)) = false := z
              rw [decide_eq_true hpos, decide_eq_true (show st * i ≤ 6 by omega)] at this
              cases this
            · cases e1
              cases e2
              exact q i rfl ok x H2 hx (fun b o e => k2 b o (s1 b o e) (ne_of_none e hx)) ⟨dx', h2⟩
    · rw [decide_eq_false hk]
      have ng : mulOk st v = false := by cases hv <;> first | rfl | exact absurd rfl hk
      exact ⟨_, rfl, _, rfl, fun d hd => (e ng).go (Same.refl H) hd⟩

def sp_Line_cell (A : Ad) (K : PySem.W.Frag) : Sp := fun vs H Q E => ∃ (p : Addr) (nm : Str) (st : Int) (x y : V) (kx ky : Kd), vs = [.ref p, x, y] ∧ LineAt A H p nm st ∧ 1 ≤ st ∧ st ≤ 6 ∧ Kn K H x kx ∧ Kn K H y ky ∧
  (btw x (-9) 9 = false → Rz E A.C_InvalidNumber H x) ∧ (btw x (-9) 9 = true → cntV y = false → Rz E A.C_InvalidNumber H y) ∧
  (∀ (o i : Int), x = .int o → y = .int i → btw x (-9) 9 = true → 0 ≤ i → ∀ (t : Addr) H', H t = none → Same H H' → H' t = some (.tup [.str nm, .int (st * i + o)]) → Q (.ref t) H')
theorem ok_Line_cell (T : Tx P A K mg) : FnOk P w K mg base (L2.CX P w) 4 A.a_Line_cell A.fd_Line_cell ["self", "offset", "at"] (sp_Line_cell A K) := by
  refine T.F_Line_cell.okX sc_Line_cell (fun vs H Q E h => ?_) (fun cdv A' outer s H vs Q E hr h => ?_)
  · obtain ⟨p, nm, st, x, y, kx, ky, rfl, _⟩ := h
    rfl
  · obtain ⟨p, nm, st, x, y, kx, ky, rfl, ⟨dx, hp⟩, s0, s6, hx, hy, e1, e2, q⟩ := h
    refine ⟨_, (pss_cons (ps_if (pt_not (pt_val (pe_call (ok_is_offset T) (hr.mono (by decide)) (by rfl) T.g_is_offset T.F_is_offset.kp T.b_is_offset .nil pass0 (pa_cons (pv 1) pa_nil)))) (pss_one (ps_raiseEr (by rfl) T.er_InvalidNumber (hr.mono (Nat.zero_le _)) (takes_of rfl rfl rfl rfl) (pa_cons (pv 1) pa_nil) (by rfl))) pss_nil)
      (pss_cons (ps_if (pt_not (pt_val (pe_call (ok_is_count T) (hr.mono (by decide)) (by rfl) T.g_is_count T.F_is_count.kp T.b_is_count .nil pass0 (pa_cons (pv 2) pa_nil)))) (pss_one (ps_raiseEr (by rfl) T.er_InvalidNumber (hr.mono (Nat.zero_le _)) (takes_of rfl rfl rfl rfl) (pa_cons (pv 2) pa_nil) (by rfl))) pss_nil)
      (pss_one (ps_ret (pe_tup (pa_cons (pe_fld (pv 0) rfl) (pa_cons (pe_op op_add (pe_op op_mul (pe_fld (pv 0) rfl) (pv 2)) (pv 1)) pa_nil))))))), ?_⟩
    refine ⟨_, rfl, x, kx, rfl, hx, _, rfl, ?_⟩
    cases c1 : btw x (-9) 9 with
    | false => exact ⟨_, rfl, _, rfl, fun d hd => (e1 c1).go (Same.refl H) hd⟩
    | true =>
      refine ⟨_, rfl, y, ky, rfl, hy, _, rfl, ?_⟩
      cases c2 : cntV y with
      | false => exact ⟨_, rfl, _, rfl, fun d hd => (e2 c1 c2).go (Same.refl H) hd⟩
      | true =>
        obtain ⟨o, rfl⟩ : ∃ st, x = .int st := by cases hx <;> first | exact ⟨_, rfl⟩ | cases c1
        obtain ⟨i, rfl⟩ : ∃ st, y = .int st := by cases hy <;> first | exact ⟨_, rfl⟩ | cases c2
        refine ⟨_, rfl, p, A.C_Line, dx, _, _, rfl, hp, T.cl_Line, T.n_Line_kept_name, lf_name _ _, _, rfl, p, A.C_Line, dx, _, _, rfl, hp, T.cl_Line, T.n_Line_kept_stride, lf_stride _ _, _, rfl, _, _, rfl, rfl, .inl ⟨by omega, by omega⟩, _, rfl, _, _, rfl, rfl, by show 2 ≤ sizeLine; decide, fun t ht => ?_⟩
        exact q o i rfl rfl c1 (of_decide_eq_true c2) t _ ht (Same.new ht) upd_same

def sp__law_begin (K : PySem.W.Frag) : Sp := fun vs H Q _ => ∃ (a : Addr) (ns : List Int), vs = [.ref a] ∧ SqL K H a (ns.map V.int) ∧ ns.length ≤ 63 ∧ ∀ s L H', H s = none → Same H H' → Src H' s L → Q (.ref s) H'
theorem ok__law_begin (T : Tx P A K mg) : FnOk P w K mg base CX0 1 A.a__law_begin A.fd__law_begin ["script"] (sp__law_begin K) := by
  refine T.F__law_begin.ok sc__law_begin (fun vs H Q E h => ?_) (fun cdv A' outer s H vs Q E hr h => ?_)
  · obtain ⟨a, ns, rfl, _⟩ := h
    rfl
  · obtain ⟨a, ns, rfl, hS, hl, q⟩ := h
    refine ⟨_, (pss_one (ps_ret (pe_lst (pa_cons (pe_callTy call_list_of (by rfl) T.m_list bb_list (pa_cons (pe_slice sl_list (pv 0) po_none (po_some pe_int)) pa_nil)) (pa_cons pe_int (pa_cons pe_int (pa_cons pe_int pa_nil))))))), ?_⟩
    refine ⟨_, rfl, _, rfl, a, _, rfl, hS, fun p hp => ⟨p, _, rfl, .inl (SqL.of upd_same), fun l hl' => ⟨by show 4 ≤ sizeLine; decide, fun s' hs' => ?_⟩⟩⟩
    have nlp : l ≠ p := fun z => by rw [z, upd_same] at hl'; cases hl'
    have nsl : s' ≠ l := fun z => by rw [z, upd_same] at hs'; cases hs'
    have nsp : s' ≠ p := fun z => by rw [z, upd_ne nlp.symm, upd_same] at hs'; cases hs'
    have h1 : H s' = none := by rw [upd_ne nsl, upd_ne nsp] at hs'; exact hs'
    have hl0 : H l = none := by rw [upd_ne nlp] at hl'; exact hl'
    refine q s' l _ h1 (((Same.new hp).trans (Same.new hl')).trans (Same.new hs')) ⟨0, 0, 7, ns, upd_same, ?_, by omega, by omega, hl, by omega, by omega, by omega⟩
    rw [upd_ne nsl.symm, upd_same]
    congr 2
    have e : cutV (ns.map V.int) none (some 63) = (ns.map V.int).take 63 := by
      unfold cutV
      have e1 : HT.sIx (ns.map V.int).length (ns.map V.int).length (some 63) = min 63 (ns.map V.int).length := HT.sIx_nat _ _ 63
      rw [HT.sIx_none, e1, List.drop_zero, Nat.sub_zero]
      rw [List.take_eq_take_iff]
      simp
    rw [e]
    exact List.take_of_length_le (by rw [List.length_map]; exact hl)

def sp__law_draw : Sp := fun vs H Q _ => ∃ (s L : Addr) (n : Int), vs = [.ref s, .int n] ∧ Src H s L ∧ 0 < n ∧ n < 2 ^ 200 ∧ ∀ (d : Int) H', 0 ≤ d → d < n → Kp s H H' → Src H' s L → Q (.int d) H'
theorem ok__law_draw (T : Tx P A K mg) : FnOk P w K mg base CX0 1 A.a__law_draw A.fd__law_draw ["source", "limit"] sp__law_draw := by
  refine T.F__law_draw.ok sc__law_draw (fun vs H Q E h => ?_) (fun cdv A' outer s H vs Q E hr h => ?_)
  · obtain ⟨s, L, n, rfl, _⟩ := h
    rfl
  · obtain ⟨s, L, n, rfl, S, n0, n1, q⟩ := h
    refine ⟨_, (C8.pss_cut (ps_if (PW.pt (pw_and (pt_cmpR op_lt (pe_ix ix_list (pv 0) pe_int (fun _ _ => rfl)) (pe_op op_pow pe_int pe_int) (nomark _)) (pw_and1 (pt_cmpR op_lt (pe_ix ix_list (pv 0) pe_int (fun _ _ => rfl)) (pe_callB call_len_seq (by rfl) T.m_len bb_len (pa_cons (pe_ix ix_list (pv 0) pe_int (fun _ _ => rfl)) pa_nil)) (nomark _))))) (pss_cons (ps_set (i := 2) sc__law_draw.nd rfl (.inl rfl) (pe_callTy call_int1 (by rfl) T.m_int bb_int (pa_cons (pe_ix ix_list (pe_ix ix_list (pv 0) pe_int (fun _ _ => rfl)) (pe_ix ix_list (pv 0) pe_int (fun _ _ => rfl)) (fun _ _ => rfl)) pa_nil)))
      (pss_cons (ps_asg (pe_op op_add (pe_ix ix_list (pv 0) pe_int (fun _ _ => rfl)) pe_int) (pg_sub (pv 0) pe_int set_list))
      (pss_cons (ps_asg pe_int (pg_sub (pv 0) pe_int set_list))
      (C8.pss_cut (ps_if (pt_cmpR op_ge (pv 2) (pe_op op_pow pe_int pe_int) (nomark _)) (pss_one (ps_asg (pv 2) (pg_sub (pv 0) pe_int set_list))) pss_nil)
      (pss_one (ps_asg (pe_op op_mod (pe_callTy call_int1 (by rfl) T.m_int bb_int (pa_cons (pe_op op_add (pe_op op_add (pe_op op_mul (pe_ix ix_list (pv 0) pe_int (fun _ _ => rfl)) pe_int) (pe_op op_mod (pv 2) pe_int)) pe_int) pa_nil)) pe_int) (pg_sub (pv 0) pe_int set_list))))))) pss_nil)
      (pss_cons (ps_if (pt_cmpR op_ge (pe_ix ix_list (pv 0) pe_int (fun _ _ => rfl)) (pe_op op_pow pe_int pe_int) (nomark _)) (pss_cons (ps_set (i := 3) sc__law_draw.nd rfl (.inl rfl) (pe_op op_mod (pe_callTy call_int1 (by rfl) T.m_int bb_int (pa_cons (pe_ix ix_list (pv 0) pe_int (fun _ _ => rfl)) pa_nil)) (pv 1)))
      (pss_cons (ps_asg (pe_op op_fdivW (pe_ix ix_list (pv 0) pe_int (fun _ _ => rfl)) (pv 1)) (pg_sub (pv 0) pe_int set_list))
      (pss_one (ps_ret (pv 3))))) pss_nil)
      (pss_cons (ps_asg (pe_op op_mod (pe_callTy call_int1 (by rfl) T.m_int bb_int (pa_cons (pe_op op_add (pe_op op_mul (pe_ix ix_list (pv 0) pe_int (fun _ _ => rfl)) pe_int) pe_int) pa_nil)) pe_int) (pg_sub (pv 0) pe_int set_list))
      (pss_one (ps_ret (pe_op op_mod (pe_callTy call_int1 (by rfl) T.m_int bb_int (pa_cons (pe_op op_fdiv (pe_ix ix_list (pv 0) pe_int (fun _ _ => rfl)) pe_int) pa_nil)) (pv 1))))))), ?_⟩
    obtain ⟨i, qq, z, ns, hs, hL, i0, i1, hn, q0, z0, z1⟩ := id S
    have nLs : L ≠ s := ne_of hL hs (src_ne _ _ _ _ _)
    refine ⟨fun σ' H1 => ∃ v, σ' = [some (.ref s), some (.int n), v, none] ∧ Kp s H H1 ∧ Src H1 s L, ?_, ?_⟩
    · refine ⟨_, rfl, s, _, 2, _, rfl, rfl, SqL.of hs, rfl, _, _, rfl, rfl, ⟨by decide, by decide, by decide⟩, _, _, rfl, rfl, _, rfl, ?_⟩
      refine ite2 (fun c => ?_) (fun c => iteF ⟨_, rfl, Kp.refl s H, S⟩)
      refine ⟨_, rfl, s, _, 1, _, rfl, rfl, SqL.of hs, rfl, _, rfl, s, _, 0, _, rfl, rfl, SqL.of hs, rfl, L, _, rfl, .inl (SqL.of hL), _, _, rfl, rfl, _, rfl, ?_⟩
      refine ite2 (fun c2 => ?_) (fun c2 => ⟨_, rfl, Kp.refl s H, S⟩)
      have c3 : i < (ns.length : Int) := by
        have := of_decide_eq_true c2
        rw [List.length_map] at this
        exact this
      obtain ⟨j, rfl⟩ := Int.eq_ofNat_of_zero_le i0
      have hj : j < ns.length := by omega
      have ej : (ns.map V.int)[j]? = some (.int ns[j]) := by simp [hj]
      -- cell = int(source[0][source[1]])
      refine ⟨_, rfl, s, _, 0, _, rfl, rfl, SqL.of hs, rfl, _, rfl, s, _, 1, _, rfl, rfl, SqL.of hs, rfl, L, _, _, _, rfl, rfl, SqL.of hL, atI_nat ej, .inl ⟨_, rfl, ?_⟩⟩
      -- source[1] = source[1] + 1; source[2] = 0
      refine ⟨_, rfl, s, _, 1, _, rfl, rfl, SqL.of hs, rfl, _, _, rfl, rfl, _, rfl, s, _, 1, 1, rfl, rfl, hs, rfl, ?_⟩
      refine ⟨_, rfl, s, _, 2, 2, rfl, rfl, upd_same, rfl, ?_⟩
      refine ⟨fun σ' H1 => ∃ q', σ' = [some (.ref s), some (.int n), some (.int ns[j]), none] ∧ 0 ≤ q' ∧ Kp s H H1 ∧ H1 s = some (.lst [.ref L, .int ((j : Int) + 1), .int q', .int z]), ?_, ?_⟩
      · refine ⟨_, rfl, _, _, rfl, rfl, ⟨by decide, by decide, by decide⟩, _, _, rfl, rfl, _, rfl, ?_⟩
        refine ite2 (fun c4 => ?_) (fun c4 => ?_)
        · refine ⟨_, rfl, _, rfl, s, _, 2, 2, rfl, rfl, upd_same, rfl, ?_⟩
          have c5 := of_decide_eq_true c4
          rw [e18] at c5
          exact ⟨ns[j], rfl, by omega, (Kp.self.trans Kp.self).trans Kp.self, upd_same⟩
        · exact ⟨0, rfl, by omega, Kp.self.trans Kp.self, upd_same⟩
      · rintro σ' H1 ⟨q', rfl, hq', k1, h1⟩
        refine ⟨_, rfl, s, _, 3, _, rfl, rfl, SqL.of h1, rfl, _, _, rfl, rfl, .inr ⟨by decide, by decide⟩, _, rfl, _, _, rfl, rfl, by show (0 : Int) < 2147483629; decide, _, _, rfl, rfl, _, _, rfl, rfl, .inl ⟨_, rfl, _, _, rfl, rfl, by show (0 : Int) < 2147483647; decide, _, rfl, s, _, 3, 3, rfl, rfl, h1, rfl, ?_⟩⟩
        refine ⟨_, rfl, k1.trans Kp.self, (j : Int) + 1, q', _, ns, upd_same, ?_, by omega, by omega, hn, hq', Int.emod_nonneg _ (by decide), Int.emod_lt_of_pos _ (by decide)⟩
        rw [upd_ne nLs]
        exact k1 L _ hL nLs
    · rintro σ' H1 ⟨v, rfl, k1, S1⟩
      obtain ⟨i, qq, z, ns, hs, hL, i0, i1, hn, q0, z0, z1⟩ := S1
      refine ⟨_, rfl, s, _, 2, _, rfl, rfl, SqL.of hs, rfl, _, _, rfl, rfl, ⟨by decide, by decide, by decide⟩, _, _, rfl, rfl, _, rfl, ?_⟩
      refine ite2 (fun c => ?_) (fun c => ?_)
      · refine ⟨_, rfl, s, _, 2, _, rfl, rfl, SqL.of hs, rfl, .inl ⟨_, rfl, _, rfl, _, _, rfl, rfl, n0, ?_⟩⟩
        refine ⟨_, rfl, s, _, 2, _, rfl, rfl, SqL.of hs, rfl, _, rfl, _, _, rfl, rfl, wide_div n0 (b := 200) (by omega) (by decide) (by decide), _, rfl, s, _, 2, 2, rfl, rfl, hs, rfl, ?_⟩
        refine ⟨_, rfl, q _ _ (Int.emod_nonneg _ (by omega)) (Int.emod_lt_of_pos _ n0) (k1.trans Kp.self) ?_⟩
        refine ⟨i, qq / n, z, ns, upd_same, ?_, i0, i1, hn, Int.ediv_nonneg q0 (by omega), z0, z1⟩
        rw [upd_ne (ne_of hL hs (src_ne _ _ _ _ _))]
        exact hL
      · refine ⟨_, rfl, s, _, 3, _, rfl, rfl, SqL.of hs, rfl, _, _, rfl, rfl, .inr ⟨by decide, by decide⟩, _, _, rfl, rfl, .inl ⟨_, rfl, _, _, rfl, rfl, by show (0 : Int) < 2147483647; decide, _, rfl, s, _, 3, 3, rfl, rfl, hs, rfl, ?_⟩⟩
        refine ⟨_, rfl, s, _, 3, _, rfl, rfl, SqL.of upd_same, rfl, _, _, rfl, rfl, ⟨by decide, by decide⟩, .inl ⟨_, rfl, _, rfl, _, _, rfl, rfl, n0, ?_⟩⟩
        refine q _ _ (Int.emod_nonneg _ (by omega)) (Int.emod_lt_of_pos _ n0) (k1.trans Kp.self) ?_
        refine ⟨i, qq, _, ns, upd_same, ?_, i0, i1, hn, q0, Int.emod_nonneg _ (by decide), Int.emod_lt_of_pos _ (by decide)⟩
        rw [upd_ne (ne_of hL hs (src_ne _ _ _ _ _))]
        exact hL

def sp__law_pick (K : PySem.W.Frag) : Sp := fun vs H Q _ => ∃ (s L : Addr) (v : V), vs = [.ref s, v] ∧ Src H s L ∧
  ((∃ (p : Addr) (xs : List V), v = .ref p ∧ p ≠ s ∧ SqL K H p xs ∧ 0 < xs.length ∧ xs.length ≤ 100000 ∧ ∀ x ∈ xs, ∀ H', Kp s H H' → Src H' s L → Q x H') ∨
   (∃ z : Str, v = .str z ∧ 0 < z.length ∧ z.length ≤ 100000 ∧ ∀ c ∈ z.cps.toList, ∀ H', Kp s H H' → Src H' s L → Q (.str ⟨#[c]⟩) H'))
theorem ok__law_pick (T : Tx P A K mg) : FnOk P w K mg base CX0 2 A.a__law_pick A.fd__law_pick ["source", "items"] (sp__law_pick K) := by
  refine T.F__law_pick.ok sc__law_pick (fun vs H Q E h => ?_) (fun cdv A' outer s H vs Q E hr h => ?_)
  · obtain ⟨s, L, v, rfl, _⟩ := h
    rfl
  · obtain ⟨s, L, v, rfl, S, h⟩ := h
    refine ⟨_, (pss_one (ps_ret (pe_ix ix_seq (pv 1) (pe_call (ok__law_draw T) (hr.mono (by decide)) (by rfl) T.g__law_draw T.F__law_draw.kp T.b__law_draw .nil pass0 (pa_cons (pv 0) (pa_cons (pe_callB call_len (by rfl) T.m_len bb_len (pa_cons (pv 1) pa_nil)) pa_nil))) (fun _ _ => rfl)))), ?_⟩
    rcases h with ⟨p, xs, rfl, nps, hp, l0, l1, q⟩ | ⟨z, rfl, l0, l1, q⟩
    · refine ⟨_, rfl, _, rfl, _, rfl, _, _, rfl, .inl ⟨xs, hp, rfl⟩, s, L, _, rfl, S, by omega, big_of l1, fun d H' d0 d1 k1 S1 => .inl ?_⟩
      obtain ⟨j, rfl⟩ := Int.eq_ofNat_of_zero_le d0
      have hj : j < xs.length := by omega
      exact ⟨p, xs, _, xs[j], rfl, rfl, k1.l nps hp, atI_nat (by simp [hj]), q _ (List.getElem_mem hj) _ k1 S1⟩
    · refine ⟨_, rfl, _, rfl, _, rfl, _, _, rfl, ⟨sz_of l1, rfl⟩, s, L, _, rfl, S, by omega, big_of l1, fun d H' d0 d1 k1 S1 => .inr (.inr ?_)⟩
      obtain ⟨j, rfl⟩ := Int.eq_ofNat_of_zero_le d0
      have hj : j < z.cps.toList.length := by
        have e : z.length = z.cps.toList.length := by simp [PySem.Str.length]
        omega
      exact ⟨z, _, z.cps.toList[j], rfl, rfl, sz_of l1, atI_nat (by simp only [List.getElem?_eq_getElem hj]), q _ (List.getElem_mem hj) _ k1 S1⟩

def sp__law_mixed (K : PySem.W.Frag) : Sp := fun vs H Q _ => ∃ (s L p : Addr) (zs : List Str), vs = [.ref s, .ref p] ∧ Src H s L ∧ SqL K H p (zs.map V.str) ∧ zs.length ≤ 100 ∧ (∀ z ∈ zs, ascii z) ∧
  ∀ (r : Addr) (ys : List Str) H', H r = none → ys.Perm zs → Kp s H H' → Src H' s L → H' r = some (.lst (ys.map V.str)) → Q (.ref r) H'
theorem ok__law_mixed (T : Tx P A K mg) : FnOk P w K mg base CX0 2 A.a__law_mixed A.fd__law_mixed ["source", "items"] (sp__law_mixed K) := by
  refine T.F__law_mixed.ok sc__law_mixed (fun vs H Q E h => ?_) (fun cdv A' outer s H vs Q E hr h => ?_)
  · obtain ⟨s, L, p, zs, rfl, _⟩ := h
    rfl
  · obtain ⟨s, L, p, zs, rfl, S, hp, hn, ha, q⟩ := h
    refine ⟨_, (pss_cons (ps_par (i := 2) (j := 3) (by rfl) sc__law_mixed.nd rfl rfl (by decide) rfl rfl (pa_cons (pe_callTy call_list_of (by rfl) T.m_list bb_list (pa_cons (pv 1) pa_nil)) (pa_cons (pe_lst pa_nil) pa_nil)) (by rfl))
      (pss_cons (ps_while PassesOwn.never (pt_cmpR (op_neD hr.units) (pv 2) (pe_lst pa_nil) (nomark _))
      (pss_one (ps_expr (pe_bm PySem.F.plainAttrs_list PySem.F.slot_list_append PySem.F.type_list_append mt_append (pv 3) (pa_cons (pe_bm PySem.F.plainAttrs_list PySem.F.slot_list_pop PySem.F.type_list_pop mt_popAt (pv 2) (pa_cons (pe_call (ok__law_draw T) (hr.mono (by decide)) (by rfl) T.g__law_draw T.F__law_draw.kp T.b__law_draw .nil pass0 (pa_cons (pv 0) (pa_cons (pe_callB call_len_seq (by rfl) T.m_len bb_len (pa_cons (pv 2) pa_nil)) pa_nil))) pa_nil)) pa_nil)))))
      (pss_one (ps_ret (pv 3))))), ?_⟩
    refine ⟨_, rfl, p, _, rfl, .inl hp, fun l hl => ⟨Nat.zero_le _, fun r hr' => ⟨_, _, rfl, ?_⟩⟩⟩
    have nl := S.fresh hl
    have S1 := S.new (o := .lst (zs.map V.str)) hl
    have nr := S1.fresh hr'
    have nrl : r ≠ l := fun z => by rw [z, upd_same] at hr'; cases hr'
    have hr0 : H r = none := by rw [upd_ne nrl] at hr'; exact hr'
    refine ⟨fun m σ H' => ∃ left found : List Str, σ = [some (.ref s), some (.ref p), some (.ref l), some (.ref r)] ∧ m = left.length ∧ (left ++ found).Perm zs ∧ H' l = some (.lst (left.map V.str)) ∧ H' r = some (.lst (found.map V.str)) ∧ Kp s H H' ∧ Src H' s L, ⟨_, zs, [], rfl, rfl, by rw [List.append_nil], by rw [upd_ne nrl.symm, upd_same], upd_same, (Kp.new hl).trans (Kp.new hr'), S1.new hr'⟩, ?_⟩
    rintro m σ H1 ⟨left, found, rfl, rfl, pm, h1, h2, k1, S2⟩
    have hle : left.length + found.length = zs.length := by
      rw [← pm.length_eq, List.length_append]
    have hal : ∀ z ∈ left, ascii z := fun z hz => ha z (pm.mem_iff.mp (List.mem_append_left _ hz))
    refine ⟨_, rfl, Nat.zero_le _, fun e he => ⟨.list (left.map PyData.str), .list [], .lst (SqL.of ((Same.new he) _ _ h1)) (dp_strs _), .lst (SqL.of upd_same) .nil, shaped_strs _ hal, rfl, _, rfl, ?_⟩⟩
    cases left with
    | nil =>
      refine ifF rfl ?_
      refine ⟨_, rfl, q r found _ hr0 pm (k1.trans (Kp.new he)) (S2.new he) ?_⟩
      rw [upd_ne (ne_of_none h2 he)]
      exact h2
    | cons a left =>
      refine ifT rfl ?_
      have S3 := S2.new (o := .lst []) he
      have h1' := (Same.new (o := .lst []) he) _ _ h1
      have h2' := (Same.new (o := .lst []) he) _ _ h2
      have k1' := k1.trans (Kp.new (o := .lst []) he)
      refine ⟨_, fun _ _ h => h, ?_⟩
      refine ⟨_, rfl, .inl ⟨rfl, _, SqL.of h2'⟩, _, rfl, .inl ⟨rfl, _, SqL.of h1'⟩, _, rfl, _, rfl, l, _, rfl, .inl (SqL.of h1'), s, L, _, rfl, S3, ?_, ?_, fun d H3 d0 d1 k3 S4 => ?_⟩
      · rw [List.length_map, List.length_cons]
        omega
      · rw [List.length_map]
        refine big_of ?_
        rw [List.length_cons] at hle ⊢
        omega
      obtain ⟨j, rfl⟩ := Int.eq_ofNat_of_zero_le d0
      have hj : j < (a :: left).length := by rw [List.length_map] at d1; omega
      have h3 := k3 _ _ h1' nl.1
      have h4 := k3 _ _ h2' nr.1
      have hlen : (a :: left).length ≤ 100 := by rw [List.length_cons] at hle ⊢; omega
      refine ⟨l, _, _, j, .str (a :: left)[j], rfl, rfl, h3, by omega, by omega, ?_, ?_, ?_⟩
      · rw [List.length_map]
        exact seqIndex_nat hj
      · rw [List.getElem?_map, List.getElem?_eq_getElem hj]
        rfl
      · refine ⟨r, _, _, rfl, rfl, by rw [upd_ne nrl]; exact h4, ?_, ?_⟩
        · rw [List.length_map]
          refine sz_lt ?_
          rw [List.length_cons] at hle
          omega
        · refine ⟨((a :: left).eraseIdx j).length, ?_, (a :: left).eraseIdx j, found ++ [(a :: left)[j]], rfl, rfl, ?_, ?_, ?_, ?_, ?_⟩
          · rw [List.length_eraseIdx_of_lt hj]
            omega
          · refine List.Perm.trans ?_ pm
            refine List.Perm.trans ?_ ((erase_perm _ j hj).append_right found)
            rw [← List.append_assoc]
            exact List.perm_append_comm
          · rw [upd_ne nrl.symm, upd_same, map_erase]
          · rw [upd_same, List.map_append]
            rfl
          · exact ((k1'.trans k3).mut hl).mut hr0
          · exact (S4.mut nl).mut nr

def sp__law_stem (K : PySem.W.Frag) : Sp := fun vs H Q _ => ∃ (s L : Addr), vs = [.ref s] ∧ Src H s L ∧ ∀ (z : Str) H', z.length ≤ 5 → lets z → Kp s H H' → Src H' s L → Q (.str z) H'
theorem ok__law_stem (T : Tx P A K mg) : FnOk P w K mg base CX0 3 A.a__law_stem A.fd__law_stem ["source"] (sp__law_stem K) := by
  refine T.F__law_stem.ok sc__law_stem (fun vs H Q E h => ?_) (fun cdv A' outer s H vs Q E hr h => ?_)
  · obtain ⟨s, L, rfl, _⟩ := h
    rfl
  · obtain ⟨s, L, rfl, S, q⟩ := h
    refine ⟨_, (pss_cons (ps_set (i := 1) sc__law_stem.nd rfl (.inl rfl) pe_str)
      (pss_one (ps_ret (pe_op op_add_str (pe_op op_mulS (pe_call (ok__law_pick T) (hr.mono (by decide)) (by rfl) T.g__law_pick T.F__law_pick.kp T.b__law_pick .nil pass0 (pa_cons (pv 0) (pa_cons (pv 1) pa_nil))) (pe_call (ok__law_draw T) (hr.mono (by decide)) (by rfl) T.g__law_draw T.F__law_draw.kp T.b__law_draw .nil pass0 (pa_cons (pv 0) (pa_cons pe_int pa_nil)))) (pe_call (ok__law_pick T) (hr.mono (by decide)) (by rfl) T.g__law_pick T.F__law_pick.kp T.b__law_pick .nil pass0 (pa_cons (pv 0) (pa_cons (pe_lst (pa_cons pe_str (pa_cons pe_str (pa_cons pe_str pa_nil)))) pa_nil))))))), ?_⟩
    refine ⟨_, rfl, _, rfl, s, L, _, rfl, S, .inr ⟨LET, rfl, by decide, by decide, fun c hc H1 k1 S1 => ?_⟩⟩
    refine ⟨_, rfl, s, L, 4, rfl, S1, by decide, by decide, fun n H2 n0 n1 k2 S2 => ⟨_, _, rfl, rfl, mulOk_small n0 (by omega) (by show 1 ≤ 100; decide), ?_⟩⟩
    refine ⟨_, rfl, by show 3 ≤ sizeLine; decide, fun p hp => ?_⟩
    refine ⟨s, L, _, rfl, S2.new hp, .inl ⟨p, _, rfl, (S2.fresh hp).1, SqL.of upd_same, by decide, by decide, fun x hx H3 k3 S3 => ?_⟩⟩
    obtain ⟨x, rfl, hx1, hx2⟩ : ∃ y : Str, x = .str y ∧ y.length ≤ 2 ∧ lets y := by
      simp only [List.mem_cons, List.not_mem_nil, or_false] at hx
      rcases hx with rfl | rfl | rfl
      · exact ⟨_, rfl, by decide, fun c hc => by cases hc⟩
      · exact ⟨_, rfl, by decide, by unfold lets; decide +kernel⟩
      · exact ⟨_, rfl, by decide, by unfold lets; decide +kernel⟩
    obtain ⟨m1, m2⟩ := mul_cps ⟨#[c]⟩ n
    have m3 : (PySem.Txt.mul ⟨#[c]⟩ n).length ≤ 3 := by
      have e : (⟨#[c]⟩ : Str).length = 1 := rfl
      rw [e] at m2
      omega
    refine ⟨_, _, rfl, rfl, sz_of (by omega), ?_⟩
    refine q _ _ ?_ ?_ (((k1.trans k2).trans (Kp.new hp)).trans k3) S3
    · rw [PySem.Str.length_append]
      omega
    · intro c' hc'
      rcases app_mem hc' with h | h
      · have := m1 c' h
        have e : c' = c := by simpa using this
        rw [e]
        exact decide_eq_true hc
      · exact hx2 c' h

def sp__law_names (K : PySem.W.Frag) : Sp := fun vs H Q _ => ∃ (s L : Addr) (n : Nat), vs = [.ref s, .int n] ∧ Src H s L ∧ n ≤ 26 ∧
  ∀ (r : Addr) (ws : List Str) H', H r = none → ws.length = n → (∀ w ∈ ws, lets w ∧ 1 ≤ w.length ∧ w.length ≤ 6) → ws.Nodup → Kp s H H' → Src H' s L → H' r = some (.lst (ws.map V.str)) → Q (.ref r) H'
theorem ok__law_names (T : Tx P A K mg) : FnOk P w K mg base CX0 4 A.a__law_names A.fd__law_names ["source", "many"] (sp__law_names K) := by
  refine T.F__law_names.ok sc__law_names (fun vs H Q E h => ?_) (fun cdv A' outer s H vs Q E hr h => ?_)
  · obtain ⟨s, L, n, rfl, _⟩ := h
    rfl
  · obtain ⟨s, L, n, rfl, S, hn, q⟩ := h
    refine ⟨_, (pss_cons (ps_set (i := 2) sc__law_names.nd rfl (.inr rfl) (pe_call (ok__law_stem T) (hr.mono (by decide)) (by rfl) T.g__law_stem T.F__law_stem.kp T.b__law_stem .nil pass0 (pa_cons (pv 0) pa_nil)))
      (pss_cons (ps_set (i := 3) sc__law_names.nd rfl (.inl rfl) (pe_call (ok__law_mixed T) (hr.mono (by decide)) (by rfl) T.g__law_mixed T.F__law_mixed.kp T.b__law_mixed .nil pass0 (pa_cons (pv 0) (pa_cons (pe_callTy (call_listS (by rfl)) (by rfl) T.m_list bb_list (pa_cons pe_str pa_nil)) pa_nil))))
      (pss_one (ps_ret (pe_lc (own := [("letter", 4)]) (g := gName 4) (tt := tYes) (by rfl) sc__law_names.nd (pi_list (pe_slice sl_list (pv 3) po_none (po_some (pv 1)))) (blkOk_by (own := [("letter", 4)]) (N := N__law_names) (sc := defScope s__law_names) (by decide +kernel)) (fun _ _ _ _ _ => (pg_name (i := 4) sc__law_names.nd rfl (.inl rfl))) (fun _ _ _ _ _ => pts_nil) (fun _ _ _ _ _ => (pe_op op_add_str (pv 2) (pv 4)))))))), ?_⟩
    refine ⟨_, rfl, s, L, rfl, S, fun st H1 st5 stl k1 S1 => ?_⟩
    refine ⟨_, rfl, LET, rfl, by decide, fun l0 hl0 => ?_⟩
    have el : (LET.cps.toList.map fun c => V.str ⟨#[c]⟩) = (LET.cps.toList.map fun c => (⟨#[c]⟩ : Str)).map V.str := by rw [List.map_map]; rfl
    refine ⟨s, L, l0, _, rfl, S1.new hl0, SqL.of (by rw [upd_same, el]), by decide, ?_, fun r0 ys H2 hr0 pm k2 S2 h2 => ?_⟩
    · intro z hz
      obtain ⟨c, hc, rfl⟩ := List.mem_map.mp hz
      intro c' hc'
      have e : c' = c := by simpa using hc'
      rw [e]
      exact (by decide : ∀ c ∈ LET.cps.toList, c < 128) c hc
    have ylen : ys.length = 26 := by rw [pm.length_eq]; decide
    have yone : ∀ y ∈ ys, lets y ∧ y.length = 1 := by
      intro y hy
      obtain ⟨c, hc, rfl⟩ := List.mem_map.mp (pm.mem_iff.mp hy)
      refine ⟨fun c' hc' => ?_, rfl⟩
      have e : c' = c := by simpa using hc'
      rw [e]
      exact decide_eq_true hc
    have ynd : ys.Nodup := pm.nodup_iff.mpr (by decide +kernel)
    refine ⟨_, rfl, _, rfl, _, rfl, r0, _, rfl, SqL.of h2, fun c hc => ⟨c, rfl, ⟨_, SqL.of upd_same⟩, fun D hD => ?_⟩⟩
    have ecut : cutV (ys.map V.str) none (some (n : Int)) = (ys.take n).map V.str := by
      unfold cutV
      have e1 : HT.sIx (ys.map V.str).length (ys.map V.str).length (some (n : Int)) = min n (ys.map V.str).length := HT.sIx_nat _ _ n
      rw [HT.sIx_none, e1, List.drop_zero, Nat.sub_zero, List.length_map, ylen, Nat.min_eq_left hn, List.map_take]
    rw [ecut] at hD ⊢
    have hDc : D ≠ c := fun z => by rw [z, upd_same] at hD; cases hD
    have S3 := S2.new (o := .lst ((ys.take n).map V.str)) hc
    have nD := S3.fresh hD
    have hD0 : H2 D = none := by rw [upd_ne hDc] at hD; exact hD
    have kH2 : Kp s H H2 := (k1.trans (Kp.new hl0)).trans k2
    have tl : (ys.take n).length = n := by rw [List.length_take, ylen]; omega
    refine lc_list (K := K) (a := c) (xs := (ys.take n).map V.str) (fun i H' => H' c = some (.lst ((ys.take n).map V.str)) ∧ Kp s H H' ∧ Src H' s L ∧ H' D = some (.lst ((((ys.take n).take i).map fun y => st ++ y).map V.str))) ?_ ?_ ?_ ?_
    · exact ⟨by rw [upd_ne hDc.symm, upd_same], (kH2.trans (Kp.new hc)).trans (Kp.new hD), S3.new hD, upd_same⟩
    · rintro i H' _ ⟨h, _⟩
      exact SqL.of h
    · rintro i x H' hi ⟨hc', k', S', hd'⟩
      obtain ⟨y, hy, rfl⟩ : ∃ y, (ys.take n)[i]? = some y ∧ x = .str y := by
        rw [List.getElem?_map] at hi
        cases e : (ys.take n)[i]? with
        | none => rw [e] at hi; cases hi
        | some y => rw [e] at hi; exact ⟨y, rfl, (Option.some.inj hi).symm⟩
      have hmem : y ∈ ys := List.mem_of_mem_take (List.mem_of_getElem? hy)
      have y1 := (yone y hmem).2
      refine ⟨rfl, _, rfl, _, rfl, st, y, rfl, rfl, sz_of (by omega), _, hd', ?_, ?_, ?_, S'.mut nD, ?_⟩
      · rw [List.length_map, List.length_map, List.length_take]
        refine sz_lt (Nat.lt_of_le_of_lt (Nat.min_le_right _ _) (by omega))
      · rw [upd_ne hDc.symm]
        exact hc'
      · exact k'.mut (by
          cases e : H D with
          | none => rfl
          | some o =>
            have := kH2 D o e nD.1
            rw [hD0] at this
            cases this)
      · rw [upd_same, take_succ_of hy, List.map_append, List.map_append]
        rfl
    · rintro H' ⟨hc', k', S', hd'⟩
      rw [List.length_map, List.take_length] at hd'
      refine q D ((ys.take n).map fun y => st ++ y) H' ?_ (by rw [List.length_map, tl]) ?_ ?_ k' S' hd'
      · cases e : H D with
        | none => rfl
        | some o =>
          have := kH2 D o e nD.1
          rw [hD0] at this
          cases this
      · intro w hw
        obtain ⟨y, hy, rfl⟩ := List.mem_map.mp hw
        have hy' := yone y (List.mem_of_mem_take hy)
        refine ⟨fun c hc => ?_, ?_, ?_⟩
        · rcases app_mem hc with h | h
          · exact stl c h
          · exact hy'.1 c h
        · rw [PySem.Str.length_append, hy'.2]
          omega
        · rw [PySem.Str.length_append, hy'.2]
          omega
      · exact nodup_map (fun a b e => app_inj e) (List.Nodup.sublist (List.take_sublist _ _) ynd)

def TL (A : Ad) : List (Addr × Str) := [(A.p_law, "law.<locals>.<lambda>")]
/-- what is told of an error: its word, its value's text -/
def Told (K : PySem.W.Frag) (Q : VK) (word : Str) (d : Option Addr) (H : Hp) : Prop := ∃ (dd : Addr) (v : V) (z : Str), d = some dd ∧ H dd = some (.xd [(("value" : Str), v)]) ∧ ReprD K H v z ∧ ∀ t, H t = none → Q (.ref t) (upd H t (.tup [.str word, .str z, .bl true]))
def Eref (A : Ad) (K : PySem.W.Frag) (Q : VK) : XK := fun cls d H => (cls = .ref A.C_InvalidName ∧ Told K Q "name" d H) ∨ (cls = .ref A.C_InvalidNumber ∧ Told K Q "number" d H)
def TT__law_refused (A : Ad) (K : PySem.W.Frag) : (XK → Hp → VK → Prop) → Hp → VK → Prop := fun tl H Q => tl (Eref A K Q) H fun _ H' => Q .non H'
abbrev rRp (K : PySem.W.Frag) : List V → Hp → VK → Prop := fun xs H Q => ∃ v z, xs = [v] ∧ ReprD K H v z ∧ Q (.str z) H
def refN (A : Ad) (K : PySem.W.Frag) (a : Addr) (cls : Value) (d : Option Addr) : TS :=
  tRet (tTup (tCons (tC (.str "name")) (tCons (tCB (rRp K) (tCons (tXf a cls d A.C_InvalidName "value" (tVar 1)) tNil)) (tCons (tAndV (tCB (rIsD K A.C_InvalidName a cls d) (tCons (tVar 1) (tCons (tC (.ref A.C_WidthError)) tNil))) (tCB (rIsD K A.C_InvalidName a cls d) (tCons (tVar 1) (tCons (tC (.ty "ValueError")) tNil)))) tNil))))
def refM (A : Ad) (K : PySem.W.Frag) (a : Addr) (cls : Value) (d : Option Addr) : TS :=
  tRet (tTup (tCons (tC (.str "number")) (tCons (tCB (rRp K) (tCons (tXf a cls d A.C_InvalidNumber "value" (tVar 1)) tNil)) (tCons (tAndV (tCB (rIsD K A.C_InvalidNumber a cls d) (tCons (tVar 1) (tCons (tC (.ref A.C_WidthError)) tNil))) (tNotV (tCB (rIsD K A.C_InvalidNumber a cls d) (tCons (tVar 1) (tCons (tC (.ref A.C_InvalidRef)) tNil))))) tNil))))
theorem takes_len {X : Cx} {W : WX} (tk : Takes X W) : Takes X (fun cls d σ H => σ.length = X.N.length → W cls d σ H) := fun u s' ⟨a, B, sI, pins', σ', H', cls, d, e, J, nb, up, sky, na, os, ag, w⟩ => tk u s' ⟨a, B, sI, pins', σ', H', cls, d, e, J, nb, up, sky, na, os, ag, w J.len⟩
theorem two_slots {σ : L2.St} (h : σ.length = 2) (v : V) : (σ.set 1 (some v))[1]? = some (some v) := by
  rw [List.getElem?_set_self (by omega)]
theorem gives__law_refused {X : Cx} {cdv : Value} {q : Str} (T : Tx X.prog A X.K X.mg) (hgd : X.A.guards = some []) (hu : X.A.units + 100 < cLine) : LamX.GivesTo X N__law_refused "_law_refused" (defScope s__law_refused) A.a__law_refused cdv (defBody s__law_refused) "call" q (TT__law_refused A X.K) := by
  intro f c' s H Q tl act hc h
  refine ⟨_, pss_cons (ps_try_clauses (X := (cxOf C8.CX0 X.prog X.w X.K X.mg X.base N__law_refused "_law_refused" (defScope s__law_refused) A.a__law_refused cdv X.A X.stack s H C8.E0).nox)
      (tb := fun W D σ H => ∃ Ech : XK, (∀ cls d (σ' : L2.St) H', Ech cls d H' → σ'.length = 2 → W cls d σ' H') ∧ σ[0]? = some (some (.ref f)) ∧ H c' = some (LamX.CodeO c' q) ∧ tl Ech H (fun _ H' => D.nx σ H')) (Wout := fun _ _ _ _ => False) (l := [(.ref A.C_InvalidName, 1, refN A X.K), (.ref A.C_InvalidNumber, 1, refM A X.K)])
      rfl rfl sc__law_refused.nd LamX.takes0 (fun W pn xe tk _ => ?_)
      (.cons rfl rfl ⟨rfl, by decide, .inl T.er_InvalidName.gC⟩ (fun a oe cls d pn hz hf => pss_one (ps_ret (pe_tup (pa_cons pe_str (pa_cons (pe_callB (call_reprG hgd (by show X.A.units + 3 + 64 < cLine; omega)) (by rfl) T.m_repr bb_repr (pa_cons (pe_xf (xf_of T.er_InvalidName) T.er_InvalidName.noN hz hf (pv 1)) pa_nil))
          (pa_cons (pe_and (pe_callB (call_isD T.xc_InvalidName hz hf) (by rfl) T.m_isinstance bb_isinstance (pa_cons (pv 1) (pa_cons (pe_glob (v := .ref A.C_WidthError) (by rfl) T.g_WidthError rfl) pa_nil))) (pe_one (pe_callB (call_isD T.xc_InvalidName hz hf) (by rfl) T.m_isinstance bb_isinstance (pa_cons (pv 1) (pa_cons (pe_bltn (v := .ty "ValueError") (by rfl) T.m_ValueError bb_ValueError rfl) pa_nil))))) pa_nil))))))
        (.cons rfl rfl ⟨rfl, by decide, .inl T.er_InvalidNumber.gC⟩ (fun a oe cls d pn hz hf => pss_one (ps_ret (pe_tup (pa_cons pe_str (pa_cons (pe_callB (call_reprG hgd (by show X.A.units + 3 + 64 < cLine; omega)) (by rfl) T.m_repr bb_repr (pa_cons (pe_xf (xf_of T.er_InvalidNumber) T.er_InvalidNumber.noN hz hf (pv 1)) pa_nil))
          (pa_cons (pe_and (pe_callB (call_isD T.xc_InvalidNumber hz hf) (by rfl) T.m_isinstance bb_isinstance (pa_cons (pv 1) (pa_cons (pe_glob (v := .ref A.C_WidthError) (by rfl) T.g_WidthError rfl) pa_nil))) (pe_one (pe_not (pe_callB (call_isD T.xc_InvalidNumber hz hf) (by rfl) T.m_isinstance bb_isinstance (pa_cons (pv 1) (pa_cons (pe_glob (v := .ref A.C_InvalidRef) (by rfl) T.er_InvalidRef.gC rfl) pa_nil)))))) pa_nil)))))) .nil))) (pss_one (ps_ret pe_non)), ?_⟩
  · refine ⟨fun pins s' σ H' D I h' => ?_⟩
    obtain ⟨Ech, hW, h1, h2, h3⟩ := h'
    exact (pss_one (ps_expr (act _ pn xe Ech _ _ (takes_len tk) hW))).run pins s' σ H' D I ⟨h1, h2, h3⟩
  · refine ⟨Eref A X.K Q, fun cls d σ' H' he hlen => ?_, rfl, hc, h⟩
    rcases he with ⟨rfl, dd, v, z, rfl, hd, rz, q1⟩ | ⟨rfl, dd, v, z, rfl, hd, rz, q1⟩
    · refine ⟨true, T.er_InvalidName.te, fun _ a _ => ?_, fun z => Bool.noConfusion z⟩
      refine ⟨_, two_slots hlen _, rfl, rfl, dd, _, v, rfl, hd, by simp [List.lookup], v, z, rfl, rz, ?_⟩
      refine ⟨_, two_slots hlen _, _, _, true, dd, _, rfl, rfl, rfl, hd, .own _, T.ks_InvalidName_WidthError, _, rfl, ?_⟩
      refine ⟨_, two_slots hlen _, _, _, true, dd, _, rfl, rfl, rfl, hd, .ty _, T.ki_InvalidName_ValueError, by show 3 ≤ sizeLine; decide, fun t ht => ?_⟩
      exact q1 t ht
    · refine ⟨false, T.en_InvalidNumber_InvalidName, fun z => Bool.noConfusion z, fun _ => ⟨true, T.er_InvalidNumber.te, fun _ a _ => ?_, fun z => Bool.noConfusion z⟩⟩
      refine ⟨_, two_slots hlen _, rfl, rfl, dd, _, v, rfl, hd, by simp [List.lookup], v, z, rfl, rz, ?_⟩
      refine ⟨_, two_slots hlen _, _, _, true, dd, _, rfl, rfl, rfl, hd, .own _, T.ks_InvalidNumber_WidthError, _, rfl, ?_⟩
      refine ⟨_, two_slots hlen _, _, _, false, dd, _, rfl, rfl, rfl, hd, .own _, T.ki_InvalidNumber_InvalidRef, _, rfl, by show 3 ≤ sizeLine; decide, fun t ht => ?_⟩
      exact q1 t ht

def sp_law (A : Ad) (K : PySem.W.Frag) : Sp := fun vs H Q _ => ∃ (a : Addr) (ns : List Int), vs = [.ref a] ∧ SqL K H a (ns.map V.int) ∧ ns.length ≤ 63 ∧ LamX.Tabs (TL A) H ∧ ∀ H', Q (.bl true) H'
theorem _root_.VW.ReprD.same {H H' : Hp} {v : V} {z : Str} (e : Same H H') (h : ReprD K H v z) : ReprD K H' v z := by
  cases h with
  | sc h => exact .sc h
  | dt h h1 h2 h3 h4 => exact .dt (dp_same e _ _ h) h1 h2 h3 h4
def toldD (w z : Str) : PyData := .tuple [.str w, .str z, .bool true]
theorem toldD_shaped {w z : Str} (h0 : PyData.strOk w = true) (h : PyData.strOk z = true) : SeqAt.shaped (toldD w z) = true := by
  unfold toldD SeqAt.shaped
  simp [PyData.canLay0, PyData.canLayAll0, PyData.depth, PyData.depthAll, h, h0]
theorem toldD_eqv (w z : Str) : PyData.eqv (toldD w z) (toldD w z) = true := by simp [toldD, PyData.eqv, PyData.eqvAll]
theorem toldD_dp {H : Hp} {t : Addr} {w z : Str} (h : H t = some (.tup [.str w, .str z, .bl true])) : Dp K H (.ref t) (toldD w z) := .tup (SqT.of h) (.cons (.str _) (.cons (.str _) (.cons (.bl _) .nil)))
/-- an odd value and its text, as long as its list stays -/
def OddAt (K : PySem.W.Frag) (H : Hp) (s : Addr) (x : V) (z : Str) : Prop := (∀ H', (∃ k, Kn K H' x k) ∧ ReprD K H' x z) ∨
  ∃ l y d, x = .ref l ∧ l ≠ s ∧ H l = some (.lst [y]) ∧ (∀ H', Dp K H' y d) ∧ (PyData.list [d]).showable = true ∧ (PyData.list [d]).hasDict = false ∧ (PyData.list [d]).depth ≤ 60 ∧ (PyData.list [d]).shown.length ≤ sizeLine ∧ z = (PyData.list [d]).shown
theorem OddAt.kn {H : Hp} {s : Addr} {x : V} {z : Str} (h : OddAt K H s x z) : ∃ k, Kn K H x k := by
  rcases h with h | ⟨l, y, d, rfl, _, h, _⟩
  · exact (h H).1
  · exact ⟨_, .lst (SqL.of h)⟩
theorem OddAt.rp {H : Hp} {s : Addr} {x : V} {z : Str} (h : OddAt K H s x z) : ReprD K H x z := by
  rcases h with h | ⟨l, y, d, rfl, _, h, hd, h1, h2, h3, h4, rfl⟩
  · exact (h H).2
  · exact .dt (.lst (SqL.of h) (.cons (hd H) .nil)) h1 h2 h3 h4
theorem OddAt.same {H H' : Hp} {s : Addr} {x : V} {z : Str} (e : Same H H') (h : OddAt K H s x z) : OddAt K H' s x z := by
  rcases h with h | ⟨l, y, d, rfl, n, h, r⟩
  · exact .inl h
  · exact .inr ⟨l, y, d, rfl, n, e _ _ h, r⟩
theorem OddAt.kp {H H' : Hp} {s : Addr} {x : V} {z : Str} (e : Kp s H H') (h : OddAt K H s x z) : OddAt K H' s x z := by
  rcases h with h | ⟨l, y, d, rfl, n, h, r⟩
  · exact .inl h
  · exact .inr ⟨l, y, d, rfl, n, e _ _ h n, r⟩
theorem OddAt.extN {H H' : Hp} {s : Addr} {x : V} {z : Str} (e : LamX.ExtN H H') (h : OddAt K H s x z) : OddAt K H' s x z := by
  rcases h with h | ⟨l, y, d, rfl, n, h, r⟩
  · exact .inl h
  · exact .inr ⟨l, y, d, rfl, n, e _ _ h (by intro ps z; cases z), r⟩
theorem odd_non {H : Hp} {s : Addr} : OddAt K H s .non "None" := .inl fun _ => ⟨⟨_, .non⟩, .sc .non⟩
theorem odd_bl {H : Hp} {s : Addr} (b : Bool) : OddAt K H s (.bl b) (if b then "True" else "False") := .inl fun _ => ⟨⟨_, .bl b⟩, .sc (.bl b)⟩
theorem odd_int {H : Hp} {s : Addr} {i : Int} (h : i.natAbs.log2 < 1920) : OddAt K H s (.int i) (toString i) := .inl fun _ => ⟨⟨_, .int i⟩, .sc (.int h)⟩
theorem odd_str {H : Hp} {s : Addr} {z : Str} (h0 : z.length ≤ sizeLine) (h : (reprText z).length ≤ sizeLine) : OddAt K H s (.str z) (reprText z) := .inl fun _ => ⟨⟨_, .str h0⟩, .sc (.str h)⟩
theorem okNum : PyData.strOk "number" = true := by decide +kernel
theorem okNam : PyData.strOk "name" = true := by decide +kernel
theorem small7 : ∀ n : Nat, n < 7 → PyData.strOk (Str.ofString (toString (1 + (n : Int)))) = true := by decide +kernel
theorem mk_Ln {H : Hp} {x dx : Addr} {nm : Str} {st : Int} {Q : VK} {E : XK} (hx : H x = none) (hdx : H dx = none) (hnm : isNm nm = true) (s0 : 1 ≤ st) (s6 : st ≤ 6) (q : ∀ H', Same H H' → LineAt A H' x nm st → Q .non H') :
    sp_Line___init__ A K [.ref x, .str nm, .int st] (upd (upd H dx (.own x)) x (.ins A.C_Line dx [])) Q E := by
  have s1 : Same H (upd (upd H dx (.own x)) x (.ins A.C_Line dx [])) := fun b o e => by
    rw [upd_ne (ne_of_none e hx), upd_ne (ne_of_none e hdx)]
    exact e
  have hsz : nm.length ≤ sizeLine := by
    unfold isNm at hnm
    simp only [Bool.and_eq_true, decide_eq_true_eq] at hnm
    exact sz_of (by omega)
  refine ⟨x, dx, _, _, .str, .int, rfl, upd_same, .str hsz, .int _, fun z => ?_, fun _ z => ?_, fun nm' st' e1 e2 _ _ _ H2 k2 h2 => ?_⟩
  · have z' : isNm nm = false := z
    rw [hnm] at z'
    cases z'
  · exfalso
    have z' : (decide ((1 : Int) ≤ st) && decide (st ≤ 6)) = false := z
    rw [decide_eq_true s0, decide_eq_true s6] at z'
    cases z'
  · cases e1
    cases e2
    exact q H2 (fun b o e => k2 b o (s1 b o e) (ne_of_none e hx)) ⟨dx, h2⟩
theorem LineAt.extN {H H' : Hp} {p : Addr} {nm : Str} {st : Int} (e : LamX.ExtN H H') (h : LineAt A H p nm st) : LineAt A H' p nm st := by
  obtain ⟨dx, h⟩ := h
  exact ⟨dx, e _ _ h (by intro ps z; cases z)⟩
theorem ok_law (T : Tx P A K mg) (TB : LamX.TabB base mg A.c_law A.p_law) : FnG P w K mg base CX0 11 A.a_law A.fd_law ["script"] (sp_law A K) := by
  refine okGc T.F_law sc_law (fun vs H Q E h => ?_) (fun cdv hcd A' outer s H vs Q E hgd hr h => ?_)
  · obtain ⟨a, ns, rfl, _⟩ := h
    rfl
  · obtain ⟨a, ns, rfl, hS, hl, hT, q⟩ := h
    have hcode : cdv = .ref A.c_law := hcd.symm.trans T.cd_law
    refine ⟨_, (pss_cons (ps_set (i := 1) sc_law.nd rfl (.inl rfl) (pe_call (ok__law_begin T) (hr.mono (by decide)) (by rfl) T.g__law_begin T.F__law_begin.kp T.b__law_begin .nil pass0 (pa_cons (pv 0) pa_nil)))
      (pss_cons (ps_for PassesOwn.never rfl (pi_range1 (by rfl) T.m_range (pa_cons pe_int pa_nil)) (pg_name (i := 2) sc_law.nd rfl (.inl rfl))
      (pss_cons (ps_asg (pe_tup (pa_cons (pe_ix ix_list (pe_call (ok__law_names T) (hr.mono (by decide)) (by rfl) T.g__law_names T.F__law_names.kp T.b__law_names .nil pass0 (pa_cons (pv 1) (pa_cons pe_int pa_nil))) pe_int (fun _ _ => rfl)) (pa_cons (pe_op op_add pe_int (pe_call (ok__law_draw T) (hr.mono (by decide)) (by rfl) T.g__law_draw T.F__law_draw.kp T.b__law_draw .nil pass0 (pa_cons (pv 1) (pa_cons pe_int pa_nil)))) pa_nil))) (pg_tup (by rfl) (pgs_cons (pg_name (i := 3) sc_law.nd rfl (.inr rfl)) (pgs_cons (pg_name (i := 4) sc_law.nd rfl (.inl rfl)) pgs_nil))))
      (pss_cons (ps_set (i := 5) sc_law.nd rfl (.inr rfl) (pe_make T.M_Line (ok_Line___init__ T) (hr.mono (by decide)) (by rfl) T.g_Line T.b_Line___init__ .nil passC (pa_cons (pv 3) (pa_cons (pv 4) pa_nil))))
      (pss_cons (ps_if (PW.pt (pw_or (pt_cmpR op_ne (pe_prop (pv 5) T.cl_Line T.pr_Line_name (ok_Line_name T) (hr.mono (by decide)) T.b_Line_name .nil pass0 (by rfl)) (pv 3) (nomark _)) (pw_or (pt_cmpR op_ne (pe_prop (pv 5) T.cl_Line T.pr_Line_stride (ok_Line_stride T) (hr.mono (by decide)) T.b_Line_stride .nil pass0 (by rfl)) (pv 4) (nomark _)) (pw_or1 (pt_cmpR (op_neO T.eq_Line (ok_Line___eq__ T) (hr.mono (by decide)) T.b_Line___eq__ pass0) (pv 5) (pe_make T.M_Line (ok_Line___init__ T) (hr.mono (by decide)) (by rfl) T.g_Line T.b_Line___init__ .nil passC (pa_cons (pv 3) (pa_cons (pv 4) pa_nil))) (nomark _)))))) (pss_one (ps_ret pe_bl)) pss_nil)
      (pss_cons (ps_if (PW.pt (pw_or (pt_cmpR (op_eqO T.eq_Line (ok_Line___eq__ T) (hr.mono (by decide)) T.b_Line___eq__ pass0) (pv 5) (pv 3) (nomark _)) (pw_or1 (pt_cmpR op_ne (pe_prop (pe_make T.M_Line (ok_Line___init__ T) (hr.mono (by decide)) (by rfl) T.g_Line T.bd_Line___init__.choose_spec.2 T.bd_Line___init__.choose_spec.1 passC (pa_cons (pv 3) pa_nil)) T.cl_Line T.pr_Line_stride (ok_Line_stride T) (hr.mono (by decide)) T.b_Line_stride .nil pass0 (by rfl)) pe_int (nomark _))))) (pss_one (ps_ret pe_bl)) pss_nil)
      (pss_cons (ps_asg (pe_tup (pa_cons (pe_op op_sub (pe_call (ok__law_draw T) (hr.mono (by decide)) (by rfl) T.g__law_draw T.F__law_draw.kp T.b__law_draw .nil pass0 (pa_cons (pv 1) (pa_cons pe_int pa_nil))) pe_int) (pa_cons (pe_call (ok__law_draw T) (hr.mono (by decide)) (by rfl) T.g__law_draw T.F__law_draw.kp T.b__law_draw .nil pass0 (pa_cons (pv 1) (pa_cons (pe_ix ix_list (pe_lst (pa_cons pe_int (pa_cons pe_int (pa_cons (pe_op op_pow pe_int pe_int) pa_nil)))) (pe_call (ok__law_draw T) (hr.mono (by decide)) (by rfl) T.g__law_draw T.F__law_draw.kp T.b__law_draw .nil pass0 (pa_cons (pv 1) (pa_cons pe_int pa_nil))) (fun _ _ => rfl)) pa_nil))) pa_nil))) (pg_tup (by rfl) (pgs_cons (pg_name (i := 6) sc_law.nd rfl (.inr rfl)) (pgs_cons (pg_name (i := 7) sc_law.nd rfl (.inl rfl)) pgs_nil))))
      (pss_cons (ps_if (pt_cmpR (op_neD hr.units) (pe_meth (pv 5) T.cl_Line T.me_Line_cell (ok_Line_cell T) (hr.mono (by decide)) T.b_Line_cell .nil passC (pa_cons (pv 6) (pa_cons (pv 7) pa_nil))) (pe_tup (pa_cons (pv 3) (pa_cons (pe_op op_add (pe_op op_mul (pv 4) (pv 7)) (pv 6)) pa_nil))) (nomark _)) (pss_one (ps_ret pe_bl)) pss_nil)
      (pss_cons (ps_set (i := 8) sc_law.nd rfl (.inr rfl) (pe_op op_add pe_int (pe_call (ok__law_draw T) (hr.mono (by decide)) (by rfl) T.g__law_draw T.F__law_draw.kp T.b__law_draw .nil pass0 (pa_cons (pv 1) (pa_cons pe_int pa_nil)))))
      (C8.pss_cut (ps_if (pt_cmpR op_le (pe_op op_mul (pv 4) (pv 8)) pe_int (nomark _)) (pss_one (ps_if (PW.pt (pw_or (pt_cmpR (op_neO T.eq_Line (ok_Line___eq__ T) (hr.mono (by decide)) T.b_Line___eq__ pass0) (pe_op (op_binI T.bin_Line___mul__ (ok_Line___mul__ T) (hr.mono (by decide)) T.b_Line___mul__ passC) (pv 5) (pv 8)) (pe_make T.M_Line (ok_Line___init__ T) (hr.mono (by decide)) (by rfl) T.g_Line T.b_Line___init__ .nil passC (pa_cons (pv 3) (pa_cons (pe_op op_mul (pv 4) (pv 8)) pa_nil))) (nomark _)) (pw_or1 (pt_cmpR op_ne (pe_prop (pv 5) T.cl_Line T.pr_Line_stride (ok_Line_stride T) (hr.mono (by decide)) T.b_Line_stride .nil pass0 (by rfl)) (pv 4) (nomark _))))) (pss_one (ps_ret pe_bl)) pss_nil)) (pss_one (ps_if (pt_cmpR (op_neD hr.units) (pe_lamF (T := TL A) (TT := TT__law_refused A K) (k := 8) T.F__law_refused (by rfl) T.g__law_refused T.b__law_refused sc__law_refused rfl (.inl rfl) (fun _ => gives__law_refused T hgd (hu_big hr)) TB hcode (List.mem_singleton.mpr rfl) (fun p hp _ => by cases List.mem_singleton.mp hp; rfl) (hr.mono (by decide)) (LamX.lamS_by (sc := defScope s_law) (by decide +kernel)) rfl (fun _ _ _ _ _ => rfl) (fun _ _ _ _ E _ _ hr => (pe_op (op_binI T.bin_Line___mul__ (ok_Line___mul__ T) (hr.mono (by decide)) T.b_Line___mul__ VW.passL) (pv 5) (pv 8)))) (pe_tup (pa_cons pe_str (pa_cons (pe_callB (call_reprG hgd hr.units) (by rfl) T.m_repr bb_repr (pa_cons (pv 8) pa_nil)) (pa_cons pe_bl pa_nil)))) (nomark _)) (pss_one (ps_ret pe_bl)) pss_nil)))
      (pss_cons (ps_if (PW.pt (pw_or (pt_cmpR (op_eqO T.eq_Line (ok_Line___eq__ T) (hr.mono (by decide)) T.b_Line___eq__ pass0) (pv 5) (pe_make T.M_Line (ok_Line___init__ T) (hr.mono (by decide)) (by rfl) T.g_Line T.b_Line___init__ .nil passC (pa_cons (pv 3) (pa_cons (pe_op op_add pe_int (pe_op op_mod (pv 4) pe_int)) pa_nil))) (nomark _)) (pw_or1 (pt_cmpR (op_eqO T.eq_Line (ok_Line___eq__ T) (hr.mono (by decide)) T.b_Line___eq__ pass0) (pv 5) (pe_make T.M_Line (ok_Line___init__ T) (hr.mono (by decide)) (by rfl) T.g_Line T.b_Line___init__ .nil passC (pa_cons (pe_op op_add_str (pv 3) pe_str) (pa_cons (pv 4) pa_nil))) (nomark _))))) (pss_one (ps_ret pe_bl)) pss_nil)
      (pss_cons (ps_set (i := 9) sc_law.nd rfl (.inr rfl) (pe_call (ok__law_pick T) (hr.mono (by decide)) (by rfl) T.g__law_pick T.F__law_pick.kp T.b__law_pick .nil pass0 (pa_cons (pv 1) (pa_cons (pe_lst (pa_cons pe_non (pa_cons pe_str (pa_cons pe_str (pa_cons pe_int (pa_cons pe_str (pa_cons (pe_lst (pa_cons pe_str pa_nil)) pa_nil))))))) pa_nil))))
      (pss_cons (ps_set (i := 10) sc_law.nd rfl (.inr rfl) (pe_call (ok__law_pick T) (hr.mono (by decide)) (by rfl) T.g__law_pick T.F__law_pick.kp T.b__law_pick .nil pass0 (pa_cons (pv 1) (pa_cons (pe_lst (pa_cons pe_int (pa_cons pe_int (pa_cons pe_bl (pa_cons pe_non (pa_cons pe_str (pa_cons (pe_un un_neg pe_int) (pa_cons (pe_lst (pa_cons pe_int pa_nil)) pa_nil)))))))) pa_nil))))
      (pss_cons (ps_if (pt_cmpR (op_neD hr.units) (pe_lamF (T := TL A) (TT := TT__law_refused A K) (k := 8) T.F__law_refused (by rfl) T.g__law_refused T.b__law_refused sc__law_refused rfl (.inl rfl) (fun _ => gives__law_refused T hgd (hu_big hr)) TB hcode (List.mem_singleton.mpr rfl) (fun p hp _ => by cases List.mem_singleton.mp hp; rfl) (hr.mono (by decide)) (LamX.lamS_by (sc := defScope s_law) (by decide +kernel)) rfl (fun _ _ _ _ _ => rfl) (fun _ _ _ _ E _ _ hr => (pe_make T.M_Line (ok_Line___init__ T) (hr.mono (by decide)) (by rfl) T.g_Line T.b_Line___init__ .nil VW.passL (pa_cons (pv 9) (pa_cons (pv 10) pa_nil))))) (pe_tup (pa_cons pe_str (pa_cons (pe_callB (call_reprG hgd hr.units) (by rfl) T.m_repr bb_repr (pa_cons (pv 9) pa_nil)) (pa_cons pe_bl pa_nil)))) (nomark _)) (pss_one (ps_ret pe_bl)) pss_nil)
      (pss_cons (ps_if (pt_cmpR (op_neD hr.units) (pe_lamF (T := TL A) (TT := TT__law_refused A K) (k := 8) T.F__law_refused (by rfl) T.g__law_refused T.b__law_refused sc__law_refused rfl (.inl rfl) (fun _ => gives__law_refused T hgd (hu_big hr)) TB hcode (List.mem_singleton.mpr rfl) (fun p hp _ => by cases List.mem_singleton.mp hp; rfl) (hr.mono (by decide)) (LamX.lamS_by (sc := defScope s_law) (by decide +kernel)) rfl (fun _ _ _ _ _ => rfl) (fun _ _ _ _ E _ _ hr => (pe_make T.M_Line (ok_Line___init__ T) (hr.mono (by decide)) (by rfl) T.g_Line T.b_Line___init__ .nil VW.passL (pa_cons (pv 3) (pa_cons (pv 10) pa_nil))))) (pe_tup (pa_cons pe_str (pa_cons (pe_callB (call_reprG hgd hr.units) (by rfl) T.m_repr bb_repr (pa_cons (pv 10) pa_nil)) (pa_cons pe_bl pa_nil)))) (nomark _)) (pss_one (ps_ret pe_bl)) pss_nil)
      (pss_cons (ps_set (i := 11) sc_law.nd rfl (.inr rfl) (pe_call (ok__law_pick T) (hr.mono (by decide)) (by rfl) T.g__law_pick T.F__law_pick.kp T.b__law_pick .nil pass0 (pa_cons (pv 1) (pa_cons (pe_lst (pa_cons pe_int (pa_cons (pe_un un_neg pe_int) (pa_cons pe_bl (pa_cons pe_non (pa_cons pe_str pa_nil)))))) pa_nil))))
      (pss_cons (ps_set (i := 12) sc_law.nd rfl (.inr rfl) (pe_call (ok__law_pick T) (hr.mono (by decide)) (by rfl) T.g__law_pick T.F__law_pick.kp T.b__law_pick .nil pass0 (pa_cons (pv 1) (pa_cons (pe_lst (pa_cons (pe_un un_neg pe_int) (pa_cons pe_bl (pa_cons pe_non (pa_cons pe_str pa_nil))))) pa_nil))))
      (pss_cons (ps_if (pt_cmpR (op_neD hr.units) (pe_lamF (T := TL A) (TT := TT__law_refused A K) (k := 8) T.F__law_refused (by rfl) T.g__law_refused T.b__law_refused sc__law_refused rfl (.inl rfl) (fun _ => gives__law_refused T hgd (hu_big hr)) TB hcode (List.mem_singleton.mpr rfl) (fun p hp _ => by cases List.mem_singleton.mp hp; rfl) (hr.mono (by decide)) (LamX.lamS_by (sc := defScope s_law) (by decide +kernel)) rfl (fun _ _ _ _ _ => rfl) (fun _ _ _ _ E _ _ hr => (pe_meth (pv 5) T.cl_Line T.me_Line_cell (ok_Line_cell T) (hr.mono (by decide)) T.b_Line_cell .nil VW.passL (pa_cons (pv 11) (pa_cons (pv 12) pa_nil))))) (pe_tup (pa_cons pe_str (pa_cons (pe_callB (call_reprG hgd hr.units) (by rfl) T.m_repr bb_repr (pa_cons (pv 11) pa_nil)) (pa_cons pe_bl pa_nil)))) (nomark _)) (pss_one (ps_ret pe_bl)) pss_nil)
      (pss_cons (ps_if (pt_cmpR (op_neD hr.units) (pe_lamF (T := TL A) (TT := TT__law_refused A K) (k := 8) T.F__law_refused (by rfl) T.g__law_refused T.b__law_refused sc__law_refused rfl (.inl rfl) (fun _ => gives__law_refused T hgd (hu_big hr)) TB hcode (List.mem_singleton.mpr rfl) (fun p hp _ => by cases List.mem_singleton.mp hp; rfl) (hr.mono (by decide)) (LamX.lamS_by (sc := defScope s_law) (by decide +kernel)) rfl (fun _ _ _ _ _ => rfl) (fun _ _ _ _ E _ _ hr => (pe_meth (pv 5) T.cl_Line T.me_Line_cell (ok_Line_cell T) (hr.mono (by decide)) T.b_Line_cell .nil VW.passL (pa_cons (pv 6) (pa_cons (pv 12) pa_nil))))) (pe_tup (pa_cons pe_str (pa_cons (pe_callB (call_reprG hgd hr.units) (by rfl) T.m_repr bb_repr (pa_cons (pv 12) pa_nil)) (pa_cons pe_bl pa_nil)))) (nomark _)) (pss_one (ps_ret pe_bl)) pss_nil)
      (pss_cons (ps_if (pt_cmpR (op_neD hr.units) (pe_lamF (T := TL A) (TT := TT__law_refused A K) (k := 8) T.F__law_refused (by rfl) T.g__law_refused T.b__law_refused sc__law_refused rfl (.inl rfl) (fun _ => gives__law_refused T hgd (hu_big hr)) TB hcode (List.mem_singleton.mpr rfl) (fun p hp _ => by cases List.mem_singleton.mp hp; rfl) (hr.mono (by decide)) (LamX.lamS_by (sc := defScope s_law) (by decide +kernel)) rfl (fun _ _ _ _ _ => rfl) (fun _ _ _ _ E _ _ hr => (pe_op (op_binI T.bin_Line___mul__ (ok_Line___mul__ T) (hr.mono (by decide)) T.b_Line___mul__ VW.passL) (pv 5) pe_int))) (pe_tup (pa_cons pe_str (pa_cons pe_str (pa_cons pe_bl pa_nil)))) (nomark _)) (pss_one (ps_ret pe_bl)) pss_nil)
      (pss_one (ps_if (pt_cmpR (op_neD hr.units) (pe_lamF (T := TL A) (TT := TT__law_refused A K) (k := 8) T.F__law_refused (by rfl) T.g__law_refused T.b__law_refused sc__law_refused rfl (.inl rfl) (fun _ => gives__law_refused T hgd (hu_big hr)) TB hcode (List.mem_singleton.mpr rfl) (fun p hp _ => by cases List.mem_singleton.mp hp; rfl) (hr.mono (by decide)) (LamX.lamS_by (sc := defScope s_law) (by decide +kernel)) rfl (fun _ _ _ _ _ => rfl) (fun _ _ _ _ E _ _ hr => (pe_op (op_binB T.binB_Line___mul__ (ok_Line___mul__ T) (hr.mono (by decide)) T.b_Line___mul__ VW.passL) (pv 5) pe_bl))) (pe_tup (pa_cons pe_str (pa_cons pe_str (pa_cons pe_bl pa_nil)))) (nomark _)) (pss_one (ps_ret pe_bl)) pss_nil)))))))))))))))))))))
      (pss_one (ps_ret pe_bl)))), ?_⟩
    refine ⟨_, rfl, a, ns, rfl, hS, hl, fun s L H1 hs s1 S1 => ?_⟩
    refine ⟨6, rfl, by decide, by decide, for_range (lo := 0) (n := 6) (fun i σ H' => (∃ v2 v3 v4 v5 v6 v7 v8 v9 v10 v11 v12, σ = [some (.ref a), some (.ref s), v2, v3, v4, v5, v6, v7, v8, v9, v10, v11, v12]) ∧ Src H' s L ∧ LamX.Tabs (TL A) H') ⟨⟨_, _, _, _, _, _, _, _, _, _, _, rfl⟩, S1, tabs_same s1 hT⟩ ?_ ?_⟩
    · rintro i σ H1 hi ⟨⟨v2, v3, v4, v5, v6, v7, v8, v9, v10, v11, v12, rfl⟩, S1, T1⟩
      refine ⟨_, rfl, s, L, 1, rfl, S1, by decide, fun r ws H2 hr0 wl wp wnd k2 S2 h2 => ?_⟩
      obtain ⟨wd, rfl⟩ : ∃ w, ws = [w] := List.length_eq_one_iff.mp wl
      obtain ⟨nl, n1, n6⟩ := wp wd (List.mem_singleton.mpr rfl)
      have hnm : isNm wd = true := isNm_of nl n1 (by omega)
      have asc := lets_ascii nl
      refine ⟨r, _, 0, _, rfl, rfl, SqL.of h2, rfl, _, rfl, s, L, 6, rfl, S2, by decide, by decide, fun d H3 d0 d1 k3 S3 => ⟨_, _, rfl, rfl, by show 2 ≤ sizeLine; decide, fun tp htp => ⟨tp, _, rfl, SqT.of upd_same, rfl, _, _, rfl, _, _, rfl, rfl, ?_⟩⟩⟩
      have S4 := S3.new (o := .tup [V.str wd, .int (1 + d)]) htp
      have T4 := tabs_same (Same.new (o := .tup [V.str wd, .int (1 + d)]) htp) (tabs_kp k3 S2 (tabs_kp k2 S1 T1))
      obtain ⟨st, est⟩ : ∃ st, 1 + d = st := ⟨_, rfl⟩
      have s0 : 1 ≤ st := by omega
      have s6 : st ≤ 6 := by omega
      generalize upd H3 tp (.tup [V.str wd, .int (1 + d)]) = H4 at S4 T4
      show (fun (x : Int) => tSeq _ _ _ [some (V.ref a), some (.ref s), some (.int (0 + (i : Int))), some (.str wd), some (.int x), v5, v6, v7, v8, v9, v10, v11, v12] H4) (1 + d)
      rw [est]
      clear est d0 d1
      show tSeq _ _ _ [some (V.ref a), some (.ref s), some (.int (0 + (i : Int))), some (.str wd), some (.int st), v5, v6, v7, v8, v9, v10, v11, v12] H4
      -- line
      refine ⟨_, rfl, _, rfl, ?_⟩
      intro ln dx hx hdx ne
      refine mk_Ln hx hdx hnm s0 s6 fun H5 s5 L5 => ⟨rfl, ?_⟩
      have S5 := S4.same s5
      have T5 := tabs_same s5 T4
      obtain ⟨dx5, l5⟩ := id L5
      -- line.name != word or line.stride != step or line != Line(word, step)
      refine ⟨_, rfl, ln, dx5, _, rfl, l5, ln, wd, st, rfl, L5, _, rfl, rfl, _, rfl, ?_⟩
      refine ifF (by rw [decide_eq_true rfl]; rfl) ?_
      refine ⟨_, rfl, ln, dx5, _, rfl, l5, ln, wd, st, rfl, L5, _, rfl, rfl, _, rfl, ?_⟩
      refine ifF (by rw [decide_eq_true rfl]; rfl) ?_
      refine ⟨_, rfl, _, rfl, _, rfl, ?_⟩
      intro x1 dy1 hx1 hdx1 ne1
      refine mk_Ln hx1 hdx1 hnm s0 s6 fun H6 s6' L6 => ⟨rfl, ?_⟩
      have M6 := L5.same s6'
      obtain ⟨dx6, l6⟩ := id M6
      obtain ⟨dy6, m6⟩ := id L6
      refine ⟨ln, dx6, _, rfl, l6, .inl ⟨x1, dy6, _, rfl, m6⟩, ln, wd, st, _, rfl, M6, .inl ⟨x1, wd, st, rfl, L6, _, rfl, _, rfl, ?_⟩⟩
      refine ifF (by simp) ?_
      -- line == word or Line(word).stride != 1
      have S6 := S5.same s6'
      have T6 := tabs_same s6' T5
      refine ⟨_, rfl, _, rfl, ln, dx6, _, rfl, l6, .inr ⟨_, .base (.str _), T.nft_Line_str⟩, ln, wd, st, _, rfl, M6, .inr ⟨wd, rfl, _, rfl, ?_⟩⟩
      refine ifF rfl ?_
      refine ⟨_, rfl, ?_⟩
      intro x2 dy2 hx2 hdx2 ne2
      refine mk_Ln hx2 hdx2 hnm (by decide) (by decide) fun H7 s7 L7 => ⟨rfl, ?_⟩
      obtain ⟨dy7, m7⟩ := id L7
      refine ⟨x2, dy7, _, rfl, m7, x2, wd, 1, rfl, L7, rfl, _, rfl, ?_⟩
      refine ifF (by rw [decide_eq_true rfl]; rfl) ?_
      have S7 := S6.same s7
      have T7 := tabs_same s7 T6
      have M7 := M6.same s7
      clear m7 dy7 L7 l6 m6 dx6 dy6 L6 l5 dx5
      -- by, at
      refine ⟨_, rfl, s, L, 19, rfl, S7, by decide, by decide, fun b' H8 b0 b1 k8 S8 => ⟨_, _, rfl, rfl, ?_⟩⟩
      refine ⟨_, rfl, _, _, rfl, rfl, ⟨by decide, by decide, by decide⟩, by show 3 ≤ sizeLine; decide, fun l0 hl0 => ?_⟩
      have S8' := S8.new (o := .lst [V.int 4, .int 100, .int (10 ^ (30 : Int).toNat)]) hl0
      refine ⟨_, rfl, s, L, 3, rfl, S8', by decide, by decide, fun d3 H9 e0 e1 k9 S9 => ?_⟩
      have hl9 := k9 _ _ (upd_same (H := H8) (a := l0) (o := .lst [V.int 4, .int 100, .int (10 ^ (30 : Int).toNat)])) (S8.fresh hl0).1
      obtain ⟨lim, hlim, lm0, lm1⟩ : ∃ lim : Int, atI [V.int 4, .int 100, .int (10 ^ (30 : Int).toNat)] d3 = some (.int lim) ∧ 0 < lim ∧ lim < 2 ^ 200 := by
        have hd : d3 = 0 ∨ d3 = 1 ∨ d3 = 2 := by omega
        rcases hd with rfl | rfl | rfl
        · exact ⟨4, rfl, by decide, by decide⟩
        · exact ⟨100, rfl, by decide, by decide⟩
        · exact ⟨10 ^ (30 : Int).toNat, rfl, by decide, by decide⟩
      refine ⟨l0, _, d3, _, rfl, rfl, SqL.of hl9, hlim, s, L, lim, rfl, S9, lm0, lm1, fun at0 H10 a0 a1 k10 S10 => ⟨by show 2 ≤ sizeLine; decide, fun tq htq => ⟨tq, _, rfl, SqT.of upd_same, rfl, _, _, rfl, _, _, rfl, rfl, ?_⟩⟩⟩
      have sN := Same.new (o := .lst [V.int 4, .int 100, .int (10 ^ (30 : Int).toNat)]) hl0
      have sQ := Same.new (o := .tup [V.int (b' - 9), .int at0]) htq
      have S11 := S10.same sQ
      have T11 := tabs_same sQ (tabs_kp k10 S9 (tabs_kp k9 S8' (tabs_same sN (tabs_kp k8 S7 T7))))
      have M11 := ((((M7.kp k8 S7).same sN).kp k9 S8').kp k10 S9).same sQ
      obtain ⟨b, eb⟩ : ∃ b, b' - 9 = b := ⟨_, rfl⟩
      have bb0 : -9 ≤ b := by omega
      have bb9 : b ≤ 9 := by omega
      generalize upd H10 tq (.tup [V.int (b' - 9), .int at0]) = H11 at S11 T11 M11
      show (fun (x : Int) => tSeq _ _ _ [some (V.ref a), some (.ref s), some (.int (0 + (i : Int))), some (.str wd), some (.int st), some (.ref ln), some (.int x), some (.int at0), v8, v9, v10, v11, v12] H11) (b' - 9)
      rw [eb]
      clear eb b0 b1 sQ sN hl9 hlim
      show tSeq _ _ _ [some (V.ref a), some (.ref s), some (.int (0 + (i : Int))), some (.str wd), some (.int st), some (.ref ln), some (.int b), some (.int at0), v8, v9, v10, v11, v12] H11
      have hsz : wd.length ≤ sizeLine := sz_of (by omega)
      have noc : ∀ n st', (lf n st').lookup ("cell" : Str) = none := fun n st' => by first | rfl | kernel_rfl
      have bo : ∀ x : Int, -9 ≤ x → x ≤ 9 → btw (.int x) (-9) 9 = true := fun x h0 h1 => by
        show (decide ((-9 : Int) ≤ x) && decide (x ≤ 9)) = true
        rw [decide_eq_true h0, decide_eq_true h1]
        rfl
      -- line.cell(by, at) != (word, step * at + by)
      obtain ⟨dx11, l11⟩ := id M11
      refine ⟨_, rfl, ln, dx11, _, rfl, l11, noc _ _, _, rfl, _, rfl, ln, wd, st, _, _, .int, .int, rfl, M11, s0, s6, .int _, .int _, fun z => (by rw [bo b bb0 bb9] at z; cases z), fun _ z => ?_, fun o i' e1 e2 _ _ t H12 ht s12 h12 => ?_⟩
      · exfalso
        exact of_decide_eq_false (show decide ((0 : Int) ≤ at0) = false from z) a0
      cases e1
      cases e2
      refine ⟨_, rfl, _, rfl, _, rfl, _, _, rfl, rfl, .inl ⟨by omega, by omega⟩, _, rfl, _, _, rfl, rfl, by show 2 ≤ sizeLine; decide, fun t2 ht2 => ?_⟩
      have s13 := Same.new (o := .tup [V.str wd, .int (st * at0 + b)]) ht2
      refine ⟨cellD wd (st * at0 + b), cellD wd (st * at0 + b), .tup (SqT.of (s13 _ _ h12)) (.cons (.str _) (.cons (.int _) .nil)), .tup (SqT.of upd_same) (.cons (.str _) (.cons (.int _) .nil)), cellD_shaped asc _, cellD_shaped asc _, _, rfl, ?_⟩
      rw [cellD_eqv]
      refine ifF (by rw [decide_eq_true rfl]; rfl) ?_
      have S13 := (S11.same s12).same s13
      have T13 := tabs_same s13 (tabs_same s12 T11)
      have M13 := (M11.same s12).same s13
      -- k
      refine ⟨_, rfl, s, L, 7, rfl, S13, by decide, by decide, fun dk H14 f0 f1 k14 S14 => ⟨_, _, rfl, rfl, ?_⟩⟩
      have T14 := tabs_kp k14 S13 T13
      have M14 := M13.kp k14 S13
      have hk7 : PyData.strOk (Str.ofString (toString (1 + dk))) = true := by
        obtain ⟨n, rfl⟩ := Int.eq_ofNat_of_zero_le f0
        exact small7 n (by omega)
      obtain ⟨kk, ek⟩ : ∃ kk, 1 + dk = kk := ⟨_, rfl⟩
      have k1 : 1 ≤ kk := by omega
      have k7 : kk ≤ 7 := by omega
      show (fun (x : Int) => tSeq _ _ _ [some (V.ref a), some (.ref s), some (.int (0 + (i : Int))), some (.str wd), some (.int st), some (.ref ln), some (.int b), some (.int at0), some (.int x), v9, v10, v11, v12] H14) (1 + dk)
      rw [ek] at hk7 ⊢
      clear ek f0 f1 s13 s12 h12 l11
      show tSeq _ _ _ [some (V.ref a), some (.ref s), some (.int (0 + (i : Int))), some (.str wd), some (.int st), some (.ref ln), some (.int b), some (.int at0), some (.int kk), v9, v10, v11, v12] H14
      have hlog : kk.natAbs.log2 < 1920 := by
        have h : kk.natAbs < 2 ^ 10 := by omega
        exact Nat.lt_of_lt_of_le (PySem.Flt.log2_lt_of (by decide) h) (by decide)
      have st42 : st * kk ≤ 42 := by
        have := Int.mul_le_mul s6 k7 (by omega) (by decide)
        omega
      have stpos : 1 ≤ st * kk := by
        have h1 : 0 < st * kk := Int.mul_pos (by omega) (by omega)
        omega
      refine ⟨fun σ H' => σ = [some (V.ref a), some (.ref s), some (.int (0 + (i : Int))), some (.str wd), some (.int st), some (.ref ln), some (.int b), some (.int at0), some (.int kk), v9, v10, v11, v12] ∧ Src H' s L ∧ LamX.Tabs (TL A) H' ∧ LineAt A H' ln wd st, ?_, ?_⟩
      · refine ⟨_, rfl, _, rfl, _, _, rfl, rfl, .inl ⟨by omega, by omega⟩, _, _, rfl, rfl, _, rfl, ?_⟩
        obtain ⟨dx14, l14⟩ := id M14
        by_cases c : st * kk ≤ 6
        · refine ifT (decide_eq_true c) ?_
          have mo : mulOk st (.int kk) = true := by
            show (decide ((1 : Int) ≤ kk) && decide (st * kk ≤ 6)) = true
            rw [decide_eq_true k1, decide_eq_true c]
            rfl
          refine ⟨_, rfl, _, rfl, ln, dx14, _, kk, rfl, rfl, l14, ln, wd, st, .int kk, .int, rfl, M14, hnm, hsz, s0, s6, .int _, fun z => (by rw [mo] at z; cases z), fun i2 e2 _ tw H15 ht15 s15 L15 => ?_⟩
          cases e2
          refine ⟨_, rfl, _, rfl, _, rfl, _, _, rfl, rfl, .inl ⟨by omega, by omega⟩, ?_⟩
          intro x3 dy3 hx3 hdx3 ne3
          refine mk_Ln hx3 hdx3 hnm stpos c fun H16 s16 L16 => ⟨rfl, ?_⟩
          have L15' := L15.same s16
          have M16 := (M14.same s15).same s16
          obtain ⟨dx16, l16⟩ := id L15'
          obtain ⟨dy16, m16⟩ := id L16
          obtain ⟨dz16, n16⟩ := id M16
          refine ⟨tw, dx16, _, rfl, l16, .inl ⟨x3, dy16, _, rfl, m16⟩, tw, wd, st * kk, _, rfl, L15', .inl ⟨x3, wd, st * kk, rfl, L16, _, rfl, _, rfl, ?_⟩⟩
          refine ifF (by simp) ?_
          refine ⟨_, rfl, ln, dz16, _, rfl, n16, ln, wd, st, rfl, M16, _, rfl, rfl, _, rfl, ?_⟩
          exact ifF (by rw [decide_eq_true rfl]; rfl) ⟨rfl, (S14.same s15).same s16, tabs_same s16 (tabs_same s15 T14), M16⟩
        · refine ifF (decide_eq_false c) ?_
          have mo : mulOk st (.int kk) = false := by
            show (decide ((1 : Int) ≤ kk) && decide (st * kk ≤ 6)) = false
            rw [decide_eq_false c, Bool.and_false]
          refine ⟨T14, fun H15 eN T15 => ?_⟩
          have M15 := LineAt.extN eN M14
          have S15 := src_extN eN S14
          obtain ⟨dx15, l15⟩ := id M15
          refine ⟨_, rfl, _, rfl, ln, dx15, _, kk, rfl, rfl, l15, ln, wd, st, .int kk, .int, rfl, M15, hnm, hsz, s0, s6, .int _, fun _ => ?_, fun i2 e2 z => (by cases e2; rw [mo] at z; cases z)⟩
          intro d H16 s16 nd hd
          refine .inr ⟨rfl, d, _, _, rfl, hd, .sc (.int hlog), fun t ht => ?_⟩
          refine ⟨_, rfl, _, _, rfl, .sc (.int hlog), by show 3 ≤ sizeLine; decide, fun t2 ht2 => ?_⟩
          have sT := s16.trans (Same.new (o := .tup [V.str "number", .str (Str.ofString (toString kk)), .bl true]) ht)
          have sU := Same.new (o := .tup [V.str "number", .str (Str.ofString (toString kk)), .bl true]) ht2
          refine ⟨toldD "number" (Str.ofString (toString kk)), toldD "number" (Str.ofString (toString kk)), toldD_dp (sU _ _ upd_same), toldD_dp upd_same, toldD_shaped okNum hk7, toldD_shaped okNum hk7, _, rfl, ?_⟩
          rw [toldD_eqv]
          have sV := sT.trans sU
          exact ifF rfl ⟨rfl, S15.same sV, tabs_same sV T15, M15.same sV⟩
      · rintro σ H15 ⟨rfl, S15, T15, M15⟩
        -- line == Line(word, 1 + step % 6) or line == Line(word + 'q', step)
        have m0 : 0 ≤ st % 6 := Int.emod_nonneg _ (by decide)
        have m5 : st % 6 < 6 := Int.emod_lt_of_pos _ (by decide)
        have mne : st ≠ 1 + st % 6 := by omega
        refine ⟨_, rfl, _, rfl, _, rfl, _, _, rfl, rfl, by show (0 : Int) < 6; decide, _, _, rfl, rfl, ?_⟩
        intro x4 dy4 hx4 hdx4 ne4
        refine mk_Ln hx4 hdx4 hnm (by omega) (by omega) fun H16 s16 L16 => ⟨rfl, ?_⟩
        have M16 := M15.same s16
        obtain ⟨dx16, l16⟩ := id M16
        obtain ⟨dy16, m16⟩ := id L16
        refine ⟨ln, dx16, _, rfl, l16, .inl ⟨x4, dy16, _, rfl, m16⟩, ln, wd, st, _, rfl, M16, .inl ⟨x4, wd, 1 + st % 6, rfl, L16, _, rfl, ?_⟩⟩
        refine ifF (by rw [decide_eq_false mne, Bool.and_false]) ?_
        have hq : isNm (wd ++ "q") = true := isNm_of (fun c hc => by
          rcases app_mem hc with h | h
          · exact nl c h
          · have hqq : ("q" : Str).cps.toList = [113] := by decide +kernel
            rw [hqq] at h
            cases List.mem_singleton.mp h
            decide) (by rw [PySem.Str.length_append]; omega) (by
          rw [PySem.Str.length_append]
          have : ("q" : Str).length = 1 := by decide
          omega)
        have hqne : wd ≠ wd ++ "q" := fun z => by
          have := congrArg PySem.Str.length z
          rw [PySem.Str.length_append] at this
          have h1 : ("q" : Str).length = 1 := by decide
          omega
        refine ⟨_, rfl, _, rfl, _, _, rfl, rfl, by show wd.length + 1 ≤ sizeLine; exact sz_of (by omega), _, rfl, ?_⟩
        intro x5 dy5 hx5 hdx5 ne5
        refine mk_Ln hx5 hdx5 hq s0 s6 fun H17 s17 L17 => ⟨rfl, ?_⟩
        have M17 := M16.same s17
        obtain ⟨dx17, l17⟩ := id M17
        obtain ⟨dy17, m17⟩ := id L17
        refine ⟨ln, dx17, _, rfl, l17, .inl ⟨x5, dy17, _, rfl, m17⟩, ln, wd, st, _, rfl, M17, .inl ⟨x5, wd ++ "q", st, rfl, L17, _, rfl, ?_⟩⟩
        refine ifF (by rw [decide_eq_false hqne, Bool.false_and]) ?_
        have S17 := (S15.same s16).same s17
        have T17 := tabs_same s17 (tabs_same s16 T15)
        clear l16 l17 m16 m17 dx16 dx17 dy16 dy17 L16 L17 s16 s17 M16
        -- odd
        refine ⟨_, rfl, by show 1 ≤ sizeLine; decide, fun l1 hl1 => ⟨by show 6 ≤ sizeLine; decide, fun l2 hl2 => ?_⟩⟩
        have S18 := S17.new (o := .lst [V.str "a"]) hl1
        have sA := (Same.new (o := .lst [V.str "a"]) hl1).trans (Same.new (o := .lst [V.non, .str "", .str "A", .int 3, .str "abcdefghi", .ref l1]) hl2)
        have S19 := S18.new (o := .lst [V.non, .str "", .str "A", .int 3, .str "abcdefghi", .ref l1]) hl2
        have hl1' := (Same.new (o := .lst [V.non, .str "", .str "A", .int 3, .str "abcdefghi", .ref l1]) hl2) _ _ (upd_same (H := H17) (a := l1) (o := .lst [V.str "a"]))
        refine ⟨s, L, _, rfl, S19, .inl ⟨l2, _, rfl, (S18.fresh hl2).1, SqL.of upd_same, by show 0 < 6; decide, by show 6 ≤ 100000; decide, fun od hod H20 k20 S20 => ?_⟩⟩
        have hl20 := k20 _ _ hl1' (S17.fresh hl1).1
        obtain ⟨zo, oO, nO, okO⟩ : ∃ z : Str, OddAt K H20 s od z ∧ nmV od = false ∧ PyData.strOk z = true := by
          simp only [List.mem_cons, List.not_mem_nil, or_false] at hod
          rcases hod with rfl | rfl | rfl | rfl | rfl | rfl
          · exact ⟨_, odd_non, rfl, by decide +kernel⟩
          · exact ⟨_, odd_str (by decide) (by decide +kernel), by decide +kernel, by decide +kernel⟩
          · exact ⟨_, odd_str (by decide) (by decide +kernel), by decide +kernel, by decide +kernel⟩
          · exact ⟨_, odd_int (by decide), rfl, by decide +kernel⟩
          · exact ⟨_, odd_str (by decide) (by decide +kernel), by decide +kernel, by decide +kernel⟩
          · exact ⟨_, .inr ⟨l1, .str "a", .str "a", rfl, (S17.fresh hl1).1, hl20, fun _ => .str _, by decide +kernel, by decide +kernel, by decide +kernel, by decide +kernel, rfl⟩, rfl, by decide +kernel⟩
        have M20 := (M17.same sA).kp k20 S19
        have T20 := tabs_kp k20 S19 (tabs_same sA T17)
        clear hl20 hl1' sA hod S19 S18
        -- bad
        refine ⟨_, rfl, 1, rfl, by show 1 ≤ sizeLine; decide, fun l3 hl3 => ⟨by show 7 ≤ sizeLine; decide, fun l4 hl4 => ?_⟩⟩
        have S21 := S20.new (o := .lst [V.int 1]) hl3
        have sB := (Same.new (o := .lst [V.int 1]) hl3).trans (Same.new (o := .lst [V.int 0, .int 7, .bl true, .non, .str "1", .int (-1), .ref l3]) hl4)
        have S22 := S21.new (o := .lst [V.int 0, .int 7, .bl true, .non, .str "1", .int (-1), .ref l3]) hl4
        have hl3' := (Same.new (o := .lst [V.int 0, .int 7, .bl true, .non, .str "1", .int (-1), .ref l3]) hl4) _ _ (upd_same (H := H20) (a := l3) (o := .lst [V.int 1]))
        refine ⟨s, L, _, rfl, S22, .inl ⟨l4, _, rfl, (S21.fresh hl4).1, SqL.of upd_same, by show 0 < 7; decide, by show 7 ≤ 100000; decide, fun bd hbd H23 k23 S23 => ?_⟩⟩
        have hl23 := k23 _ _ hl3' (S20.fresh hl3).1
        obtain ⟨zb, oB, nB, okB⟩ : ∃ z : Str, OddAt K H23 s bd z ∧ btw bd 1 6 = false ∧ PyData.strOk z = true := by
          simp only [List.mem_cons, List.not_mem_nil, or_false] at hbd
          rcases hbd with rfl | rfl | rfl | rfl | rfl | rfl | rfl
          · exact ⟨_, odd_int (by decide), by decide, by decide +kernel⟩
          · exact ⟨_, odd_int (by decide), by decide, by decide +kernel⟩
          · exact ⟨_, odd_bl _, rfl, by decide +kernel⟩
          · exact ⟨_, odd_non, rfl, by decide +kernel⟩
          · exact ⟨_, odd_str (by decide) (by decide +kernel), rfl, by decide +kernel⟩
          · exact ⟨_, odd_int (by decide), by decide, by decide +kernel⟩
          · exact ⟨_, .inr ⟨l3, .int 1, .int 1, rfl, (S20.fresh hl3).1, hl23, fun _ => .int _, by decide +kernel, by decide +kernel, by decide +kernel, by decide +kernel, rfl⟩, rfl, by decide +kernel⟩
        have M23 := (M20.same sB).kp k23 S22
        have T23 := tabs_kp k23 S22 (tabs_same sB T20)
        have oO3 := (oO.same sB).kp k23
        clear hl23 hl3' sB hbd S22 S21 oO
        -- refused(lambda: Line(odd, bad))
        refine ⟨T23, fun G23 eN U23 => ?_⟩
        have N23 := LineAt.extN eN M23
        have V23 := src_extN eN S23
        have oO_24 := oO3.extN eN
        have oB_24 := oB.extN eN
        refine ⟨_, rfl, _, rfl, ?_⟩
        intro x23 dy23 hx23 hdx23 ne23
        have sM : Same G23 (upd (upd G23 dy23 (.own x23)) x23 (.ins A.C_Line dy23 [])) := fun b o e => by
          rw [upd_ne (ne_of_none e hx23), upd_ne (ne_of_none e hdx23)]
          exact e
        obtain ⟨ko, hko⟩ := (oO_24.same sM).kn
        obtain ⟨kb, hkb⟩ := (oB_24.same sM).kn
        refine ⟨x23, dy23, od, bd, ko, kb, rfl, upd_same, hko, hkb, fun _ => ?_, fun z => (by rw [nO] at z; cases z), fun nm' st' e1 _ hn => (by subst e1; exact absurd (hn.symm.trans nO) (by decide))⟩
        intro dd Hd sd nd hd
        have sR := sM.trans sd
        refine .inl ⟨rfl, dd, _, _, rfl, hd, (oO_24.same sR).rp, fun t ht => ?_⟩
        have sT := sR.trans (Same.new (o := .tup [V.str "name", .str zo, .bl true]) ht)
        refine ⟨_, rfl, _, _, rfl, (oO_24.same sT).rp, by show 3 ≤ sizeLine; decide, fun t2 ht2 => ?_⟩
        have sU := Same.new (o := .tup [V.str "name", .str zo, .bl true]) ht2
        refine ⟨toldD "name" zo, toldD "name" zo, toldD_dp (sU _ _ upd_same), toldD_dp upd_same, toldD_shaped okNam okO, toldD_shaped okNam okO, _, rfl, ?_⟩
        rw [toldD_eqv]
        refine ifF rfl ?_
        have sV := sT.trans sU
        have S24 := V23.same sV
        have T24 := tabs_same sV U23
        have M24 := N23.same sV
        have oO4 := oO_24.same sV
        have oB4 := oB_24.same sV
        -- refused(lambda: Line(word, bad))
        refine ⟨T24, fun G24 eN U24 => ?_⟩
        have N24 := LineAt.extN eN M24
        have V24 := src_extN eN S24
        have oB_25 := oB4.extN eN
        refine ⟨_, rfl, _, rfl, ?_⟩
        intro x24 dy24 hx24 hdx24 ne24
        have sM : Same G24 (upd (upd G24 dy24 (.own x24)) x24 (.ins A.C_Line dy24 [])) := fun b o e => by
          rw [upd_ne (ne_of_none e hx24), upd_ne (ne_of_none e hdx24)]
          exact e
        obtain ⟨kb, hkb⟩ := (oB_25.same sM).kn
        refine ⟨x24, dy24, .str wd, bd, .str, kb, rfl, upd_same, .str hsz, hkb, fun z => (by exact absurd (hnm.symm.trans z) (by decide)), fun _ _ => ?_, fun nm' st' _ e2 _ z0 z6 => (by
          subst e2
          have z' : (decide ((1 : Int) ≤ st') && decide (st' ≤ 6)) = false := nB
          rw [decide_eq_true z0, decide_eq_true z6] at z'
          cases z')⟩
        intro dd Hd sd nd hd
        have sR := sM.trans sd
        refine .inr ⟨rfl, dd, _, _, rfl, hd, (oB_25.same sR).rp, fun t ht => ?_⟩
        have sT := sR.trans (Same.new (o := .tup [V.str "number", .str zb, .bl true]) ht)
        refine ⟨_, rfl, _, _, rfl, (oB_25.same sT).rp, by show 3 ≤ sizeLine; decide, fun t2 ht2 => ?_⟩
        have sU := Same.new (o := .tup [V.str "number", .str zb, .bl true]) ht2
        refine ⟨toldD "number" zb, toldD "number" zb, toldD_dp (sU _ _ upd_same), toldD_dp upd_same, toldD_shaped okNum okB, toldD_shaped okNum okB, _, rfl, ?_⟩
        rw [toldD_eqv]
        refine ifF rfl ?_
        have sV := sT.trans sU
        have S25 := V24.same sV
        have T25 := tabs_same sV U24
        have M25 := N24.same sV
        have oB5 := oB_25.same sV
        clear oO4 oB5 oO3 oB oB4
        -- far, none
        refine ⟨_, rfl, 10, rfl, by show 5 ≤ sizeLine; decide, fun l5 hl5 => ?_⟩
        have S25' := S25.new (o := .lst [V.int 10, .int (-10), .bl true, .non, .str "0"]) hl5
        refine ⟨s, L, _, rfl, S25', .inl ⟨l5, _, rfl, (S25.fresh hl5).1, SqL.of upd_same, by show 0 < 5; decide, by show 5 ≤ 100000; decide, fun fr hfr H26 k26 S26 => ?_⟩⟩
        obtain ⟨zf, oF, nF, okF⟩ : ∃ z : Str, (∀ H, OddAt K H s fr z) ∧ btw fr (-9) 9 = false ∧ PyData.strOk z = true := by
          simp only [List.mem_cons, List.not_mem_nil, or_false] at hfr
          rcases hfr with rfl | rfl | rfl | rfl | rfl
          · exact ⟨_, fun _ => odd_int (by decide), by decide, by decide +kernel⟩
          · exact ⟨_, fun _ => odd_int (by decide), by decide, by decide +kernel⟩
          · exact ⟨_, fun _ => odd_bl _, rfl, by decide +kernel⟩
          · exact ⟨_, fun _ => odd_non, rfl, by decide +kernel⟩
          · exact ⟨_, fun _ => odd_str (by decide) (by decide +kernel), rfl, by decide +kernel⟩
        have sC := Same.new (o := .lst [V.int 10, .int (-10), .bl true, .non, .str "0"]) hl5
        have M26 := (M25.same sC).kp k26 S25'
        have T26 := tabs_kp k26 S25' (tabs_same sC T25)
        refine ⟨_, rfl, 1, rfl, by show 4 ≤ sizeLine; decide, fun l6 hl6 => ?_⟩
        have S26' := S26.new (o := .lst [V.int (-1), .bl true, .non, .str "0"]) hl6
        refine ⟨s, L, _, rfl, S26', .inl ⟨l6, _, rfl, (S26.fresh hl6).1, SqL.of upd_same, by show 0 < 4; decide, by show 4 ≤ 100000; decide, fun nn hnn H27 k27 S27 => ?_⟩⟩
        obtain ⟨zn, oN, nN, okN⟩ : ∃ z : Str, (∀ H, OddAt K H s nn z) ∧ cntV nn = false ∧ PyData.strOk z = true := by
          simp only [List.mem_cons, List.not_mem_nil, or_false] at hnn
          rcases hnn with rfl | rfl | rfl | rfl
          · exact ⟨_, fun _ => odd_int (by decide), by decide, by decide +kernel⟩
          · exact ⟨_, fun _ => odd_bl _, rfl, by decide +kernel⟩
          · exact ⟨_, fun _ => odd_non, rfl, by decide +kernel⟩
          · exact ⟨_, fun _ => odd_str (by decide) (by decide +kernel), rfl, by decide +kernel⟩
        have sE := Same.new (o := .lst [V.int (-1), .bl true, .non, .str "0"]) hl6
        have M27 := (M26.same sE).kp k27 S26'
        have T27 := tabs_kp k27 S26' (tabs_same sE T26)
        -- refused(lambda: line.cell(far, none))
        refine ⟨T27, fun G27 eN U27 => ?_⟩
        have N27 := LineAt.extN eN M27
        have V27 := src_extN eN S27
        obtain ⟨dxc, lc⟩ := id N27
        obtain ⟨kf, hkf⟩ := (oF G27).kn
        obtain ⟨kn, hkn⟩ := (oN G27).kn
        have sM := Same.refl G27
        refine ⟨_, rfl, ln, dxc, _, rfl, lc, noc _ _, _, rfl, _, rfl, ln, wd, st, fr, nn, kf, kn, rfl, N27, s0, s6, hkf, hkn, fun _ => ?_, fun z => (by rw [nF] at z; cases z), fun o' i' _ _ z => (by rw [nF] at z; cases z)⟩
        intro dd Hd sd nd hd
        have sR := sM.trans sd
        refine .inr ⟨rfl, dd, _, _, rfl, hd, (oF _).rp, fun t ht => ?_⟩
        have sT := sR.trans (Same.new (o := .tup [V.str "number", .str zf, .bl true]) ht)
        refine ⟨_, rfl, _, _, rfl, (oF _).rp, by show 3 ≤ sizeLine; decide, fun t2 ht2 => ?_⟩
        have sU := Same.new (o := .tup [V.str "number", .str zf, .bl true]) ht2
        refine ⟨toldD "number" zf, toldD "number" zf, toldD_dp (sU _ _ upd_same), toldD_dp upd_same, toldD_shaped okNum okF, toldD_shaped okNum okF, _, rfl, ?_⟩
        rw [toldD_eqv]
        refine ifF rfl ?_
        have sV := sT.trans sU
        have S28 := V27.same sV
        have T28 := tabs_same sV U27
        have M28 := N27.same sV
        -- refused(lambda: line.cell(by, none))
        refine ⟨T28, fun G28 eN U28 => ?_⟩
        have N28 := LineAt.extN eN M28
        have V28 := src_extN eN S28
        obtain ⟨dxc, lc⟩ := id N28
        obtain ⟨kn, hkn⟩ := (oN G28).kn
        have sM := Same.refl G28
        refine ⟨_, rfl, ln, dxc, _, rfl, lc, noc _ _, _, rfl, _, rfl, ln, wd, st, .int b, nn, .int, kn, rfl, N28, s0, s6, .int _, hkn, fun z => (by rw [bo b bb0 bb9] at z; cases z), fun _ _ => ?_, fun o' i' _ e2 _ z0 => (by
          subst e2
          have z' : decide ((0 : Int) ≤ i') = false := nN
          rw [decide_eq_true z0] at z'
          cases z')⟩
        intro dd Hd sd nd hd
        have sR := sM.trans sd
        refine .inr ⟨rfl, dd, _, _, rfl, hd, (oN _).rp, fun t ht => ?_⟩
        have sT := sR.trans (Same.new (o := .tup [V.str "number", .str zn, .bl true]) ht)
        refine ⟨_, rfl, _, _, rfl, (oN _).rp, by show 3 ≤ sizeLine; decide, fun t2 ht2 => ?_⟩
        have sU := Same.new (o := .tup [V.str "number", .str zn, .bl true]) ht2
        refine ⟨toldD "number" zn, toldD "number" zn, toldD_dp (sU _ _ upd_same), toldD_dp upd_same, toldD_shaped okNum okN, toldD_shaped okNum okN, _, rfl, ?_⟩
        rw [toldD_eqv]
        refine ifF rfl ?_
        have sV := sT.trans sU
        have S29 := V28.same sV
        have T29 := tabs_same sV U28
        have M29 := N28.same sV
        -- refused(lambda: line * 0)
        refine ⟨T29, fun G29 eN U29 => ?_⟩
        have N29 := LineAt.extN eN M29
        have V29 := src_extN eN S29
        obtain ⟨dxc, lc⟩ := id N29
        have sM := Same.refl G29
        refine ⟨_, rfl, ln, dxc, _, 0, rfl, rfl, lc, ln, wd, st, .int 0, .int, rfl, N29, hnm, hsz, s0, s6, .int _, fun _ => ?_, fun i2 e2 z => (by cases e2; cases z)⟩
        intro dd Hd sd nd hd
        have sR := sM.trans sd
        refine .inr ⟨rfl, dd, _, _, rfl, hd, (odd_int (K := K) (s := s) (i := 0) (by decide)).rp, fun t ht => ?_⟩
        have sT := sR.trans (Same.new (o := .tup [V.str "number", .str "0", .bl true]) ht)
        refine ⟨by show 3 ≤ sizeLine; decide, fun t2 ht2 => ?_⟩
        have sU := Same.new (o := .tup [V.str "number", .str "0", .bl true]) ht2
        refine ⟨toldD "number" "0", toldD "number" "0", toldD_dp (sU _ _ upd_same), toldD_dp upd_same, toldD_shaped okNum (by decide +kernel), toldD_shaped okNum (by decide +kernel), _, rfl, ?_⟩
        rw [toldD_eqv]
        refine ifF rfl ?_
        have sV := sT.trans sU
        have S30 := V29.same sV
        have T30 := tabs_same sV U29
        have M30 := N29.same sV
        -- refused(lambda: line * True)
        refine ⟨T30, fun G30 eN U30 => ?_⟩
        have N30 := LineAt.extN eN M30
        have V30 := src_extN eN S30
        obtain ⟨dxc, lc⟩ := id N30
        have sM := Same.refl G30
        refine ⟨_, rfl, ln, dxc, _, true, rfl, rfl, lc, ln, wd, st, .bl true, .bl, rfl, N30, hnm, hsz, s0, s6, .bl _, fun _ => ?_, fun i2 e2 => (by cases e2)⟩
        intro dd Hd sd nd hd
        have sR := sM.trans sd
        refine .inr ⟨rfl, dd, _, _, rfl, hd, (odd_bl (K := K) (s := s) true).rp, fun t ht => ?_⟩
        have sT := sR.trans (Same.new (o := .tup [V.str "number", .str "True", .bl true]) ht)
        refine ⟨by show 3 ≤ sizeLine; decide, fun t2 ht2 => ?_⟩
        have sU := Same.new (o := .tup [V.str "number", .str "True", .bl true]) ht2
        refine ⟨toldD "number" "True", toldD "number" "True", toldD_dp (sU _ _ upd_same), toldD_dp upd_same, toldD_shaped okNum (by decide +kernel), toldD_shaped okNum (by decide +kernel), _, rfl, ?_⟩
        rw [toldD_eqv]
        refine ifF rfl ?_
        have sV := sT.trans sU
        have S31 := V30.same sV
        have T31 := tabs_same sV U30
        have M31 := N30.same sV
        exact ⟨⟨_, _, _, _, _, _, _, _, _, _, _, rfl⟩, S31, T31⟩
    · rintro σ H1 ⟨⟨v2, v3, v4, v5, v6, v7, v8, v9, v10, v11, v12, rfl⟩, S1, T1⟩
      exact q H1

end
theorem all_mk {w : World} {K : PySem.W.Frag} {h : Heap} {mg : Str → Option Value} {fa : Addr} (X : K.In h) (G : h.Ns mainGlobals mg) (hfa : mg "law" = some (.ref fa))
    (own : LamX.OwnTab K fa h)
    {C_InvalidNumber i_InvalidNumber N_InvalidNumber cda_InvalidNumber cc_InvalidNumber : Addr} {nm_InvalidNumber q_InvalidNumber qu_InvalidNumber ms_InvalidNumber fl_InvalidNumber : Str} {bs_InvalidNumber bm_InvalidNumber sub_InvalidNumber : List Value} {sn_InvalidNumber : List Str} {ab_InvalidNumber : Bool} {col_InvalidNumber : Option Bool} {dd_InvalidNumber od_InvalidNumber an_InvalidNumber e1_InvalidNumber e2_InvalidNumber : Option Addr} {m0_InvalidNumber m1_InvalidNumber m2_InvalidNumber m3_InvalidNumber m5_InvalidNumber : Option Value} {oc_InvalidNumber dc_InvalidNumber pm_InvalidNumber ct_InvalidNumber f1_InvalidNumber f2_InvalidNumber : Value} {sl_InvalidNumber s1_InvalidNumber s2_InvalidNumber : Array (Option Value)} {vs_InvalidNumber : Array Value} {tf_InvalidNumber : Tok} {p1_InvalidNumber p2_InvalidNumber q1_InvalidNumber q2_InvalidNumber q3_InvalidNumber q4_InvalidNumber q5_InvalidNumber q6_InvalidNumber q7_InvalidNumber q8_InvalidNumber q9_InvalidNumber q10_InvalidNumber : Pos}
    {C_InvalidName i_InvalidName N_InvalidName cda_InvalidName cc_InvalidName : Addr} {nm_InvalidName q_InvalidName qu_InvalidName ms_InvalidName fl_InvalidName : Str} {bs_InvalidName bm_InvalidName sub_InvalidName : List Value} {sn_InvalidName : List Str} {ab_InvalidName : Bool} {col_InvalidName : Option Bool} {dd_InvalidName od_InvalidName an_InvalidName e1_InvalidName e2_InvalidName : Option Addr} {m0_InvalidName m1_InvalidName m2_InvalidName m3_InvalidName m5_InvalidName : Option Value} {oc_InvalidName dc_InvalidName pm_InvalidName ct_InvalidName f1_InvalidName f2_InvalidName : Value} {sl_InvalidName s1_InvalidName s2_InvalidName : Array (Option Value)} {vs_InvalidName : Array Value} {tf_InvalidName : Tok} {p1_InvalidName p2_InvalidName q1_InvalidName q2_InvalidName q3_InvalidName q4_InvalidName q5_InvalidName q6_InvalidName q7_InvalidName q8_InvalidName q9_InvalidName q10_InvalidName : Pos}
    {C_InvalidRef i_InvalidRef N_InvalidRef cda_InvalidRef cc_InvalidRef : Addr} {nm_InvalidRef q_InvalidRef qu_InvalidRef ms_InvalidRef fl_InvalidRef : Str} {bs_InvalidRef bm_InvalidRef sub_InvalidRef : List Value} {sn_InvalidRef : List Str} {ab_InvalidRef : Bool} {col_InvalidRef : Option Bool} {dd_InvalidRef od_InvalidRef an_InvalidRef e1_InvalidRef e2_InvalidRef : Option Addr} {m0_InvalidRef m1_InvalidRef m2_InvalidRef m3_InvalidRef m5_InvalidRef : Option Value} {oc_InvalidRef dc_InvalidRef pm_InvalidRef ct_InvalidRef f1_InvalidRef f2_InvalidRef : Value} {sl_InvalidRef s1_InvalidRef s2_InvalidRef : Array (Option Value)} {vs_InvalidRef : Array Value} {tf_InvalidRef : Tok} {p1_InvalidRef p2_InvalidRef q1_InvalidRef q2_InvalidRef q3_InvalidRef q4_InvalidRef q5_InvalidRef q6_InvalidRef q7_InvalidRef q8_InvalidRef q9_InvalidRef q10_InvalidRef : Pos}
    {C_WidthError : Addr}
    {C_Line : Addr}
    {fB_Line___mul__ rB_Line___mul__ : Option Value}
    {fo_Line___mul__ ro_Line___mul__ : Option Value}
    {f_is_integer : Addr} {od_is_integer an_is_integer : Option Addr} {sl_is_integer : Array (Option Value)} {oc_is_integer kV_is_integer dc_is_integer pm_is_integer cd_is_integer ct_is_integer : Value}
    {f_is_between : Addr} {od_is_between an_is_between : Option Addr} {sl_is_between : Array (Option Value)} {oc_is_between kV_is_between dc_is_between pm_is_between cd_is_between ct_is_between : Value}
    {f_is_count : Addr} {od_is_count an_is_count : Option Addr} {sl_is_count : Array (Option Value)} {oc_is_count kV_is_count dc_is_count pm_is_count cd_is_count ct_is_count : Value}
    {f_is_name : Addr} {od_is_name an_is_name : Option Addr} {sl_is_name : Array (Option Value)} {oc_is_name kV_is_name dc_is_name pm_is_name cd_is_name ct_is_name : Value}
    {f_is_offset : Addr} {od_is_offset an_is_offset : Option Addr} {sl_is_offset : Array (Option Value)} {oc_is_offset kV_is_offset dc_is_offset pm_is_offset cd_is_offset ct_is_offset : Value}
    {f_Line___init__ : Addr} {od_Line___init__ an_Line___init__ : Option Addr} {sl_Line___init__ : Array (Option Value)} {oc_Line___init__ kV_Line___init__ dc_Line___init__ pm_Line___init__ cd_Line___init__ ct_Line___init__ : Value}
    {T_Line___init__ : Addr} {do_Line___init__ : Obj} {dn_Line___init__ : Nat}
    {dt0_Line___init__ : Tok}
    {f_Line_name : Addr} {od_Line_name an_Line_name : Option Addr} {sl_Line_name : Array (Option Value)} {oc_Line_name kV_Line_name dc_Line_name pm_Line_name cd_Line_name ct_Line_name : Value}
    {p_Line_name : Addr} {rs_Line_name : List Value}
    {f_Line_stride : Addr} {od_Line_stride an_Line_stride : Option Addr} {sl_Line_stride : Array (Option Value)} {oc_Line_stride kV_Line_stride dc_Line_stride pm_Line_stride cd_Line_stride ct_Line_stride : Value}
    {p_Line_stride : Addr} {rs_Line_stride : List Value}
    {f_Line___eq__ : Addr} {od_Line___eq__ an_Line___eq__ : Option Addr} {sl_Line___eq__ : Array (Option Value)} {oc_Line___eq__ kV_Line___eq__ dc_Line___eq__ pm_Line___eq__ cd_Line___eq__ ct_Line___eq__ : Value}
    {f_Line___mul__ : Addr} {od_Line___mul__ an_Line___mul__ : Option Addr} {sl_Line___mul__ : Array (Option Value)} {oc_Line___mul__ kV_Line___mul__ dc_Line___mul__ pm_Line___mul__ cd_Line___mul__ ct_Line___mul__ : Value}
    {f_Line_cell : Addr} {od_Line_cell an_Line_cell : Option Addr} {sl_Line_cell : Array (Option Value)} {oc_Line_cell kV_Line_cell dc_Line_cell pm_Line_cell cd_Line_cell ct_Line_cell : Value}
    {f__law_begin : Addr} {od__law_begin an__law_begin : Option Addr} {sl__law_begin : Array (Option Value)} {oc__law_begin kV__law_begin dc__law_begin pm__law_begin cd__law_begin ct__law_begin : Value}
    {f__law_draw : Addr} {od__law_draw an__law_draw : Option Addr} {sl__law_draw : Array (Option Value)} {oc__law_draw kV__law_draw dc__law_draw pm__law_draw cd__law_draw ct__law_draw : Value}
    {f__law_pick : Addr} {od__law_pick an__law_pick : Option Addr} {sl__law_pick : Array (Option Value)} {oc__law_pick kV__law_pick dc__law_pick pm__law_pick cd__law_pick ct__law_pick : Value}
    {f__law_mixed : Addr} {od__law_mixed an__law_mixed : Option Addr} {sl__law_mixed : Array (Option Value)} {oc__law_mixed kV__law_mixed dc__law_mixed pm__law_mixed cd__law_mixed ct__law_mixed : Value}
    {f__law_stem : Addr} {od__law_stem an__law_stem : Option Addr} {sl__law_stem : Array (Option Value)} {oc__law_stem kV__law_stem dc__law_stem pm__law_stem cd__law_stem ct__law_stem : Value}
    {f__law_names : Addr} {od__law_names an__law_names : Option Addr} {sl__law_names : Array (Option Value)} {oc__law_names kV__law_names dc__law_names pm__law_names cd__law_names ct__law_names : Value}
    {f__law_refused : Addr} {od__law_refused an__law_refused : Option Addr} {sl__law_refused : Array (Option Value)} {oc__law_refused kV__law_refused dc__law_refused pm__law_refused cd__law_refused ct__law_refused : Value}
    {f_law : Addr} {od_law an_law : Option Addr} {sl_law : Array (Option Value)} {oc_law kV_law dc_law pm_law ct_law : Value} {c_law P_law : Addr} {lce : Value} {lcd : Option Addr} {lcv : Array Value} {lcs : Array (Option Value)} {lcf : Str} {lct1 lct2 lct3 : Tok} {lcg lcx : Int} {lcb : Bool}
    {t_LETTERS : Tok}
    {t_MOST_LETTERS : Tok}
    {t_MOST_STRIDE : Tok}
    {t_MOST_OFFSET : Tok}
    (opq0 : PySem.W.nsIn K cStatics "thirdparty.any" = some none)
    (sup0 : PySem.W.nsIn K mainGlobals "super" = some none)
    (nsup0 : (PRG.main.scope.names.lookup ("super" : Str)).isSome = false)
    (aC_InvalidNumber : PySem.W.nsIn K mainGlobals "InvalidNumber" = some (some (.ref C_InvalidNumber)))
    (xL_InvalidNumber : K.lookup C_InvalidNumber = some (excClassObj nm_InvalidNumber q_InvalidNumber C_InvalidNumber N_InvalidNumber bs_InvalidNumber bm_InvalidNumber true sn_InvalidNumber sub_InvalidNumber ab_InvalidNumber col_InvalidNumber dd_InvalidNumber m0_InvalidNumber m1_InvalidNumber m2_InvalidNumber m3_InvalidNumber m5_InvalidNumber "ValueError.__new__"))
    (rf_InvalidNumber : PySem.HandSPX.refsVE bm_InvalidNumber = true)
    (sa_InvalidNumber : PySem.W.findIn K (.ref C_InvalidNumber) "__setattr__" = some (some (.builtin "object.__setattr__")))
    (ga_InvalidNumber : PySem.W.findIn K (.ref C_InvalidNumber) "__getattribute__" = some (some (.builtin "BaseException.__getattribute__")))
    (gg_InvalidNumber : PySem.W.findIn K (.ref C_InvalidNumber) "__getattr__" = some none)
    (nb_InvalidNumber : PySem.W.findIn K (.ref C_InvalidNumber) "value" = some none)
    (ai_InvalidNumber : PySem.W.findIn K (.ref C_InvalidNumber) "__init__" = some (some (.ref i_InvalidNumber)))
    (ti_InvalidNumber : PySem.W.typeIn K (.ref i_InvalidNumber) = some (.type "function"))
    (li_InvalidNumber : K.lookup i_InvalidNumber = some ⟨oc_InvalidNumber, od_InvalidNumber, .func (PySem.W.ksFn "__init__" qu_InvalidNumber (PySem.ErX.iA "value" p1_InvalidNumber p2_InvalidNumber) (PySem.ErX.iB "value" ms_InvalidNumber q1_InvalidNumber q2_InvalidNumber q3_InvalidNumber q4_InvalidNumber q5_InvalidNumber q6_InvalidNumber q7_InvalidNumber q8_InvalidNumber q9_InvalidNumber q10_InvalidNumber) (PySem.ErX.iS "value") .none .none dc_InvalidNumber pm_InvalidNumber an_InvalidNumber (.ref cda_InvalidNumber) ct_InvalidNumber cc_InvalidNumber), sl_InvalidNumber⟩)
    (ci_InvalidNumber : PySem.W.codeIn K (.ref cda_InvalidNumber) qu_InvalidNumber = true)
    (ld_InvalidNumber : K.lookup cda_InvalidNumber = some ⟨f1_InvalidNumber, e1_InvalidNumber, .fields vs_InvalidNumber, s1_InvalidNumber⟩)
    (vs2_InvalidNumber : vs_InvalidNumber[2]? = some (.str fl_InvalidNumber tf_InvalidNumber))
    (hf_InvalidNumber : ((PRG.main.file : Str) == fl_InvalidNumber) = true)
    (lc_InvalidNumber : K.lookup cc_InvalidNumber = some ⟨f2_InvalidNumber, e2_InvalidNumber, .cell (some (.ref C_InvalidNumber)), s2_InvalidNumber⟩)
    (ev_InvalidNumber : PySem.ErX.SupEv ms_InvalidNumber q1_InvalidNumber q2_InvalidNumber q3_InvalidNumber q4_InvalidNumber q5_InvalidNumber)
    (kC_InvalidNumber : PySem.W.keepIn K (.ref C_InvalidNumber) = true)
    (eC_InvalidNumber : PySem.W.subIn K (.ref C_InvalidNumber) (.type "BaseException") = some true)
    (vC_InvalidNumber : PySem.W.subIn K (.ref C_InvalidNumber) (.type "ValueError") = some true)
    (tC_InvalidNumber : PySem.W.typeIn K (.ref C_InvalidNumber) = some (.type "type"))
    (hC_InvalidNumber : PySem.W.hasDictIn K C_InvalidNumber = true)
    (iC_InvalidNumber : PySem.W.isClsIn K C_InvalidNumber = true)
    (sC_InvalidNumber : PySem.W.subIn K (.ref C_InvalidNumber) (.ref C_InvalidNumber) = some true)
    (me_InvalidNumber : PySem.W.mroIn K C_InvalidNumber (.ref C_InvalidNumber) = some true)
    (al_InvalidNumber : PySem.W.ks_superIn K C_InvalidNumber C_InvalidNumber "__init__" = some (some (.builtin "ValueError.__init__")))
    (aC_InvalidName : PySem.W.nsIn K mainGlobals "InvalidName" = some (some (.ref C_InvalidName)))
    (xL_InvalidName : K.lookup C_InvalidName = some (excClassObj nm_InvalidName q_InvalidName C_InvalidName N_InvalidName bs_InvalidName bm_InvalidName true sn_InvalidName sub_InvalidName ab_InvalidName col_InvalidName dd_InvalidName m0_InvalidName m1_InvalidName m2_InvalidName m3_InvalidName m5_InvalidName "ValueError.__new__"))
    (rf_InvalidName : PySem.HandSPX.refsVE bm_InvalidName = true)
    (sa_InvalidName : PySem.W.findIn K (.ref C_InvalidName) "__setattr__" = some (some (.builtin "object.__setattr__")))
    (ga_InvalidName : PySem.W.findIn K (.ref C_InvalidName) "__getattribute__" = some (some (.builtin "BaseException.__getattribute__")))
    (gg_InvalidName : PySem.W.findIn K (.ref C_InvalidName) "__getattr__" = some none)
    (nb_InvalidName : PySem.W.findIn K (.ref C_InvalidName) "value" = some none)
    (ai_InvalidName : PySem.W.findIn K (.ref C_InvalidName) "__init__" = some (some (.ref i_InvalidName)))
    (ti_InvalidName : PySem.W.typeIn K (.ref i_InvalidName) = some (.type "function"))
    (li_InvalidName : K.lookup i_InvalidName = some ⟨oc_InvalidName, od_InvalidName, .func (PySem.W.ksFn "__init__" qu_InvalidName (PySem.ErX.iA "value" p1_InvalidName p2_InvalidName) (PySem.ErX.iB "value" ms_InvalidName q1_InvalidName q2_InvalidName q3_InvalidName q4_InvalidName q5_InvalidName q6_InvalidName q7_InvalidName q8_InvalidName q9_InvalidName q10_InvalidName) (PySem.ErX.iS "value") .none .none dc_InvalidName pm_InvalidName an_InvalidName (.ref cda_InvalidName) ct_InvalidName cc_InvalidName), sl_InvalidName⟩)
    (ci_InvalidName : PySem.W.codeIn K (.ref cda_InvalidName) qu_InvalidName = true)
    (ld_InvalidName : K.lookup cda_InvalidName = some ⟨f1_InvalidName, e1_InvalidName, .fields vs_InvalidName, s1_InvalidName⟩)
    (vs2_InvalidName : vs_InvalidName[2]? = some (.str fl_InvalidName tf_InvalidName))
    (hf_InvalidName : ((PRG.main.file : Str) == fl_InvalidName) = true)
    (lc_InvalidName : K.lookup cc_InvalidName = some ⟨f2_InvalidName, e2_InvalidName, .cell (some (.ref C_InvalidName)), s2_InvalidName⟩)
    (ev_InvalidName : PySem.ErX.SupEv ms_InvalidName q1_InvalidName q2_InvalidName q3_InvalidName q4_InvalidName q5_InvalidName)
    (kC_InvalidName : PySem.W.keepIn K (.ref C_InvalidName) = true)
    (eC_InvalidName : PySem.W.subIn K (.ref C_InvalidName) (.type "BaseException") = some true)
    (vC_InvalidName : PySem.W.subIn K (.ref C_InvalidName) (.type "ValueError") = some true)
    (tC_InvalidName : PySem.W.typeIn K (.ref C_InvalidName) = some (.type "type"))
    (hC_InvalidName : PySem.W.hasDictIn K C_InvalidName = true)
    (iC_InvalidName : PySem.W.isClsIn K C_InvalidName = true)
    (sC_InvalidName : PySem.W.subIn K (.ref C_InvalidName) (.ref C_InvalidName) = some true)
    (me_InvalidName : PySem.W.mroIn K C_InvalidName (.ref C_InvalidName) = some true)
    (al_InvalidName : PySem.W.ks_superIn K C_InvalidName C_InvalidName "__init__" = some (some (.builtin "ValueError.__init__")))
    (aC_InvalidRef : PySem.W.nsIn K mainGlobals "InvalidRef" = some (some (.ref C_InvalidRef)))
    (xL_InvalidRef : K.lookup C_InvalidRef = some (excClassObj nm_InvalidRef q_InvalidRef C_InvalidRef N_InvalidRef bs_InvalidRef bm_InvalidRef true sn_InvalidRef sub_InvalidRef ab_InvalidRef col_InvalidRef dd_InvalidRef m0_InvalidRef m1_InvalidRef m2_InvalidRef m3_InvalidRef m5_InvalidRef "ValueError.__new__"))
    (rf_InvalidRef : PySem.HandSPX.refsVE bm_InvalidRef = true)
    (sa_InvalidRef : PySem.W.findIn K (.ref C_InvalidRef) "__setattr__" = some (some (.builtin "object.__setattr__")))
    (ga_InvalidRef : PySem.W.findIn K (.ref C_InvalidRef) "__getattribute__" = some (some (.builtin "BaseException.__getattribute__")))
    (gg_InvalidRef : PySem.W.findIn K (.ref C_InvalidRef) "__getattr__" = some none)
    (nb_InvalidRef : PySem.W.findIn K (.ref C_InvalidRef) "value" = some none)
    (ai_InvalidRef : PySem.W.findIn K (.ref C_InvalidRef) "__init__" = some (some (.ref i_InvalidRef)))
    (ti_InvalidRef : PySem.W.typeIn K (.ref i_InvalidRef) = some (.type "function"))
    (li_InvalidRef : K.lookup i_InvalidRef = some ⟨oc_InvalidRef, od_InvalidRef, .func (PySem.W.ksFn "__init__" qu_InvalidRef (PySem.ErX.iA "value" p1_InvalidRef p2_InvalidRef) (PySem.ErX.iB "value" ms_InvalidRef q1_InvalidRef q2_InvalidRef q3_InvalidRef q4_InvalidRef q5_InvalidRef q6_InvalidRef q7_InvalidRef q8_InvalidRef q9_InvalidRef q10_InvalidRef) (PySem.ErX.iS "value") .none .none dc_InvalidRef pm_InvalidRef an_InvalidRef (.ref cda_InvalidRef) ct_InvalidRef cc_InvalidRef), sl_InvalidRef⟩)
    (ci_InvalidRef : PySem.W.codeIn K (.ref cda_InvalidRef) qu_InvalidRef = true)
    (ld_InvalidRef : K.lookup cda_InvalidRef = some ⟨f1_InvalidRef, e1_InvalidRef, .fields vs_InvalidRef, s1_InvalidRef⟩)
    (vs2_InvalidRef : vs_InvalidRef[2]? = some (.str fl_InvalidRef tf_InvalidRef))
    (hf_InvalidRef : ((PRG.main.file : Str) == fl_InvalidRef) = true)
    (lc_InvalidRef : K.lookup cc_InvalidRef = some ⟨f2_InvalidRef, e2_InvalidRef, .cell (some (.ref C_InvalidRef)), s2_InvalidRef⟩)
    (ev_InvalidRef : PySem.ErX.SupEv ms_InvalidRef q1_InvalidRef q2_InvalidRef q3_InvalidRef q4_InvalidRef q5_InvalidRef)
    (kC_InvalidRef : PySem.W.keepIn K (.ref C_InvalidRef) = true)
    (eC_InvalidRef : PySem.W.subIn K (.ref C_InvalidRef) (.type "BaseException") = some true)
    (vC_InvalidRef : PySem.W.subIn K (.ref C_InvalidRef) (.type "ValueError") = some true)
    (tC_InvalidRef : PySem.W.typeIn K (.ref C_InvalidRef) = some (.type "type"))
    (hC_InvalidRef : PySem.W.hasDictIn K C_InvalidRef = true)
    (iC_InvalidRef : PySem.W.isClsIn K C_InvalidRef = true)
    (sC_InvalidRef : PySem.W.subIn K (.ref C_InvalidRef) (.ref C_InvalidRef) = some true)
    (me_InvalidRef : PySem.W.mroIn K C_InvalidRef (.ref C_InvalidRef) = some true)
    (al_InvalidRef : PySem.W.ks_superIn K C_InvalidRef C_InvalidRef "__init__" = some (some (.builtin "ValueError.__init__")))
    (aC_WidthError : PySem.W.nsIn K mainGlobals "WidthError" = some (some (.ref C_WidthError)))
    (xa_InvalidName : PySem.W.findIn K (.ref C_InvalidName) "__class__" = some (some (.builtin "object.__class__")))
    (xn_InvalidName : PySem.W.specialIn K (.builtin "object.__class__") "__get__" = some (some (.builtin "getset_descriptor.__get__")))
    (xt_InvalidName : PySem.W.takesIn K (.builtin "object.__class__") = some true)
    (xm_InvalidName : PySem.W.mroIn K C_InvalidName (.type "object") = some true)
    (xa_InvalidNumber : PySem.W.findIn K (.ref C_InvalidNumber) "__class__" = some (some (.builtin "object.__class__")))
    (xn_InvalidNumber : PySem.W.specialIn K (.builtin "object.__class__") "__get__" = some (some (.builtin "getset_descriptor.__get__")))
    (xt_InvalidNumber : PySem.W.takesIn K (.builtin "object.__class__") = some true)
    (xm_InvalidNumber : PySem.W.mroIn K C_InvalidNumber (.type "object") = some true)
    (ko_InvalidNumber_WidthError : PySem.W.kitOne K (.ref C_InvalidNumber) (.ref C_WidthError) = some true)
    (ko_InvalidName_WidthError : PySem.W.kitOne K (.ref C_InvalidName) (.ref C_WidthError) = some true)
    (sn_InvalidNumber_InvalidName : PySem.W.subIn K (.ref C_InvalidNumber) (.ref C_InvalidName) = some false)
    (kk_InvalidName_ValueError : PySem.W.kitOne K (.ref C_InvalidName) (.type "ValueError") = some true)
    (kk_InvalidNumber_InvalidRef : PySem.W.kitOne K (.ref C_InvalidNumber) (.ref C_InvalidRef) = some false)
    (aC_Line : PySem.W.nsIn K mainGlobals "Line" = some (some (.ref C_Line)))
    (pg_Line : PySem.W.plainGet K C_Line Str.empty = true)
    (hd_Line : PySem.W.hasDictIn K C_Line = true)
    (po_Line : PySem.W.plainOver K C_Line = true)
    (sa_Line : PySem.W.findIn K (.ref C_Line) "__setattr__" = some (some (.builtin "object.__setattr__")))
    (nf_Line_kept_name : PySem.W.findIn K (.ref C_Line) "kept_name" = some none)
    (nf_Line_kept_stride : PySem.W.findIn K (.ref C_Line) "kept_stride" = some none)
    (mk_Line : PySem.W.makesIn K C_Line = true)
    (kc_Line : PySem.W.keepIn K (.ref C_Line) = true)
    (ic_Line : PySem.W.findIn K (.ref C_Line) "__class__" = some (some (.builtin "object.__class__")))
    (in_Line : PySem.W.specialIn K (.builtin "object.__class__") "__get__" = some (some (.builtin "getset_descriptor.__get__")))
    (ik_Line : PySem.W.takesIn K (.builtin "object.__class__") = some true)
    (im_Line : PySem.W.mroIn K C_Line (.type "object") = some true)
    (iq0_Line : PySem.W.kitOne K (.ref C_Line) (.type "int") = some false)
    (iq1_Line : PySem.W.kitOne K (.ref C_Line) (.type "bool") = some false)
    (iq2_Line : PySem.W.kitOne K (.ref C_Line) (.type "str") = some false)
    (iq3_Line : PySem.W.kitOne K (.ref C_Line) (.type "tuple") = some false)
    (iq4_Line : PySem.W.kitOne K (.ref C_Line) (.type "list") = some false)
    (iq5_Line : PySem.W.kitOne K (.ref C_Line) (.type "dict") = some false)
    (ne_Line : PySem.W.findIn K (.ref C_Line) "__ne__" = some (some (.builtin "object.__ne__")))
    (sf_Line___mul__ : PySem.W.selfFirst K C_Line = true)
    (rv_Line___mul__ : PySem.W.findIn K (.ref C_Line) "__rmul__" = some none)
    (t1_Line___mul__ : PySem.W.findIn K (.type "int") "__mul__" = some fo_Line___mul__)
    (t2_Line___mul__ : PySem.W.findIn K (.type "int") "__rmul__" = some ro_Line___mul__)
    (sb_Line___mul__ : PySem.W.subIn K (.type "int") (.ref C_Line) = some false)
    (u1_Line___mul__ : PySem.W.findIn K (.type "bool") "__mul__" = some fB_Line___mul__)
    (u2_Line___mul__ : PySem.W.findIn K (.type "bool") "__rmul__" = some rB_Line___mul__)
    (uB_Line___mul__ : PySem.W.subIn K (.type "bool") (.ref C_Line) = some false)
    (nf_Line_str : PySem.W.notFirst K C_Line (.type "str") = true)
    (nk_Line_str : PySem.W.kitOne K (.type "str") (.ref C_Line) = some false)
    (a_is_integer : PySem.W.nsIn K mainGlobals "is_integer" = some (some (.ref f_is_integer)))
    (l_is_integer : K.lookup f_is_integer = some ⟨oc_is_integer, od_is_integer, .func (PySem.W.fnOf "is_integer" "is_integer" (defArgs s_is_integer) (defBody s_is_integer) (defScope s_is_integer) .none kV_is_integer dc_is_integer pm_is_integer an_is_integer cd_is_integer ct_is_integer), sl_is_integer⟩)
    (c_is_integer : PySem.W.codeIn K cd_is_integer "is_integer" = true)
    (k_is_integer : PySem.W.keepIn K (.ref f_is_integer) = true)
    (a_is_between : PySem.W.nsIn K mainGlobals "is_between" = some (some (.ref f_is_between)))
    (l_is_between : K.lookup f_is_between = some ⟨oc_is_between, od_is_between, .func (PySem.W.fnOf "is_between" "is_between" (defArgs s_is_between) (defBody s_is_between) (defScope s_is_between) .none kV_is_between dc_is_between pm_is_between an_is_between cd_is_between ct_is_between), sl_is_between⟩)
    (c_is_between : PySem.W.codeIn K cd_is_between "is_between" = true)
    (k_is_between : PySem.W.keepIn K (.ref f_is_between) = true)
    (a_is_count : PySem.W.nsIn K mainGlobals "is_count" = some (some (.ref f_is_count)))
    (l_is_count : K.lookup f_is_count = some ⟨oc_is_count, od_is_count, .func (PySem.W.fnOf "is_count" "is_count" (defArgs s_is_count) (defBody s_is_count) (defScope s_is_count) .none kV_is_count dc_is_count pm_is_count an_is_count cd_is_count ct_is_count), sl_is_count⟩)
    (c_is_count : PySem.W.codeIn K cd_is_count "is_count" = true)
    (k_is_count : PySem.W.keepIn K (.ref f_is_count) = true)
    (a_is_name : PySem.W.nsIn K mainGlobals "is_name" = some (some (.ref f_is_name)))
    (l_is_name : K.lookup f_is_name = some ⟨oc_is_name, od_is_name, .func (PySem.W.fnOf "is_name" "is_name" (defArgs s_is_name) (defBody s_is_name) (defScope s_is_name) .none kV_is_name dc_is_name pm_is_name an_is_name cd_is_name ct_is_name), sl_is_name⟩)
    (c_is_name : PySem.W.codeIn K cd_is_name "is_name" = true)
    (k_is_name : PySem.W.keepIn K (.ref f_is_name) = true)
    (a_is_offset : PySem.W.nsIn K mainGlobals "is_offset" = some (some (.ref f_is_offset)))
    (l_is_offset : K.lookup f_is_offset = some ⟨oc_is_offset, od_is_offset, .func (PySem.W.fnOf "is_offset" "is_offset" (defArgs s_is_offset) (defBody s_is_offset) (defScope s_is_offset) .none kV_is_offset dc_is_offset pm_is_offset an_is_offset cd_is_offset ct_is_offset), sl_is_offset⟩)
    (c_is_offset : PySem.W.codeIn K cd_is_offset "is_offset" = true)
    (k_is_offset : PySem.W.keepIn K (.ref f_is_offset) = true)
    (a_Line___init__ : PySem.W.findIn K (.ref C_Line) "__init__" = some (some (.ref f_Line___init__)))
    (i_Line___init__ : PySem.W.isFn K (.ref f_Line___init__) = true)
    (l_Line___init__ : K.lookup f_Line___init__ = some ⟨oc_Line___init__, od_Line___init__, .func (PySem.W.fnOf "__init__" "Line.__init__" (defArgs s_Line___init__) (defBody s_Line___init__) (defScope s_Line___init__) (.ref T_Line___init__) kV_Line___init__ dc_Line___init__ pm_Line___init__ an_Line___init__ cd_Line___init__ ct_Line___init__), sl_Line___init__⟩)
    (c_Line___init__ : PySem.W.codeIn K cd_Line___init__ "Line.__init__" = true)
    (k_Line___init__ : PySem.W.keepIn K (.ref f_Line___init__) = true)
    (ld_Line___init__ : K.lookup T_Line___init__ = some do_Line___init__)
    (lv_Line___init__ : do_Line___init__.data = .seq #[.int 1 dt0_Line___init__] dn_Line___init__)
    (ap_Line_name : PySem.W.findIn K (.ref C_Line) "name" = some (some (.ref p_Line_name)))
    (gp_Line_name : PySem.W.specialIn K (.ref p_Line_name) "__get__" = some (some (.builtin "property.__get__")))
    (tp_Line_name : PySem.W.takesIn K (.ref p_Line_name) = some true)
    (rp_Line_name : PySem.W.recIn K p_Line_name "property" = some (.ref f_Line_name :: rs_Line_name))
    (l_Line_name : K.lookup f_Line_name = some ⟨oc_Line_name, od_Line_name, .func (PySem.W.fnOf "name" "Line.name" (defArgs s_Line_name) (defBody s_Line_name) (defScope s_Line_name) .none kV_Line_name dc_Line_name pm_Line_name an_Line_name cd_Line_name ct_Line_name), sl_Line_name⟩)
    (c_Line_name : PySem.W.codeIn K cd_Line_name "Line.name" = true)
    (k_Line_name : PySem.W.keepIn K (.ref f_Line_name) = true)
    (ap_Line_stride : PySem.W.findIn K (.ref C_Line) "stride" = some (some (.ref p_Line_stride)))
    (gp_Line_stride : PySem.W.specialIn K (.ref p_Line_stride) "__get__" = some (some (.builtin "property.__get__")))
    (tp_Line_stride : PySem.W.takesIn K (.ref p_Line_stride) = some true)
    (rp_Line_stride : PySem.W.recIn K p_Line_stride "property" = some (.ref f_Line_stride :: rs_Line_stride))
    (l_Line_stride : K.lookup f_Line_stride = some ⟨oc_Line_stride, od_Line_stride, .func (PySem.W.fnOf "stride" "Line.stride" (defArgs s_Line_stride) (defBody s_Line_stride) (defScope s_Line_stride) .none kV_Line_stride dc_Line_stride pm_Line_stride an_Line_stride cd_Line_stride ct_Line_stride), sl_Line_stride⟩)
    (c_Line_stride : PySem.W.codeIn K cd_Line_stride "Line.stride" = true)
    (k_Line_stride : PySem.W.keepIn K (.ref f_Line_stride) = true)
    (a_Line___eq__ : PySem.W.findIn K (.ref C_Line) "__eq__" = some (some (.ref f_Line___eq__)))
    (i_Line___eq__ : PySem.W.isFn K (.ref f_Line___eq__) = true)
    (l_Line___eq__ : K.lookup f_Line___eq__ = some ⟨oc_Line___eq__, od_Line___eq__, .func (PySem.W.fnOf "__eq__" "Line.__eq__" (defArgs s_Line___eq__) (defBody s_Line___eq__) (defScope s_Line___eq__) .none kV_Line___eq__ dc_Line___eq__ pm_Line___eq__ an_Line___eq__ cd_Line___eq__ ct_Line___eq__), sl_Line___eq__⟩)
    (c_Line___eq__ : PySem.W.codeIn K cd_Line___eq__ "Line.__eq__" = true)
    (k_Line___eq__ : PySem.W.keepIn K (.ref f_Line___eq__) = true)
    (a_Line___mul__ : PySem.W.findIn K (.ref C_Line) "__mul__" = some (some (.ref f_Line___mul__)))
    (i_Line___mul__ : PySem.W.isFn K (.ref f_Line___mul__) = true)
    (l_Line___mul__ : K.lookup f_Line___mul__ = some ⟨oc_Line___mul__, od_Line___mul__, .func (PySem.W.fnOf "__mul__" "Line.__mul__" (defArgs s_Line___mul__) (defBody s_Line___mul__) (defScope s_Line___mul__) .none kV_Line___mul__ dc_Line___mul__ pm_Line___mul__ an_Line___mul__ cd_Line___mul__ ct_Line___mul__), sl_Line___mul__⟩)
    (c_Line___mul__ : PySem.W.codeIn K cd_Line___mul__ "Line.__mul__" = true)
    (k_Line___mul__ : PySem.W.keepIn K (.ref f_Line___mul__) = true)
    (a_Line_cell : PySem.W.findIn K (.ref C_Line) "cell" = some (some (.ref f_Line_cell)))
    (i_Line_cell : PySem.W.isFn K (.ref f_Line_cell) = true)
    (l_Line_cell : K.lookup f_Line_cell = some ⟨oc_Line_cell, od_Line_cell, .func (PySem.W.fnOf "cell" "Line.cell" (defArgs s_Line_cell) (defBody s_Line_cell) (defScope s_Line_cell) .none kV_Line_cell dc_Line_cell pm_Line_cell an_Line_cell cd_Line_cell ct_Line_cell), sl_Line_cell⟩)
    (c_Line_cell : PySem.W.codeIn K cd_Line_cell "Line.cell" = true)
    (k_Line_cell : PySem.W.keepIn K (.ref f_Line_cell) = true)
    (a__law_begin : PySem.W.nsIn K mainGlobals "_law_begin" = some (some (.ref f__law_begin)))
    (l__law_begin : K.lookup f__law_begin = some ⟨oc__law_begin, od__law_begin, .func (PySem.W.fnOf "_law_begin" "_law_begin" (defArgs s__law_begin) (defBody s__law_begin) (defScope s__law_begin) .none kV__law_begin dc__law_begin pm__law_begin an__law_begin cd__law_begin ct__law_begin), sl__law_begin⟩)
    (c__law_begin : PySem.W.codeIn K cd__law_begin "_law_begin" = true)
    (k__law_begin : PySem.W.keepIn K (.ref f__law_begin) = true)
    (a__law_draw : PySem.W.nsIn K mainGlobals "_law_draw" = some (some (.ref f__law_draw)))
    (l__law_draw : K.lookup f__law_draw = some ⟨oc__law_draw, od__law_draw, .func (PySem.W.fnOf "_law_draw" "_law_draw" (defArgs s__law_draw) (defBody s__law_draw) (defScope s__law_draw) .none kV__law_draw dc__law_draw pm__law_draw an__law_draw cd__law_draw ct__law_draw), sl__law_draw⟩)
    (c__law_draw : PySem.W.codeIn K cd__law_draw "_law_draw" = true)
    (k__law_draw : PySem.W.keepIn K (.ref f__law_draw) = true)
    (a__law_pick : PySem.W.nsIn K mainGlobals "_law_pick" = some (some (.ref f__law_pick)))
    (l__law_pick : K.lookup f__law_pick = some ⟨oc__law_pick, od__law_pick, .func (PySem.W.fnOf "_law_pick" "_law_pick" (defArgs s__law_pick) (defBody s__law_pick) (defScope s__law_pick) .none kV__law_pick dc__law_pick pm__law_pick an__law_pick cd__law_pick ct__law_pick), sl__law_pick⟩)
    (c__law_pick : PySem.W.codeIn K cd__law_pick "_law_pick" = true)
    (k__law_pick : PySem.W.keepIn K (.ref f__law_pick) = true)
    (a__law_mixed : PySem.W.nsIn K mainGlobals "_law_mixed" = some (some (.ref f__law_mixed)))
    (l__law_mixed : K.lookup f__law_mixed = some ⟨oc__law_mixed, od__law_mixed, .func (PySem.W.fnOf "_law_mixed" "_law_mixed" (defArgs s__law_mixed) (defBody s__law_mixed) (defScope s__law_mixed) .none kV__law_mixed dc__law_mixed pm__law_mixed an__law_mixed cd__law_mixed ct__law_mixed), sl__law_mixed⟩)
    (c__law_mixed : PySem.W.codeIn K cd__law_mixed "_law_mixed" = true)
    (k__law_mixed : PySem.W.keepIn K (.ref f__law_mixed) = true)
    (a__law_stem : PySem.W.nsIn K mainGlobals "_law_stem" = some (some (.ref f__law_stem)))
    (l__law_stem : K.lookup f__law_stem = some ⟨oc__law_stem, od__law_stem, .func (PySem.W.fnOf "_law_stem" "_law_stem" (defArgs s__law_stem) (defBody s__law_stem) (defScope s__law_stem) .none kV__law_stem dc__law_stem pm__law_stem an__law_stem cd__law_stem ct__law_stem), sl__law_stem⟩)
    (c__law_stem : PySem.W.codeIn K cd__law_stem "_law_stem" = true)
    (k__law_stem : PySem.W.keepIn K (.ref f__law_stem) = true)
    (a__law_names : PySem.W.nsIn K mainGlobals "_law_names" = some (some (.ref f__law_names)))
    (l__law_names : K.lookup f__law_names = some ⟨oc__law_names, od__law_names, .func (PySem.W.fnOf "_law_names" "_law_names" (defArgs s__law_names) (defBody s__law_names) (defScope s__law_names) .none kV__law_names dc__law_names pm__law_names an__law_names cd__law_names ct__law_names), sl__law_names⟩)
    (c__law_names : PySem.W.codeIn K cd__law_names "_law_names" = true)
    (k__law_names : PySem.W.keepIn K (.ref f__law_names) = true)
    (a__law_refused : PySem.W.nsIn K mainGlobals "_law_refused" = some (some (.ref f__law_refused)))
    (l__law_refused : K.lookup f__law_refused = some ⟨oc__law_refused, od__law_refused, .func (PySem.W.fnOf "_law_refused" "_law_refused" (defArgs s__law_refused) (defBody s__law_refused) (defScope s__law_refused) .none kV__law_refused dc__law_refused pm__law_refused an__law_refused cd__law_refused ct__law_refused), sl__law_refused⟩)
    (c__law_refused : PySem.W.codeIn K cd__law_refused "_law_refused" = true)
    (k__law_refused : PySem.W.keepIn K (.ref f__law_refused) = true)
    (a_law : PySem.W.nsIn K mainGlobals "law" = some (some (.ref f_law)))
    (l_law : K.lookup f_law = some ⟨oc_law, od_law, .func (PySem.W.fnOf "law" "law" (defArgs s_law) (defBody s_law) (defScope s_law) .none kV_law dc_law pm_law an_law (.ref c_law) ct_law), sl_law⟩)
    (cc0_law : PySem.W.codeIn K (.ref c_law) "law" = true)
    (k_law : PySem.W.keepIn K (.ref f_law) = true)
    (lc_law : K.lookup c_law = some ⟨lce, lcd, .fields lcv, lcs⟩)
    (lce_law : lce = .type "code")
    (v11_law : lcv[11]? = some (.ref P_law))
    (g11_law : lcv.getD 11 .none = .ref P_law)
    (g18_law : lcv.getD 18 .none = .str lcf lct1)
    (g7_law : lcv.getD 7 .none = .int lcg lct2)
    (g9_law : lcv.getD 9 .none = .bool lcb)
    (g10_law : lcv.getD 10 .none = .int lcx lct3)
    (nP_law : K.lookup P_law = none)
    (ne_law : c_law ≠ P_law)
    (mm_ValueError : PySem.W.nsIn K mainGlobals "ValueError" = some none)
    (mm_all : PySem.W.nsIn K mainGlobals "all" = some none)
    (mm_bool : PySem.W.nsIn K mainGlobals "bool" = some none)
    (mm_int : PySem.W.nsIn K mainGlobals "int" = some none)
    (mm_isinstance : PySem.W.nsIn K mainGlobals "isinstance" = some none)
    (mm_len : PySem.W.nsIn K mainGlobals "len" = some none)
    (mm_list : PySem.W.nsIn K mainGlobals "list" = some none)
    (mm_range : PySem.W.nsIn K mainGlobals "range" = some none)
    (mm_repr : PySem.W.nsIn K mainGlobals "repr" = some none)
    (mm_str : PySem.W.nsIn K mainGlobals "str" = some none)
    (q_LETTERS : PySem.W.nsIn K mainGlobals "LETTERS" = some (some (.str "abcdefghijklmnopqrstuvwxyz" t_LETTERS)))
    (q_MOST_LETTERS : PySem.W.nsIn K mainGlobals "MOST_LETTERS" = some (some (.int 8 t_MOST_LETTERS)))
    (q_MOST_STRIDE : PySem.W.nsIn K mainGlobals "MOST_STRIDE" = some (some (.int 6 t_MOST_STRIDE)))
    (q_MOST_OFFSET : PySem.W.nsIn K mainGlobals "MOST_OFFSET" = some (some (.int 9 t_MOST_OFFSET)))
    : VW.LawAtG PySem.Challenge.rw_vectorwidths_k02_lines_made w K CX0 11 63 "script" mg fa h := by
  have e := hfa.symm.trans (PySem.W.mg_of X G a_law)
  cases e
  let A : Ad := { C_InvalidNumber := C_InvalidNumber, i_InvalidNumber := i_InvalidNumber, C_InvalidName := C_InvalidName, i_InvalidName := i_InvalidName, C_InvalidRef := C_InvalidRef, i_InvalidRef := i_InvalidRef, C_WidthError := C_WidthError, C_Line := C_Line, a_is_integer := f_is_integer, fd_is_integer := (PySem.W.fnOf "is_integer" "is_integer" (defArgs s_is_integer) (defBody s_is_integer) (defScope s_is_integer) .none kV_is_integer dc_is_integer pm_is_integer an_is_integer cd_is_integer ct_is_integer), a_is_between := f_is_between, fd_is_between := (PySem.W.fnOf "is_between" "is_between" (defArgs s_is_between) (defBody s_is_between) (defScope s_is_between) .none kV_is_between dc_is_between pm_is_between an_is_between cd_is_between ct_is_between), a_is_count := f_is_count, fd_is_count := (PySem.W.fnOf "is_count" "is_count" (defArgs s_is_count) (defBody s_is_count) (defScope s_is_count) .none kV_is_count dc_is_count pm_is_count an_is_count cd_is_count ct_is_count), a_is_name := f_is_name, fd_is_name := (PySem.W.fnOf "is_name" "is_name" (defArgs s_is_name) (defBody s_is_name) (defScope s_is_name) .none kV_is_name dc_is_name pm_is_name an_is_name cd_is_name ct_is_name), a_is_offset := f_is_offset, fd_is_offset := (PySem.W.fnOf "is_offset" "is_offset" (defArgs s_is_offset) (defBody s_is_offset) (defScope s_is_offset) .none kV_is_offset dc_is_offset pm_is_offset an_is_offset cd_is_offset ct_is_offset), a_Line___init__ := f_Line___init__, fd_Line___init__ := (PySem.W.fnOf "__init__" "Line.__init__" (defArgs s_Line___init__) (defBody s_Line___init__) (defScope s_Line___init__) (.ref T_Line___init__) kV_Line___init__ dc_Line___init__ pm_Line___init__ an_Line___init__ cd_Line___init__ ct_Line___init__), a_Line_name := f_Line_name, fd_Line_name := (PySem.W.fnOf "name" "Line.name" (defArgs s_Line_name) (defBody s_Line_name) (defScope s_Line_name) .none kV_Line_name dc_Line_name pm_Line_name an_Line_name cd_Line_name ct_Line_name), p_Line_name := p_Line_name, a_Line_stride := f_Line_stride, fd_Line_stride := (PySem.W.fnOf "stride" "Line.stride" (defArgs s_Line_stride) (defBody s_Line_stride) (defScope s_Line_stride) .none kV_Line_stride dc_Line_stride pm_Line_stride an_Line_stride cd_Line_stride ct_Line_stride), p_Line_stride := p_Line_stride, a_Line___eq__ := f_Line___eq__, fd_Line___eq__ := (PySem.W.fnOf "__eq__" "Line.__eq__" (defArgs s_Line___eq__) (defBody s_Line___eq__) (defScope s_Line___eq__) .none kV_Line___eq__ dc_Line___eq__ pm_Line___eq__ an_Line___eq__ cd_Line___eq__ ct_Line___eq__), a_Line___mul__ := f_Line___mul__, fd_Line___mul__ := (PySem.W.fnOf "__mul__" "Line.__mul__" (defArgs s_Line___mul__) (defBody s_Line___mul__) (defScope s_Line___mul__) .none kV_Line___mul__ dc_Line___mul__ pm_Line___mul__ an_Line___mul__ cd_Line___mul__ ct_Line___mul__), a_Line_cell := f_Line_cell, fd_Line_cell := (PySem.W.fnOf "cell" "Line.cell" (defArgs s_Line_cell) (defBody s_Line_cell) (defScope s_Line_cell) .none kV_Line_cell dc_Line_cell pm_Line_cell an_Line_cell cd_Line_cell ct_Line_cell), a__law_begin := f__law_begin, fd__law_begin := (PySem.W.fnOf "_law_begin" "_law_begin" (defArgs s__law_begin) (defBody s__law_begin) (defScope s__law_begin) .none kV__law_begin dc__law_begin pm__law_begin an__law_begin cd__law_begin ct__law_begin), a__law_draw := f__law_draw, fd__law_draw := (PySem.W.fnOf "_law_draw" "_law_draw" (defArgs s__law_draw) (defBody s__law_draw) (defScope s__law_draw) .none kV__law_draw dc__law_draw pm__law_draw an__law_draw cd__law_draw ct__law_draw), a__law_pick := f__law_pick, fd__law_pick := (PySem.W.fnOf "_law_pick" "_law_pick" (defArgs s__law_pick) (defBody s__law_pick) (defScope s__law_pick) .none kV__law_pick dc__law_pick pm__law_pick an__law_pick cd__law_pick ct__law_pick), a__law_mixed := f__law_mixed, fd__law_mixed := (PySem.W.fnOf "_law_mixed" "_law_mixed" (defArgs s__law_mixed) (defBody s__law_mixed) (defScope s__law_mixed) .none kV__law_mixed dc__law_mixed pm__law_mixed an__law_mixed cd__law_mixed ct__law_mixed), a__law_stem := f__law_stem, fd__law_stem := (PySem.W.fnOf "_law_stem" "_law_stem" (defArgs s__law_stem) (defBody s__law_stem) (defScope s__law_stem) .none kV__law_stem dc__law_stem pm__law_stem an__law_stem cd__law_stem ct__law_stem), a__law_names := f__law_names, fd__law_names := (PySem.W.fnOf "_law_names" "_law_names" (defArgs s__law_names) (defBody s__law_names) (defScope s__law_names) .none kV__law_names dc__law_names pm__law_names an__law_names cd__law_names ct__law_names), a__law_refused := f__law_refused, fd__law_refused := (PySem.W.fnOf "_law_refused" "_law_refused" (defArgs s__law_refused) (defBody s__law_refused) (defScope s__law_refused) .none kV__law_refused dc__law_refused pm__law_refused an__law_refused cd__law_refused ct__law_refused), a_law := fa, fd_law := (PySem.W.fnOf "law" "law" (defArgs s_law) (defBody s_law) (defScope s_law) .none kV_law dc_law pm_law an_law (.ref c_law) ct_law), c_law := c_law, p_law := P_law }
  have F_is_integer' := fun_mk (st := s_is_integer) l_is_integer c_is_integer k_is_integer
  have F_is_between' := fun_mk (st := s_is_between) l_is_between c_is_between k_is_between
  have F_is_count' := fun_mk (st := s_is_count) l_is_count c_is_count k_is_count
  have F_is_name' := fun_mk (st := s_is_name) l_is_name c_is_name k_is_name
  have F_is_offset' := fun_mk (st := s_is_offset) l_is_offset c_is_offset k_is_offset
  have F_Line___init__' : FunD K "__init__" "Line.__init__" (defArgs s_Line___init__) (defBody s_Line___init__) (defScope s_Line___init__) [.int 1] [] f_Line___init__ (PySem.W.fnOf "__init__" "Line.__init__" (defArgs s_Line___init__) (defBody s_Line___init__) (defScope s_Line___init__) (.ref T_Line___init__) kV_Line___init__ dc_Line___init__ pm_Line___init__ an_Line___init__ cd_Line___init__ ct_Line___init__) := ⟨⟨_, _, _, _, _, _, _, _, _, _, rfl, l_Line___init__, c_Line___init__, .inr ⟨by simp, T_Line___init__, do_Line___init__, [.int 1 dt0_Line___init__], dn_Line___init__, rfl, ld_Line___init__, lv_Line___init__, (.cons ⟨_, rfl⟩ .nil)⟩, .inl rfl⟩, k_Line___init__⟩
  have F_Line_name' := fun_mk (st := s_Line_name) l_Line_name c_Line_name k_Line_name
  have F_Line_stride' := fun_mk (st := s_Line_stride) l_Line_stride c_Line_stride k_Line_stride
  have F_Line___eq__' := fun_mk (st := s_Line___eq__) l_Line___eq__ c_Line___eq__ k_Line___eq__
  have F_Line___mul__' := fun_mk (st := s_Line___mul__) l_Line___mul__ c_Line___mul__ k_Line___mul__
  have F_Line_cell' := fun_mk (st := s_Line_cell) l_Line_cell c_Line_cell k_Line_cell
  have F__law_begin' := fun_mk (st := s__law_begin) l__law_begin c__law_begin k__law_begin
  have F__law_draw' := fun_mk (st := s__law_draw) l__law_draw c__law_draw k__law_draw
  have F__law_pick' := fun_mk (st := s__law_pick) l__law_pick c__law_pick k__law_pick
  have F__law_mixed' := fun_mk (st := s__law_mixed) l__law_mixed c__law_mixed k__law_mixed
  have F__law_stem' := fun_mk (st := s__law_stem) l__law_stem c__law_stem k__law_stem
  have F__law_names' := fun_mk (st := s__law_names) l__law_names c__law_names k__law_names
  have F__law_refused' := fun_mk (st := s__law_refused) l__law_refused c__law_refused k__law_refused
  have F_law' := fun_mk (st := s_law) l_law cc0_law k_law
  have x_er_InvalidNumber : ErTxt PRG K mg "InvalidNumber" "value" A.C_InvalidNumber A.i_InvalidNumber := { gC := PySem.W.mg_of X G aC_InvalidNumber, cls := ⟨nm_InvalidNumber, q_InvalidNumber, N_InvalidNumber, bs_InvalidNumber, _, sn_InvalidNumber, sub_InvalidNumber, ab_InvalidNumber, col_InvalidNumber, dd_InvalidNumber, m0_InvalidNumber, m1_InvalidNumber, m2_InvalidNumber, m3_InvalidNumber, m5_InvalidNumber, xL_InvalidNumber, rf_InvalidNumber⟩, sa := sa_InvalidNumber, ga := ga_InvalidNumber, gg := gg_InvalidNumber, noN := nb_InvalidNumber, iC := ai_InvalidNumber, tC := ti_InvalidNumber, kC := kC_InvalidNumber, exC := eC_InvalidNumber, veC := vC_InvalidNumber, tyC := tC_InvalidNumber, hdC := hC_InvalidNumber, te := VW.exm_self eC_InvalidNumber iC_InvalidNumber tC_InvalidNumber sC_InvalidNumber, meC := me_InvalidNumber, alC := al_InvalidNumber, opq := opq0, sup := sup0, nsup := nsup0, fn := ⟨oc_InvalidNumber, od_InvalidNumber, dc_InvalidNumber, pm_InvalidNumber, an_InvalidNumber, cda_InvalidNumber, cc_InvalidNumber, ct_InvalidNumber, sl_InvalidNumber, qu_InvalidNumber, ms_InvalidNumber, p1_InvalidNumber, p2_InvalidNumber, q1_InvalidNumber, q2_InvalidNumber, q3_InvalidNumber, q4_InvalidNumber, q5_InvalidNumber, q6_InvalidNumber, q7_InvalidNumber, q8_InvalidNumber, q9_InvalidNumber, q10_InvalidNumber, f1_InvalidNumber, f2_InvalidNumber, e1_InvalidNumber, e2_InvalidNumber, vs_InvalidNumber, s1_InvalidNumber, s2_InvalidNumber, fl_InvalidNumber, tf_InvalidNumber, li_InvalidNumber, ci_InvalidNumber, ld_InvalidNumber, vs2_InvalidNumber, hf_InvalidNumber, lc_InvalidNumber, ev_InvalidNumber⟩ }
  have x_er_InvalidName : ErTxt PRG K mg "InvalidName" "value" A.C_InvalidName A.i_InvalidName := { gC := PySem.W.mg_of X G aC_InvalidName, cls := ⟨nm_InvalidName, q_InvalidName, N_InvalidName, bs_InvalidName, _, sn_InvalidName, sub_InvalidName, ab_InvalidName, col_InvalidName, dd_InvalidName, m0_InvalidName, m1_InvalidName, m2_InvalidName, m3_InvalidName, m5_InvalidName, xL_InvalidName, rf_InvalidName⟩, sa := sa_InvalidName, ga := ga_InvalidName, gg := gg_InvalidName, noN := nb_InvalidName, iC := ai_InvalidName, tC := ti_InvalidName, kC := kC_InvalidName, exC := eC_InvalidName, veC := vC_InvalidName, tyC := tC_InvalidName, hdC := hC_InvalidName, te := VW.exm_self eC_InvalidName iC_InvalidName tC_InvalidName sC_InvalidName, meC := me_InvalidName, alC := al_InvalidName, opq := opq0, sup := sup0, nsup := nsup0, fn := ⟨oc_InvalidName, od_InvalidName, dc_InvalidName, pm_InvalidName, an_InvalidName, cda_InvalidName, cc_InvalidName, ct_InvalidName, sl_InvalidName, qu_InvalidName, ms_InvalidName, p1_InvalidName, p2_InvalidName, q1_InvalidName, q2_InvalidName, q3_InvalidName, q4_InvalidName, q5_InvalidName, q6_InvalidName, q7_InvalidName, q8_InvalidName, q9_InvalidName, q10_InvalidName, f1_InvalidName, f2_InvalidName, e1_InvalidName, e2_InvalidName, vs_InvalidName, s1_InvalidName, s2_InvalidName, fl_InvalidName, tf_InvalidName, li_InvalidName, ci_InvalidName, ld_InvalidName, vs2_InvalidName, hf_InvalidName, lc_InvalidName, ev_InvalidName⟩ }
  have x_er_InvalidRef : ErTxt PRG K mg "InvalidRef" "value" A.C_InvalidRef A.i_InvalidRef := { gC := PySem.W.mg_of X G aC_InvalidRef, cls := ⟨nm_InvalidRef, q_InvalidRef, N_InvalidRef, bs_InvalidRef, _, sn_InvalidRef, sub_InvalidRef, ab_InvalidRef, col_InvalidRef, dd_InvalidRef, m0_InvalidRef, m1_InvalidRef, m2_InvalidRef, m3_InvalidRef, m5_InvalidRef, xL_InvalidRef, rf_InvalidRef⟩, sa := sa_InvalidRef, ga := ga_InvalidRef, gg := gg_InvalidRef, noN := nb_InvalidRef, iC := ai_InvalidRef, tC := ti_InvalidRef, kC := kC_InvalidRef, exC := eC_InvalidRef, veC := vC_InvalidRef, tyC := tC_InvalidRef, hdC := hC_InvalidRef, te := VW.exm_self eC_InvalidRef iC_InvalidRef tC_InvalidRef sC_InvalidRef, meC := me_InvalidRef, alC := al_InvalidRef, opq := opq0, sup := sup0, nsup := nsup0, fn := ⟨oc_InvalidRef, od_InvalidRef, dc_InvalidRef, pm_InvalidRef, an_InvalidRef, cda_InvalidRef, cc_InvalidRef, ct_InvalidRef, sl_InvalidRef, qu_InvalidRef, ms_InvalidRef, p1_InvalidRef, p2_InvalidRef, q1_InvalidRef, q2_InvalidRef, q3_InvalidRef, q4_InvalidRef, q5_InvalidRef, q6_InvalidRef, q7_InvalidRef, q8_InvalidRef, q9_InvalidRef, q10_InvalidRef, f1_InvalidRef, f2_InvalidRef, e1_InvalidRef, e2_InvalidRef, vs_InvalidRef, s1_InvalidRef, s2_InvalidRef, fl_InvalidRef, tf_InvalidRef, li_InvalidRef, ci_InvalidRef, ld_InvalidRef, vs2_InvalidRef, hf_InvalidRef, lc_InvalidRef, ev_InvalidRef⟩ }
  have x_g_WidthError : mg "WidthError" = some (.ref A.C_WidthError) := PySem.W.mg_of X G aC_WidthError
  have x_xc_InvalidName : ExcC K A.C_InvalidName := ⟨ga_InvalidName, gg_InvalidName, eC_InvalidName, hC_InvalidName, xa_InvalidName, xn_InvalidName, xt_InvalidName, xm_InvalidName⟩
  have x_xc_InvalidNumber : ExcC K A.C_InvalidNumber := ⟨ga_InvalidNumber, gg_InvalidNumber, eC_InvalidNumber, hC_InvalidNumber, xa_InvalidNumber, xn_InvalidNumber, xt_InvalidNumber, xm_InvalidNumber⟩
  have x_ks_InvalidNumber_WidthError : PySem.W.kitOne K (.ref A.C_InvalidNumber) (.ref A.C_WidthError) = some true := ko_InvalidNumber_WidthError
  have x_ks_InvalidName_WidthError : PySem.W.kitOne K (.ref A.C_InvalidName) (.ref A.C_WidthError) = some true := ko_InvalidName_WidthError
  have x_en_InvalidNumber_InvalidName : PySem.W.exmOne K (.ref A.C_InvalidNumber) (.ref A.C_InvalidName) = some false := VW.exm_other eC_InvalidName iC_InvalidName tC_InvalidName sn_InvalidNumber_InvalidName
  have x_ki_InvalidName_ValueError : PySem.W.kitOne K (.ref A.C_InvalidName) (.type "ValueError") = some true := kk_InvalidName_ValueError
  have x_ki_InvalidNumber_InvalidRef : PySem.W.kitOne K (.ref A.C_InvalidNumber) (.ref A.C_InvalidRef) = some false := kk_InvalidNumber_InvalidRef
  have x_g_Line : mg "Line" = some (.ref A.C_Line) := PySem.W.mg_of X G aC_Line
  have x_cl_Line : Cls K A.C_Line := ⟨pg_Line, hd_Line, po_Line, sa_Line⟩
  have x_n_Line_kept_name : NoAttr K A.C_Line "kept_name" := nf_Line_kept_name
  have x_n_Line_kept_stride : NoAttr K A.C_Line "kept_stride" := nf_Line_kept_stride
  have x_M_Line : Mk K A.C_Line A.a_Line___init__ := ⟨mk_Line, a_Line___init__, i_Line___init__, kc_Line⟩
  have x_oc_Line : OwnC K A.C_Line := ⟨⟨pg_Line, hd_Line, po_Line, sa_Line⟩, ic_Line, in_Line, ik_Line, im_Line, iq0_Line, iq1_Line, iq2_Line, iq3_Line, iq4_Line, iq5_Line⟩
  have x_eq_Line : EqC K A.C_Line A.a_Line___eq__ := ⟨a_Line___eq__, i_Line___eq__, ne_Line, im_Line⟩
  have x_bin_Line___mul__ : BinC K A.C_Line A.a_Line___mul__ .Mult "int" := ⟨sf_Line___mul__, a_Line___mul__, i_Line___mul__, rv_Line___mul__, ⟨_, t1_Line___mul__⟩, ⟨_, t2_Line___mul__⟩, sb_Line___mul__⟩
  have x_binB_Line___mul__ : BinC K A.C_Line A.a_Line___mul__ .Mult "bool" := ⟨sf_Line___mul__, a_Line___mul__, i_Line___mul__, rv_Line___mul__, ⟨_, u1_Line___mul__⟩, ⟨_, u2_Line___mul__⟩, uB_Line___mul__⟩
  have x_nft_Line_str : PySem.W.notFirst K A.C_Line (.type "str") = true := nf_Line_str
  have x_nkt_Line_str : PySem.W.kitOne K (.type "str") (.ref A.C_Line) = some false := nk_Line_str
  have x_F_is_integer : Fun K "is_integer" "is_integer" s_is_integer A.a_is_integer A.fd_is_integer := F_is_integer'
  have x_b_is_integer : Binds K A.fd_is_integer ["value"] [] := (F_is_integer'.binds (ps := ["value"]) fun _ _ _ _ _ _ us hl => match us, hl with | [_], _ => rfl)
  have x_g_is_integer : mg "is_integer" = some (.ref A.a_is_integer) := PySem.W.mg_of X G a_is_integer
  have x_F_is_between : Fun K "is_between" "is_between" s_is_between A.a_is_between A.fd_is_between := F_is_between'
  have x_b_is_between : Binds K A.fd_is_between ["value", "low", "high"] [] := (F_is_between'.binds (ps := ["value", "low", "high"]) fun _ _ _ _ _ _ us hl => match us, hl with | [_, _, _], _ => rfl)
  have x_g_is_between : mg "is_between" = some (.ref A.a_is_between) := PySem.W.mg_of X G a_is_between
  have x_F_is_count : Fun K "is_count" "is_count" s_is_count A.a_is_count A.fd_is_count := F_is_count'
  have x_b_is_count : Binds K A.fd_is_count ["value"] [] := (F_is_count'.binds (ps := ["value"]) fun _ _ _ _ _ _ us hl => match us, hl with | [_], _ => rfl)
  have x_g_is_count : mg "is_count" = some (.ref A.a_is_count) := PySem.W.mg_of X G a_is_count
  have x_F_is_name : Fun K "is_name" "is_name" s_is_name A.a_is_name A.fd_is_name := F_is_name'
  have x_b_is_name : Binds K A.fd_is_name ["value"] [] := (F_is_name'.binds (ps := ["value"]) fun _ _ _ _ _ _ us hl => match us, hl with | [_], _ => rfl)
  have x_g_is_name : mg "is_name" = some (.ref A.a_is_name) := PySem.W.mg_of X G a_is_name
  have x_F_is_offset : Fun K "is_offset" "is_offset" s_is_offset A.a_is_offset A.fd_is_offset := F_is_offset'
  have x_b_is_offset : Binds K A.fd_is_offset ["value"] [] := (F_is_offset'.binds (ps := ["value"]) fun _ _ _ _ _ _ us hl => match us, hl with | [_], _ => rfl)
  have x_g_is_offset : mg "is_offset" = some (.ref A.a_is_offset) := PySem.W.mg_of X G a_is_offset
  have x_F_Line___init__ : FunD K "__init__" "Line.__init__" (defArgs s_Line___init__) (defBody s_Line___init__) (defScope s_Line___init__) [.int 1] [] A.a_Line___init__ A.fd_Line___init__ := ⟨⟨_, _, _, _, _, _, _, _, _, _, rfl, l_Line___init__, c_Line___init__, .inr ⟨by simp, T_Line___init__, do_Line___init__, [.int 1 dt0_Line___init__], dn_Line___init__, rfl, ld_Line___init__, lv_Line___init__, (.cons ⟨_, rfl⟩ .nil)⟩, .inl rfl⟩, k_Line___init__⟩
  have x_b_Line___init__ : Binds K A.fd_Line___init__ ["self", "name", "stride"] [] := VW.binds_all F_Line___init__' (by simp) (fun T kV doc pm an cdv ct us its hu hi => match us, hu, its, hi with | [_, _, _], _, [_], _ => ⟨_, rfl, rfl⟩)
  have x_bd_Line___init__ : ∃ ds, Vals [.int 1] ds ∧ Binds K A.fd_Line___init__ ["self", "name", "stride"] ds := F_Line___init__'.binds1 2 0 (by simp) rfl (fun T kV doc pm an cdv ct us its hu hi => match us, hu, its, hi with | [_, _], _, [_], _ => ⟨_, rfl, rfl⟩)
  have x_me_Line___init__ : Meth K A.C_Line "__init__" A.a_Line___init__ := ⟨a_Line___init__, i_Line___init__, k_Line___init__⟩
  have x_F_Line_name : Fun K "name" "Line.name" s_Line_name A.a_Line_name A.fd_Line_name := F_Line_name'
  have x_b_Line_name : Binds K A.fd_Line_name ["self"] [] := (F_Line_name'.binds (ps := ["self"]) fun _ _ _ _ _ _ us hl => match us, hl with | [_], _ => rfl)
  have x_pr_Line_name : PropOf K A.C_Line "name" A.p_Line_name A.a_Line_name := ⟨ap_Line_name, gp_Line_name, tp_Line_name, ⟨_, rp_Line_name⟩⟩
  have x_F_Line_stride : Fun K "stride" "Line.stride" s_Line_stride A.a_Line_stride A.fd_Line_stride := F_Line_stride'
  have x_b_Line_stride : Binds K A.fd_Line_stride ["self"] [] := (F_Line_stride'.binds (ps := ["self"]) fun _ _ _ _ _ _ us hl => match us, hl with | [_], _ => rfl)
  have x_pr_Line_stride : PropOf K A.C_Line "stride" A.p_Line_stride A.a_Line_stride := ⟨ap_Line_stride, gp_Line_stride, tp_Line_stride, ⟨_, rp_Line_stride⟩⟩
  have x_F_Line___eq__ : Fun K "__eq__" "Line.__eq__" s_Line___eq__ A.a_Line___eq__ A.fd_Line___eq__ := F_Line___eq__'
  have x_b_Line___eq__ : Binds K A.fd_Line___eq__ ["self", "other"] [] := (F_Line___eq__'.binds (ps := ["self", "other"]) fun _ _ _ _ _ _ us hl => match us, hl with | [_, _], _ => rfl)
  have x_me_Line___eq__ : Meth K A.C_Line "__eq__" A.a_Line___eq__ := ⟨a_Line___eq__, i_Line___eq__, k_Line___eq__⟩
  have x_F_Line___mul__ : Fun K "__mul__" "Line.__mul__" s_Line___mul__ A.a_Line___mul__ A.fd_Line___mul__ := F_Line___mul__'
  have x_b_Line___mul__ : Binds K A.fd_Line___mul__ ["self", "times"] [] := (F_Line___mul__'.binds (ps := ["self", "times"]) fun _ _ _ _ _ _ us hl => match us, hl with | [_, _], _ => rfl)
  have x_me_Line___mul__ : Meth K A.C_Line "__mul__" A.a_Line___mul__ := ⟨a_Line___mul__, i_Line___mul__, k_Line___mul__⟩
  have x_F_Line_cell : Fun K "cell" "Line.cell" s_Line_cell A.a_Line_cell A.fd_Line_cell := F_Line_cell'
  have x_b_Line_cell : Binds K A.fd_Line_cell ["self", "offset", "at"] [] := (F_Line_cell'.binds (ps := ["self", "offset", "at"]) fun _ _ _ _ _ _ us hl => match us, hl with | [_, _, _], _ => rfl)
  have x_me_Line_cell : Meth K A.C_Line "cell" A.a_Line_cell := ⟨a_Line_cell, i_Line_cell, k_Line_cell⟩
  have x_F__law_begin : Fun K "_law_begin" "_law_begin" s__law_begin A.a__law_begin A.fd__law_begin := F__law_begin'
  have x_b__law_begin : Binds K A.fd__law_begin ["script"] [] := (F__law_begin'.binds (ps := ["script"]) fun _ _ _ _ _ _ us hl => match us, hl with | [_], _ => rfl)
  have x_g__law_begin : mg "_law_begin" = some (.ref A.a__law_begin) := PySem.W.mg_of X G a__law_begin
  have x_F__law_draw : Fun K "_law_draw" "_law_draw" s__law_draw A.a__law_draw A.fd__law_draw := F__law_draw'
  have x_b__law_draw : Binds K A.fd__law_draw ["source", "limit"] [] := (F__law_draw'.binds (ps := ["source", "limit"]) fun _ _ _ _ _ _ us hl => match us, hl with | [_, _], _ => rfl)
  have x_g__law_draw : mg "_law_draw" = some (.ref A.a__law_draw) := PySem.W.mg_of X G a__law_draw
  have x_F__law_pick : Fun K "_law_pick" "_law_pick" s__law_pick A.a__law_pick A.fd__law_pick := F__law_pick'
  have x_b__law_pick : Binds K A.fd__law_pick ["source", "items"] [] := (F__law_pick'.binds (ps := ["source", "items"]) fun _ _ _ _ _ _ us hl => match us, hl with | [_, _], _ => rfl)
  have x_g__law_pick : mg "_law_pick" = some (.ref A.a__law_pick) := PySem.W.mg_of X G a__law_pick
  have x_F__law_mixed : Fun K "_law_mixed" "_law_mixed" s__law_mixed A.a__law_mixed A.fd__law_mixed := F__law_mixed'
  have x_b__law_mixed : Binds K A.fd__law_mixed ["source", "items"] [] := (F__law_mixed'.binds (ps := ["source", "items"]) fun _ _ _ _ _ _ us hl => match us, hl with | [_, _], _ => rfl)
  have x_g__law_mixed : mg "_law_mixed" = some (.ref A.a__law_mixed) := PySem.W.mg_of X G a__law_mixed
  have x_F__law_stem : Fun K "_law_stem" "_law_stem" s__law_stem A.a__law_stem A.fd__law_stem := F__law_stem'
  have x_b__law_stem : Binds K A.fd__law_stem ["source"] [] := (F__law_stem'.binds (ps := ["source"]) fun _ _ _ _ _ _ us hl => match us, hl with | [_], _ => rfl)
  have x_g__law_stem : mg "_law_stem" = some (.ref A.a__law_stem) := PySem.W.mg_of X G a__law_stem
  have x_F__law_names : Fun K "_law_names" "_law_names" s__law_names A.a__law_names A.fd__law_names := F__law_names'
  have x_b__law_names : Binds K A.fd__law_names ["source", "many"] [] := (F__law_names'.binds (ps := ["source", "many"]) fun _ _ _ _ _ _ us hl => match us, hl with | [_, _], _ => rfl)
  have x_g__law_names : mg "_law_names" = some (.ref A.a__law_names) := PySem.W.mg_of X G a__law_names
  have x_F__law_refused : Fun K "_law_refused" "_law_refused" s__law_refused A.a__law_refused A.fd__law_refused := F__law_refused'
  have x_b__law_refused : Binds K A.fd__law_refused ["call"] [] := (F__law_refused'.binds (ps := ["call"]) fun _ _ _ _ _ _ us hl => match us, hl with | [_], _ => rfl)
  have x_g__law_refused : mg "_law_refused" = some (.ref A.a__law_refused) := PySem.W.mg_of X G a__law_refused
  have x_cd_law : A.fd_law.code = .ref A.c_law := rfl
  have x_F_law : Fun K "law" "law" s_law A.a_law A.fd_law := F_law'
  have x_b_law : Binds K A.fd_law ["script"] [] := (F_law'.binds (ps := ["script"]) fun _ _ _ _ _ _ us hl => match us, hl with | [_], _ => rfl)
  have x_g_law : mg "law" = some (.ref A.a_law) := PySem.W.mg_of X G a_law
  have x_m_ValueError : mg "ValueError" = none := PySem.W.mg_none_of X G mm_ValueError
  have x_m_all : mg "all" = none := PySem.W.mg_none_of X G mm_all
  have x_m_bool : mg "bool" = none := PySem.W.mg_none_of X G mm_bool
  have x_m_int : mg "int" = none := PySem.W.mg_none_of X G mm_int
  have x_m_isinstance : mg "isinstance" = none := PySem.W.mg_none_of X G mm_isinstance
  have x_m_len : mg "len" = none := PySem.W.mg_none_of X G mm_len
  have x_m_list : mg "list" = none := PySem.W.mg_none_of X G mm_list
  have x_m_range : mg "range" = none := PySem.W.mg_none_of X G mm_range
  have x_m_repr : mg "repr" = none := PySem.W.mg_none_of X G mm_repr
  have x_m_str : mg "str" = none := PySem.W.mg_none_of X G mm_str
  have x_c_LETTERS : ∃ t, mg "LETTERS" = some (.str "abcdefghijklmnopqrstuvwxyz" t) := ⟨_, PySem.W.mg_of X G q_LETTERS⟩
  have x_c_MOST_LETTERS : ∃ t, mg "MOST_LETTERS" = some (.int 8 t) := ⟨_, PySem.W.mg_of X G q_MOST_LETTERS⟩
  have x_c_MOST_STRIDE : ∃ t, mg "MOST_STRIDE" = some (.int 6 t) := ⟨_, PySem.W.mg_of X G q_MOST_STRIDE⟩
  have x_c_MOST_OFFSET : ∃ t, mg "MOST_OFFSET" = some (.int 9 t) := ⟨_, PySem.W.mg_of X G q_MOST_OFFSET⟩
  have T : Tx PRG A K mg := { er_InvalidNumber := x_er_InvalidNumber, er_InvalidName := x_er_InvalidName, er_InvalidRef := x_er_InvalidRef, g_WidthError := x_g_WidthError, xc_InvalidName := x_xc_InvalidName, xc_InvalidNumber := x_xc_InvalidNumber, ks_InvalidNumber_WidthError := x_ks_InvalidNumber_WidthError, ks_InvalidName_WidthError := x_ks_InvalidName_WidthError, en_InvalidNumber_InvalidName := x_en_InvalidNumber_InvalidName, ki_InvalidName_ValueError := x_ki_InvalidName_ValueError, ki_InvalidNumber_InvalidRef := x_ki_InvalidNumber_InvalidRef, g_Line := x_g_Line, cl_Line := x_cl_Line, n_Line_kept_name := x_n_Line_kept_name, n_Line_kept_stride := x_n_Line_kept_stride, M_Line := x_M_Line, oc_Line := x_oc_Line, eq_Line := x_eq_Line, bin_Line___mul__ := x_bin_Line___mul__, binB_Line___mul__ := x_binB_Line___mul__, nft_Line_str := x_nft_Line_str, nkt_Line_str := x_nkt_Line_str, F_is_integer := x_F_is_integer, b_is_integer := x_b_is_integer, g_is_integer := x_g_is_integer, F_is_between := x_F_is_between, b_is_between := x_b_is_between, g_is_between := x_g_is_between, F_is_count := x_F_is_count, b_is_count := x_b_is_count, g_is_count := x_g_is_count, F_is_name := x_F_is_name, b_is_name := x_b_is_name, g_is_name := x_g_is_name, F_is_offset := x_F_is_offset, b_is_offset := x_b_is_offset, g_is_offset := x_g_is_offset, F_Line___init__ := x_F_Line___init__, b_Line___init__ := x_b_Line___init__, bd_Line___init__ := x_bd_Line___init__, me_Line___init__ := x_me_Line___init__, F_Line_name := x_F_Line_name, b_Line_name := x_b_Line_name, pr_Line_name := x_pr_Line_name, F_Line_stride := x_F_Line_stride, b_Line_stride := x_b_Line_stride, pr_Line_stride := x_pr_Line_stride, F_Line___eq__ := x_F_Line___eq__, b_Line___eq__ := x_b_Line___eq__, me_Line___eq__ := x_me_Line___eq__, F_Line___mul__ := x_F_Line___mul__, b_Line___mul__ := x_b_Line___mul__, me_Line___mul__ := x_me_Line___mul__, F_Line_cell := x_F_Line_cell, b_Line_cell := x_b_Line_cell, me_Line_cell := x_me_Line_cell, F__law_begin := x_F__law_begin, b__law_begin := x_b__law_begin, g__law_begin := x_g__law_begin, F__law_draw := x_F__law_draw, b__law_draw := x_b__law_draw, g__law_draw := x_g__law_draw, F__law_pick := x_F__law_pick, b__law_pick := x_b__law_pick, g__law_pick := x_g__law_pick, F__law_mixed := x_F__law_mixed, b__law_mixed := x_b__law_mixed, g__law_mixed := x_g__law_mixed, F__law_stem := x_F__law_stem, b__law_stem := x_b__law_stem, g__law_stem := x_g__law_stem, F__law_names := x_F__law_names, b__law_names := x_b__law_names, g__law_names := x_g__law_names, F__law_refused := x_F__law_refused, b__law_refused := x_b__law_refused, g__law_refused := x_g__law_refused, cd_law := x_cd_law, F_law := x_F_law, b_law := x_b_law, g_law := x_g_law, m_ValueError := x_m_ValueError, m_all := x_m_all, m_bool := x_m_bool, m_int := x_m_int, m_isinstance := x_m_isinstance, m_len := x_m_len, m_list := x_m_list, m_range := x_m_range, m_repr := x_m_repr, m_str := x_m_str, c_LETTERS := x_c_LETTERS, c_MOST_LETTERS := x_c_MOST_LETTERS, c_MOST_STRIDE := x_c_MOST_STRIDE, c_MOST_OFFSET := x_c_MOST_OFFSET }
  refine ⟨A.fd_law, [(A.c_law, A.p_law)], sp_law A K, ?_, ?_, ?_, fun s v => .of_eq rfl, fun H a ns hl hT hS => ⟨a, ns, rfl, hS, hl, fun p hp => ?_, fun _ => rfl⟩, fun base _ _ TB => ok_law T (TB _ (List.mem_singleton.mpr rfl))⟩
  · intro p hp
    cases List.mem_singleton.mp hp
    exact own c_law P_law _ _ lce lcd lcv lcs l_law rfl rfl lc_law v11_law
  · intro p hp
    cases List.mem_singleton.mp hp
    exact nP_law
  · intro p hp
    cases List.mem_singleton.mp hp
    exact ⟨_, lcv, lcf, lct1, lcg, lct2, lcb, lcx, lct3, X _ _ lc_law, lce_law, rfl, v11_law, g11_law, g18_law, g7_law, g9_law, g10_law, ne_law⟩
  · cases List.mem_singleton.mp hp
    exact LamX.TabS.nil (hT _ (List.mem_singleton.mpr rfl))
theorem walk {q : Program} {loose : List Str} {XP : (Str → Option Value) → Heap → Prop} {YP : World → Heap → Prop} {d : DefRec} {K : Params → PySem.W.Frag} (hdf : d.params.defaults = []) (hrec : ((PyProof.Rows.recsOf q).any fun e => e.name == d.name) = true)
    (hY : ∀ (w : World) (h : Heap), YP w h → (K w.params).In h)
    (F : ∀ (w : World) (mg : Str → Option Value) (fa : Addr) (h : Heap), YP w h → (K w.params).In h → h.Ns mainGlobals mg → mg d.name = some (.ref fa) → LamX.OwnTab (K w.params) fa h → VW.LawAtG PySem.Challenge.rw_vectorwidths_k02_lines_made w (K w.params) CX0 11 63 "script" mg fa h) :
    PySem.W.WalkO q loose XP YP PySem.Challenge.rw_vectorwidths_k02_lines_made.row.toRowW d [] (fun f vs => PySem.call f vs) :=
  VW.walk_ofTG (l := PySem.Challenge.rw_vectorwidths_k02_lines_made) (n := 63) (k := 11) (x := "script") (CX := fun _ => CX0) rfl (by decide) hdf ⟨rfl, by decide, by decide⟩ hrec hY F fun _ _ _ _ _ z => z
end Law
open PySem PySem.W PyProof.Rows in
set_option maxRecDepth 100000 in
set_option maxHeartbeats 0 in
theorem PySem.Challenge.cw_vectorwidths_k02_lines_made_holds : PySem.Challenge.rw_vectorwidths_k02_lines_made.Holds := by
  w_on; o_law; k_head; (case hw => w_witness2)
  k_fill
  refine Law.walk rfl (by first | rfl | decide +kernel) (fun w h Y => by first | exact PySem.W.km_in_of Y | exact PySem.W.kIn_of Y) ?F
  case F =>
    intro w mg fa h Y KX G hmg own
    refine' Law.all_mk KX G hmg own ?opq0 ?sup0 ?nsup0 ?aC_InvalidNumber ?xL_InvalidNumber ?rf_InvalidNumber ?sa_InvalidNumber ?ga_InvalidNumber ?gg_InvalidNumber ?nb_InvalidNumber ?ai_InvalidNumber ?ti_InvalidNumber ?li_InvalidNumber ?ci_InvalidNumber ?ld_InvalidNumber ?vs2_InvalidNumber ?hf_InvalidNumber ?lc_InvalidNumber ?ev_InvalidNumber ?kC_InvalidNumber ?eC_InvalidNumber ?vC_InvalidNumber ?tC_InvalidNumber ?hC_InvalidNumber ?iC_InvalidNumber ?sC_InvalidNumber ?me_InvalidNumber ?al_InvalidNumber ?aC_InvalidName ?xL_InvalidName ?rf_InvalidName ?sa_InvalidName ?ga_InvalidName ?gg_InvalidName ?nb_InvalidName ?ai_InvalidName ?ti_InvalidName ?li_InvalidName ?ci_InvalidName ?ld_InvalidName ?vs2_InvalidName ?hf_InvalidName ?lc_InvalidName ?ev_InvalidName ?kC_InvalidName ?eC_InvalidName ?vC_InvalidName ?tC_InvalidName ?hC_InvalidName ?iC_InvalidName ?sC_InvalidName ?me_InvalidName ?al_InvalidName ?aC_InvalidRef ?xL_InvalidRef ?rf_InvalidRef ?sa_InvalidRef ?ga_InvalidRef ?gg_InvalidRef ?nb_InvalidRef ?ai_InvalidRef ?ti_InvalidRef ?li_InvalidRef ?ci_InvalidRef ?ld_InvalidRef ?vs2_InvalidRef ?hf_InvalidRef ?lc_InvalidRef ?ev_InvalidRef ?kC_InvalidRef ?eC_InvalidRef ?vC_InvalidRef ?tC_InvalidRef ?hC_InvalidRef ?iC_InvalidRef ?sC_InvalidRef ?me_InvalidRef ?al_InvalidRef ?aC_WidthError ?xa_InvalidName ?xn_InvalidName ?xt_InvalidName ?xm_InvalidName ?xa_InvalidNumber ?xn_InvalidNumber ?xt_InvalidNumber ?xm_InvalidNumber ?ko_InvalidNumber_WidthError ?ko_InvalidName_WidthError ?sn_InvalidNumber_InvalidName ?kk_InvalidName_ValueError ?kk_InvalidNumber_InvalidRef ?aC_Line ?pg_Line ?hd_Line ?po_Line ?sa_Line ?nf_Line_kept_name ?nf_Line_kept_stride ?mk_Line ?kc_Line ?ic_Line ?in_Line ?ik_Line ?im_Line ?iq0_Line ?iq1_Line ?iq2_Line ?iq3_Line ?iq4_Line ?iq5_Line ?ne_Line ?sf_Line___mul__ ?rv_Line___mul__ ?t1_Line___mul__ ?t2_Line___mul__ ?sb_Line___mul__ ?u1_Line___mul__ ?u2_Line___mul__ ?uB_Line___mul__ ?nf_Line_str ?nk_Line_str ?a_is_integer ?l_is_integer ?c_is_integer ?k_is_integer ?a_is_between ?l_is_between ?c_is_between ?k_is_between ?a_is_count ?l_is_count ?c_is_count ?k_is_count ?a_is_name ?l_is_name ?c_is_name ?k_is_name ?a_is_offset ?l_is_offset ?c_is_offset ?k_is_offset ?a_Line___init__ ?i_Line___init__ ?l_Line___init__ ?c_Line___init__ ?k_Line___init__ ?ld_Line___init__ ?lv_Line___init__ ?ap_Line_name ?gp_Line_name ?tp_Line_name ?rp_Line_name ?l_Line_name ?c_Line_name ?k_Line_name ?ap_Line_stride ?gp_Line_stride ?tp_Line_stride ?rp_Line_stride ?l_Line_stride ?c_Line_stride ?k_Line_stride ?a_Line___eq__ ?i_Line___eq__ ?l_Line___eq__ ?c_Line___eq__ ?k_Line___eq__ ?a_Line___mul__ ?i_Line___mul__ ?l_Line___mul__ ?c_Line___mul__ ?k_Line___mul__ ?a_Line_cell ?i_Line_cell ?l_Line_cell ?c_Line_cell ?k_Line_cell ?a__law_begin ?l__law_begin ?c__law_begin ?k__law_begin ?a__law_draw ?l__law_draw ?c__law_draw ?k__law_draw ?a__law_pick ?l__law_pick ?c__law_pick ?k__law_pick ?a__law_mixed ?l__law_mixed ?c__law_mixed ?k__law_mixed ?a__law_stem ?l__law_stem ?c__law_stem ?k__law_stem ?a__law_names ?l__law_names ?c__law_names ?k__law_names ?a__law_refused ?l__law_refused ?c__law_refused ?k__law_refused ?a_law ?l_law ?cc0_law ?k_law ?lc_law ?lce_law ?v11_law ?g11_law ?g18_law ?g7_law ?g9_law ?g10_law ?nP_law ?ne_law ?mm_ValueError ?mm_all ?mm_bool ?mm_int ?mm_isinstance ?mm_len ?mm_list ?mm_range ?mm_repr ?mm_str ?q_LETTERS ?q_MOST_LETTERS ?q_MOST_STRIDE ?q_MOST_OFFSET
    (case opq0 => k_is)
    (case sup0 => k_is)
    (case nsup0 => first | rfl | decide +kernel)
    (case aC_InvalidNumber => k_is)
    (case xL_InvalidNumber => k_is)
    (case rf_InvalidNumber => decide +kernel)
    (case sa_InvalidNumber => k_is)
    (case ga_InvalidNumber => k_is)
    (case gg_InvalidNumber => k_is)
    (case nb_InvalidNumber => k_is)
    (case ai_InvalidNumber => k_is)
    (case ti_InvalidNumber => k_is)
    (case li_InvalidNumber => k_is)
    (case ci_InvalidNumber => k_is)
    (case ld_InvalidNumber => k_is)
    (case vs2_InvalidNumber => rfl)
    (case hf_InvalidNumber => first | rfl | decide +kernel)
    (case lc_InvalidNumber => k_is)
    (case ev_InvalidNumber => exact fun env => ⟨_, rfl⟩)
    (case kC_InvalidNumber => k_is)
    (case eC_InvalidNumber => k_is)
    (case vC_InvalidNumber => k_is)
    (case tC_InvalidNumber => k_is)
    (case hC_InvalidNumber => k_is)
    (case iC_InvalidNumber => k_is)
    (case sC_InvalidNumber => first | rfl | k_is)
    (case me_InvalidNumber => first | k_is | rfl)
    (case al_InvalidNumber => ks_is)
    (case aC_InvalidName => k_is)
    (case xL_InvalidName => k_is)
    (case rf_InvalidName => decide +kernel)
    (case sa_InvalidName => k_is)
    (case ga_InvalidName => k_is)
    (case gg_InvalidName => k_is)
    (case nb_InvalidName => k_is)
    (case ai_InvalidName => k_is)
    (case ti_InvalidName => k_is)
    (case li_InvalidName => k_is)
    (case ci_InvalidName => k_is)
    (case ld_InvalidName => k_is)
    (case vs2_InvalidName => rfl)
    (case hf_InvalidName => first | rfl | decide +kernel)
    (case lc_InvalidName => k_is)
    (case ev_InvalidName => exact fun env => ⟨_, rfl⟩)
    (case kC_InvalidName => k_is)
    (case eC_InvalidName => k_is)
    (case vC_InvalidName => k_is)
    (case tC_InvalidName => k_is)
    (case hC_InvalidName => k_is)
    (case iC_InvalidName => k_is)
    (case sC_InvalidName => first | rfl | k_is)
    (case me_InvalidName => first | k_is | rfl)
    (case al_InvalidName => ks_is)
    (case aC_InvalidRef => k_is)
    (case xL_InvalidRef => k_is)
    (case rf_InvalidRef => decide +kernel)
    (case sa_InvalidRef => k_is)
    (case ga_InvalidRef => k_is)
    (case gg_InvalidRef => k_is)
    (case nb_InvalidRef => k_is)
    (case ai_InvalidRef => k_is)
    (case ti_InvalidRef => k_is)
    (case li_InvalidRef => k_is)
    (case ci_InvalidRef => k_is)
    (case ld_InvalidRef => k_is)
    (case vs2_InvalidRef => rfl)
    (case hf_InvalidRef => first | rfl | decide +kernel)
    (case lc_InvalidRef => k_is)
    (case ev_InvalidRef => exact fun env => ⟨_, rfl⟩)
    (case kC_InvalidRef => k_is)
    (case eC_InvalidRef => k_is)
    (case vC_InvalidRef => k_is)
    (case tC_InvalidRef => k_is)
    (case hC_InvalidRef => k_is)
    (case iC_InvalidRef => k_is)
    (case sC_InvalidRef => first | rfl | k_is)
    (case me_InvalidRef => first | k_is | rfl)
    (case al_InvalidRef => ks_is)
    (case aC_WidthError => k_is)
    (case xa_InvalidName => k_is)
    (case xn_InvalidName => k_is)
    (case xt_InvalidName => k_is)
    (case xm_InvalidName => k_is)
    (case xa_InvalidNumber => k_is)
    (case xn_InvalidNumber => k_is)
    (case xt_InvalidNumber => k_is)
    (case xm_InvalidNumber => k_is)
    (case ko_InvalidNumber_WidthError => first | k_is | rfl | kernel_rfl)
    (case ko_InvalidName_WidthError => first | k_is | rfl | kernel_rfl)
    (case sn_InvalidNumber_InvalidName => k_is)
    (case kk_InvalidName_ValueError => first | k_is | rfl | kernel_rfl)
    (case kk_InvalidNumber_InvalidRef => first | k_is | rfl | kernel_rfl)
    (case aC_Line => k_is)
    (case pg_Line => k_is)
    (case hd_Line => k_is)
    (case po_Line => k_is)
    (case sa_Line => k_is)
    (case nf_Line_kept_name => k_is)
    (case nf_Line_kept_stride => k_is)
    (case mk_Line => k_is)
    (case kc_Line => k_is)
    (case ic_Line => k_is)
    (case in_Line => k_is)
    (case ik_Line => k_is)
    (case im_Line => k_is)
    (case iq0_Line => first | k_is | rfl | kernel_rfl)
    (case iq1_Line => first | k_is | rfl | kernel_rfl)
    (case iq2_Line => first | k_is | rfl | kernel_rfl)
    (case iq3_Line => first | k_is | rfl | kernel_rfl)
    (case iq4_Line => first | k_is | rfl | kernel_rfl)
    (case iq5_Line => first | k_is | rfl | kernel_rfl)
    (case ne_Line => k_is)
    (case sf_Line___mul__ => k_is)
    (case rv_Line___mul__ => k_is)
    (case t1_Line___mul__ => k_is)
    (case t2_Line___mul__ => k_is)
    (case sb_Line___mul__ => k_is)
    (case u1_Line___mul__ => k_is)
    (case u2_Line___mul__ => k_is)
    (case uB_Line___mul__ => k_is)
    (case nf_Line_str => first | k_is | rfl | decide +kernel | kernel_rfl)
    (case nk_Line_str => first | k_is | rfl | kernel_rfl)
    (case a_is_integer => k_is)
    (case l_is_integer => k_is)
    (case c_is_integer => k_is)
    (case k_is_integer => k_is)
    (case a_is_between => k_is)
    (case l_is_between => k_is)
    (case c_is_between => k_is)
    (case k_is_between => k_is)
    (case a_is_count => k_is)
    (case l_is_count => k_is)
    (case c_is_count => k_is)
    (case k_is_count => k_is)
    (case a_is_name => k_is)
    (case l_is_name => k_is)
    (case c_is_name => k_is)
    (case k_is_name => k_is)
    (case a_is_offset => k_is)
    (case l_is_offset => k_is)
    (case c_is_offset => k_is)
    (case k_is_offset => k_is)
    (case a_Line___init__ => k_is)
    (case i_Line___init__ => k_is)
    (case l_Line___init__ => k_is)
    (case c_Line___init__ => k_is)
    (case k_Line___init__ => k_is)
    (case ld_Line___init__ => k_is)
    (case lv_Line___init__ => rfl)
    (case ap_Line_name => k_is)
    (case gp_Line_name => k_is)
    (case tp_Line_name => k_is)
    (case rp_Line_name => k_is)
    (case l_Line_name => k_is)
    (case c_Line_name => k_is)
    (case k_Line_name => k_is)
    (case ap_Line_stride => k_is)
    (case gp_Line_stride => k_is)
    (case tp_Line_stride => k_is)
    (case rp_Line_stride => k_is)
    (case l_Line_stride => k_is)
    (case c_Line_stride => k_is)
    (case k_Line_stride => k_is)
    (case a_Line___eq__ => k_is)
    (case i_Line___eq__ => k_is)
    (case l_Line___eq__ => k_is)
    (case c_Line___eq__ => k_is)
    (case k_Line___eq__ => k_is)
    (case a_Line___mul__ => k_is)
    (case i_Line___mul__ => k_is)
    (case l_Line___mul__ => k_is)
    (case c_Line___mul__ => k_is)
    (case k_Line___mul__ => k_is)
    (case a_Line_cell => k_is)
    (case i_Line_cell => k_is)
    (case l_Line_cell => k_is)
    (case c_Line_cell => k_is)
    (case k_Line_cell => k_is)
    (case a__law_begin => k_is)
    (case l__law_begin => k_is)
    (case c__law_begin => k_is)
    (case k__law_begin => k_is)
    (case a__law_draw => k_is)
    (case l__law_draw => k_is)
    (case c__law_draw => k_is)
    (case k__law_draw => k_is)
    (case a__law_pick => k_is)
    (case l__law_pick => k_is)
    (case c__law_pick => k_is)
    (case k__law_pick => k_is)
    (case a__law_mixed => k_is)
    (case l__law_mixed => k_is)
    (case c__law_mixed => k_is)
    (case k__law_mixed => k_is)
    (case a__law_stem => k_is)
    (case l__law_stem => k_is)
    (case c__law_stem => k_is)
    (case k__law_stem => k_is)
    (case a__law_names => k_is)
    (case l__law_names => k_is)
    (case c__law_names => k_is)
    (case k__law_names => k_is)
    (case a__law_refused => k_is)
    (case l__law_refused => k_is)
    (case c__law_refused => k_is)
    (case k__law_refused => k_is)
    (case a_law => k_is)
    (case l_law => k_is)
    (case cc0_law => k_is)
    (case k_law => k_is)
    (case lc_law => k_is)
    (case lce_law => rfl)
    (case v11_law => rfl)
    (case g11_law => rfl)
    (case g18_law => rfl)
    (case g7_law => rfl)
    (case g9_law => rfl)
    (case g10_law => rfl)
    (case nP_law => first | rfl | k_is | kernel_rfl)
    (case ne_law => decide)
    (case mm_ValueError => k_is)
    (case mm_all => k_is)
    (case mm_bool => k_is)
    (case mm_int => k_is)
    (case mm_isinstance => k_is)
    (case mm_len => k_is)
    (case mm_list => k_is)
    (case mm_range => k_is)
    (case mm_repr => k_is)
    (case mm_str => k_is)
    (case q_LETTERS => k_is)
    (case q_MOST_LETTERS => k_is)
    (case q_MOST_STRIDE => k_is)
    (case q_MOST_OFFSET => k_is)
