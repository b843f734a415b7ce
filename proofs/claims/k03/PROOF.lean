import PyProof.Rows.All
import Wide.All
import OpenK.AllK
import Wide.FinOn
import HandS.ForMost
import HandS.ForExc
import HandS.ExcSuper
import HandS.ExcField
import HandS.Property
import HandS.SlotsOwn
import HandS.Deep
import HandS.Defaults
import KE.KExcSuper
import KE.KOpsOwn
import HandS.IsInst
import HandS.Style
import HandS.Wide
import HandS.Walk
import HandS.RaiseMore
import HandS.Codes
import PySem.Challenge.RW_vectorwidths_k03_whole_distances
set_option Elab.async false
set_option linter.all false
set_option maxRecDepth 100000
set_option maxHeartbeats 4000000
/-! what all laws share: kinds of values, the drawn source, the frame of it -/
namespace VW
open PySem PySem.Spec PyProof.Rows L2
theorem bb_len : bootBuiltins "len" = some (.builtin "len") := by decide +kernel
theorem bb_isinstance : bootBuiltins "isinstance" = some (.builtin "isinstance") := by decide +kernel
theorem bb_all : bootBuiltins "all" = some (.builtin "all") := by decide +kernel
theorem bb_any : bootBuiltins "any" = some (.builtin "any") := by decide +kernel
theorem bb_repr : bootBuiltins "repr" = some (.builtin "repr") := by decide +kernel
theorem bb_abs : bootBuiltins "abs" = some (.builtin "abs") := by decide +kernel
theorem bb_min : bootBuiltins "min" = some (.builtin "min") := by decide +kernel
theorem bb_max : bootBuiltins "max" = some (.builtin "max") := by decide +kernel
theorem bb_sorted : bootBuiltins "sorted" = some (.builtin "sorted") := by decide +kernel
theorem bb_sum : bootBuiltins "sum" = some (.builtin "sum") := by decide +kernel
theorem bb_int : bootBuiltins "int" = some (.type "int") := by decide +kernel
theorem bb_str : bootBuiltins "str" = some (.type "str") := by decide +kernel
theorem bb_bool : bootBuiltins "bool" = some (.type "bool") := by decide +kernel
theorem bb_tuple : bootBuiltins "tuple" = some (.type "tuple") := by decide +kernel
theorem bb_list : bootBuiltins "list" = some (.type "list") := by decide +kernel
theorem bb_dict : bootBuiltins "dict" = some (.type "dict") := by decide +kernel
theorem bb_ValueError : bootBuiltins "ValueError" = some (.type "ValueError") := by decide +kernel

/-! ### kinds -/
inductive Kd where
  | non | bl | int | str | lst | tup | dct | own
  deriving DecidableEq
def Kd.ty : Kd → String
  | .non => "NoneType" | .bl => "bool" | .int => "int" | .str => "str" | .lst => "list" | .tup => "tuple" | .dct => "dict" | .own => "?"
def isk (k : Kd) (T : String) : Bool := decide (k.ty = T) || (decide (k = .bl) && decide (T = "int"))
abbrev TS6 : List String := ["int", "bool", "str", "tuple", "list", "dict"]
/-- an own class whose instances are told apart from the built-in ones -/
structure OwnC (K : PySem.W.Frag) (C : Addr) : Prop where
  cl : Cls K C
  ha : PySem.W.findIn K (.ref C) "__class__" = some (some (.builtin "object.__class__"))
  hn : PySem.W.specialIn K (.builtin "object.__class__") "__get__" = some (some (.builtin "getset_descriptor.__get__"))
  htk : PySem.W.takesIn K (.builtin "object.__class__") = some true
  hm : PySem.W.mroIn K C (.type "object") = some true
  k1 : PySem.W.kitOne K (.ref C) (.type "int") = some false
  k2 : PySem.W.kitOne K (.ref C) (.type "bool") = some false
  k3 : PySem.W.kitOne K (.ref C) (.type "str") = some false
  k4 : PySem.W.kitOne K (.ref C) (.type "tuple") = some false
  k5 : PySem.W.kitOne K (.ref C) (.type "list") = some false
  k6 : PySem.W.kitOne K (.ref C) (.type "dict") = some false
inductive Kn (K : PySem.W.Frag) (H : Hp) : V → Kd → Prop
  | non : Kn K H .non .non
  | bl (b : Bool) : Kn K H (.bl b) .bl
  | int (i : Int) : Kn K H (.int i) .int
  | str {z : Str} (h : z.length ≤ sizeLine) : Kn K H (.str z) .str
  | lst {a : Addr} {xs : List V} (h : SqL K H a xs) : Kn K H (.ref a) .lst
  | tup {a : Addr} {xs : List V} (h : SqT K H a xs) : Kn K H (.ref a) .tup
  | dct {a : Addr} {kvs : List (L2.Key × V)} (h : H a = some (.dK kvs)) : Kn K H (.ref a) .dct
  | own {a C dx : Addr} {fs : List (Str × V)} (h : H a = some (.ins C dx fs)) (c : OwnC K C) : Kn K H (.ref a) .own
theorem same_t {K : PySem.W.Frag} {H H' : Hp} {a : Addr} {xs : List V} (e : Same H H') (h : SqT K H a xs) : SqT K H' a xs := by
  rcases h with (h | ⟨o, h⟩) | h
  · exact .inl (.inl (e _ _ h))
  · exact .inl (.inr ⟨o, e _ _ h⟩)
  · exact .inr h
theorem Kn.same {K : PySem.W.Frag} {H H' : Hp} {v : V} {k : Kd} (e : Same H H') (h : Kn K H v k) : Kn K H' v k := by
  cases h with
  | non => exact .non
  | bl b => exact .bl b
  | int i => exact .int i
  | str h => exact .str h
  | lst h => exact .lst (e.seq h)
  | tup h => exact .tup (same_t e h)
  | dct h => exact .dct (e _ _ h)
  | own h c => exact .own (e _ _ h) c
theorem Kn.ty {K : PySem.W.Frag} {H : Hp} {v : V} {k : Kd} (h : Kn K H v k) : ∃ t, TyX K H v t ∧ ∀ T ∈ TS6, PySem.W.kitOne K t (.type T) = some (isk k T) := by
  have kb : ∀ (k : Kd), k ≠ .own → ∀ T ∈ TS6, PySem.W.kitOne K (.type k.ty) (.type T) = some (isk k T) := by
    intro k hk T hT
    refine kit_ty ?_
    simp only [TS6, List.mem_cons, List.not_mem_nil, or_false] at hT
    cases k with
    | own => exact absurd rfl hk
    | _ => rcases hT with rfl | rfl | rfl | rfl | rfl | rfl <;> decide +kernel
  cases h with
  | non => exact ⟨_, .base .non, kb .non (by decide)⟩
  | bl b => exact ⟨_, .base (.bl b), kb .bl (by decide)⟩
  | int i => exact ⟨_, .base (.int i), kb .int (by decide)⟩
  | str h => exact ⟨_, .base (.str _), kb .str (by decide)⟩
  | lst h =>
    rcases h with (h | ⟨o, h⟩) | ⟨o, _, _, h, c, _⟩
    · exact ⟨_, .base (.lst h), kb .lst (by decide)⟩
    · exact ⟨_, .base (.frz h), kb .lst (by decide)⟩
    · exact ⟨_, .kList h c, kb .lst (by decide)⟩
  | tup h =>
    rcases h with (h | ⟨o, h⟩) | ⟨o, _, _, h, c, _⟩
    · exact ⟨_, .base (.tup h), kb .tup (by decide)⟩
    · exact ⟨_, .fTuple h, kb .tup (by decide)⟩
    · exact ⟨_, .kTuple h c, kb .tup (by decide)⟩
  | dct h => exact ⟨_, .base (.dK h), kb .dct (by decide)⟩
  | own h c =>
    refine ⟨_, .base (.ins h c.cl c.ha c.hn c.htk c.hm), fun T hT => ?_⟩
    simp only [TS6, List.mem_cons, List.not_mem_nil, or_false] at hT
    rcases hT with rfl | rfl | rfl | rfl | rfl | rfl
    · exact c.k1
    · exact c.k2
    · exact c.k3
    · exact c.k4
    · exact c.k5
    · exact c.k6
/-- isinstance(v, T) -/
theorem rd_isi {K : PySem.W.Frag} {H : Hp} {v : V} {k : Kd} {T : String} {Q : VK} (h : Kn K H v k) (q : Q (.bl (isk k T)) H) (hT : T ∈ TS6 := by decide) : rIsi K [v, .ty T] H Q := by
  obtain ⟨t, h1, h2⟩ := h.ty
  exact ⟨v, .ty T, t, .type T, _, rfl, .ty T, h1, h2 T hT, q⟩

/-! ### names, refs -/
abbrev LET : Str := "abcdefghijklmnopqrstuvwxyz"
def isLet (c : Nat) : Bool := decide (c ∈ LET.cps.toList)
def isNm (z : Str) : Bool := decide (1 ≤ z.length) && decide (z.length ≤ 8) && z.cps.toList.all isLet
def nmV : V → Bool
  | .str z => isNm z
  | _ => false
def btw (v : V) (lo hi : Int) : Bool := match v with
  | .int i => decide (lo ≤ i) && decide (i ≤ hi)
  | _ => false
theorem Kn.notInt {K : PySem.W.Frag} {H : Hp} {v : V} {k : Kd} (h : Kn K H v k) (n : k ≠ .int) (lo hi : Int) : btw v lo hi = false := by
  cases h <;> first | rfl | exact absurd rfl n
theorem Kn.notStr {K : PySem.W.Frag} {H : Hp} {v : V} {k : Kd} (h : Kn K H v k) (n : k ≠ .str) : nmV v = false := by
  cases h <;> first | rfl | exact absurd rfl n
/-- whether it is a ref -/
inductive RefIs (K : PySem.W.Frag) (H : Hp) : V → Bool → Prop
  | not {v : V} {k : Kd} (h : Kn K H v k) (n : k ≠ .tup) : RefIs K H v false
  | len {a : Addr} {xs : List V} (h : SqT K H a xs) (n : xs.length ≠ 2) : RefIs K H (.ref a) false
  | two {a : Addr} {x y : V} {kx ky : Kd} (h : SqT K H a [x, y]) (hx : Kn K H x kx) (hy : Kn K H y ky) : RefIs K H (.ref a) (nmV x && btw y (-9) 9)
theorem RefIs.same {K : PySem.W.Frag} {H H' : Hp} {v : V} {b : Bool} (e : Same H H') (h : RefIs K H v b) : RefIs K H' v b := by
  cases h with
  | not h n => exact .not (h.same e) n
  | len h n => exact .len (same_t e h) n
  | two h hx hy => exact .two (same_t e h) (hx.same e) (hy.same e)

/-! ### the source of draws: a list of four at s -/
def Kp (s : Addr) (H H' : Hp) : Prop := ∀ b o, H b = some o → b ≠ s → H' b = some o
theorem Kp.refl (s : Addr) (H : Hp) : Kp s H H := fun _ _ h _ => h
theorem Kp.trans {s : Addr} {H H1 H2 : Hp} (a : Kp s H H1) (b : Kp s H1 H2) : Kp s H H2 := fun c o h n => b c o (a c o h n) n
theorem Kp.of {s : Addr} {H H1 : Hp} (a : Same H H1) : Kp s H H1 := fun c o h _ => a c o h
theorem _root_.L2.Same.new {H : Hp} {p : Addr} {o : HO} (h : H p = none) : Same H (upd H p o) := fun b u e => by
  rw [upd_ne (ne_of_none e h)]
  exact e
theorem _root_.L2.Same.mut {H H' : Hp} {p : Addr} {o : HO} (e : Same H H') (h : H p = none) : Same H (upd H' p o) := fun a u ha => by
  rw [upd_ne (ne_of_none ha h)]
  exact e a u ha
theorem Kp.new {s : Addr} {H : Hp} {p : Addr} {o : HO} (h : H p = none) : Kp s H (upd H p o) := Kp.of (Same.new h)
theorem Kp.mut {s : Addr} {H H' : Hp} {p : Addr} {o : HO} (e : Kp s H H') (h : H p = none) : Kp s H (upd H' p o) := fun a u ha n => by
  rw [upd_ne (ne_of_none ha h)]
  exact e a u ha n
theorem Kp.self {s : Addr} {H : Hp} {o : HO} : Kp s H (upd H s o) := fun a u ha n => by
  rw [upd_ne n]
  exact ha
def Src (H : Hp) (s L : Addr) : Prop := ∃ (i q z : Int) (ns : List Int), H s = some (.lst [.ref L, .int i, .int q, .int z]) ∧ H L = some (.lst (ns.map V.int)) ∧ 0 ≤ i ∧ i ≤ (ns.length : Int) ∧ ns.length ≤ 63 ∧ 0 ≤ q ∧ 0 ≤ z ∧ z < 2147483647
theorem Src.at {H : Hp} {s L : Addr} (h : Src H s L) : ∃ xs, H s = some (.lst xs) := by
  obtain ⟨i, q, z, ns, h, _⟩ := h
  exact ⟨_, h⟩
theorem Src.same {H H' : Hp} {s L : Addr} (e : Same H H') (h : Src H s L) : Src H' s L := by
  obtain ⟨i, q, z, ns, h1, h2, r⟩ := h
  exact ⟨i, q, z, ns, e _ _ h1, e _ _ h2, r⟩
theorem Src.fresh {H : Hp} {s L p : Addr} (h : Src H s L) (n : H p = none) : p ≠ s ∧ p ≠ L := by
  obtain ⟨i, q, z, ns, h1, h2, r⟩ := h
  exact ⟨(ne_of_none h1 n).symm, (ne_of_none h2 n).symm⟩
theorem Src.mut {H : Hp} {s L p : Addr} {o : HO} (h : Src H s L) (n : p ≠ s ∧ p ≠ L) : Src (upd H p o) s L := by
  obtain ⟨i, q, z, ns, h1, h2, r⟩ := h
  exact ⟨i, q, z, ns, by rw [upd_ne n.1.symm]; exact h1, by rw [upd_ne n.2.symm]; exact h2, r⟩
theorem Src.new {H : Hp} {s L p : Addr} {o : HO} (h : Src H s L) (n : H p = none) : Src (upd H p o) s L := h.mut (h.fresh n)
theorem ifT {c : Bool} {A B : Prop} (hc : c = true) (h : A) : if c = true then A else B := by
  rw [if_pos hc]
  exact h
theorem ifF {c : Bool} {A B : Prop} (hc : c = false) (h : B) : if c = true then A else B := by
  rw [hc, if_neg Bool.false_ne_true]
  exact h
/-- a tuple, a text's tuple .. is not the source -/
theorem Kp.t {K : PySem.W.Frag} {s : Addr} {H H' : Hp} {a L : Addr} {xs : List V} (e : Kp s H H') (S : Src H s L) (h : SqT K H a xs) : SqT K H' a xs := by
  obtain ⟨ys, hs⟩ := S.at
  rcases h with (h | ⟨o, h⟩) | h
  · exact .inl (.inl (e _ _ h (ne_of h hs (by intro z; cases z))))
  · exact .inl (.inr ⟨o, e _ _ h (ne_of h hs (by intro z; cases z))⟩)
  · exact .inr h
theorem Kp.l {K : PySem.W.Frag} {s : Addr} {H H' : Hp} {a : Addr} {xs : List V} (e : Kp s H H') (n : a ≠ s) (h : SqL K H a xs) : SqL K H' a xs := by
  rcases h with (h | ⟨o, h⟩) | h
  · exact .inl (.inl (e _ _ h n))
  · exact .inl (.inr ⟨o, e _ _ h n⟩)
  · exact .inr h
theorem sz_of {n : Nat} (h : n ≤ 100000) : n ≤ sizeLine := Nat.le_trans h (by decide)
theorem sz_lt {n : Nat} (h : n < 100000) : n < sizeLine := Nat.lt_of_lt_of_le h (by decide)
theorem big_of {n : Nat} (h : n ≤ 100000) : (n : Int) < 2 ^ 200 := by
  have : (2 : Int) ^ 200 > 100000 := by decide
  omega
theorem e18 : (10 : Int) ^ (18 : Int).toNat = 1000000000000000000 := by decide
/-- repr of a truth value -/
theorem call_repr_bl {X : Cx} : CallR X (.builtin "repr") (fun xs H Q => ∃ b, xs = [.bl b] ∧ Q (.str (if b then "True" else "False")) H) := by
  intro pins s σ H xs us Q I r h
  obtain ⟨b, rfl, q⟩ := h
  obtain ⟨u, rfl, r1⟩ := vals1 r
  cases (show u = Value.bool b from r1)
  exact PySem.P.repr_of_bool ⟨.str _, H, I.tok _, ⟨_, rfl⟩, q⟩
end VW
namespace VW
open PySem PySem.Spec PyProof.Rows L2
def cntV : V → Bool
  | .int i => decide (0 ≤ i)
  | _ => false
theorem Kn.notCnt {K : PySem.W.Frag} {H : Hp} {v : V} {k : Kd} (h : Kn K H v k) (n : k ≠ .int) : cntV v = false := by
  cases h <;> first | rfl | exact absurd rfl n
theorem take_succ_of {α : Type} {l : List α} {i : Nat} {x : α} (h : l[i]? = some x) : l.take (i + 1) = l.take i ++ [x] := by
  rw [List.take_succ, h]
  rfl
theorem src_ne (ns : List Int) (L : Addr) (i q z : Int) : HO.lst (ns.map V.int) ≠ HO.lst [V.ref L, .int i, .int q, .int z] := by
  intro e
  injection e with e
  cases ns with
  | nil => cases e
  | cons n r =>
    rw [List.map_cons] at e
    injection e with e1 _
    cases e1
end VW
namespace VW
open PySem PySem.Spec PyProof.Rows L2
theorem dp_signs {K : PySem.W.Frag} {H : Hp} : ∀ cs : List Nat, DpAll K H (cs.map fun c => V.str ⟨#[c]⟩) (cs.map fun c => PyData.str ⟨#[c]⟩)
  | [] => .nil
  | _ :: r => .cons (.str _) (dp_signs r)
theorem shaped_signs (cs : List Nat) (h : ∀ c ∈ cs, c < 128) : SeqAt.shaped (.list (cs.map fun c => PyData.str ⟨#[c]⟩)) = true := by
  have e1 : ∀ cs : List Nat, (∀ c ∈ cs, c < 128) → PyData.canLayAll0 (cs.map fun c => PyData.str ⟨#[c]⟩) = true := by
    intro cs
    induction cs with
    | nil => intro _; rfl
    | cons c r ih =>
      intro h
      have hc := h c (List.mem_cons_self ..)
      have hr := ih fun x hx => h x (List.mem_cons_of_mem _ hx)
      have hs : PyData.strOk ⟨#[c]⟩ = true := by
        simp [PyData.strOk]
        omega
      simp only [List.map_cons, PyData.canLayAll0, PyData.canLay0, hs, hr, Bool.and_self]
  have e2 : ∀ cs : List Nat, PyData.depthAll (cs.map fun c => PyData.str ⟨#[c]⟩) = 0 := by
    intro cs
    induction cs with
    | nil => rfl
    | cons c r ih => simpa [PyData.depthAll, PyData.depth] using ih
  unfold SeqAt.shaped
  simp [PyData.canLay0, PyData.depth, e1 cs h, e2]
end VW
namespace VW
open PySem PySem.Spec PyProof.Rows L2
/-- an error of the class at S is what «except S» names -/
theorem exm_self {K : PySem.W.Frag} {S : Addr} (h1 : PySem.W.subIn K (.ref S) (.type "BaseException") = some true) (h2 : PySem.W.isClsIn K S = true) (h3 : PySem.W.typeIn K (.ref S) = some (.type "type")) (h4 : PySem.W.subIn K (.ref S) (.ref S) = some true) :
    PySem.W.exmOne K (.ref S) (.ref S) = some true := by
  have e1 : (PySem.W.subIn K (.ref S) (.type "BaseException") == some true) = true := by rw [h1] <;> rfl
  have e2 : ((PySem.W.clsIn K S).isSome && PySem.W.typeIn K (.ref S) == some (.type "type")) = true := by
    have h2' : (PySem.W.clsIn K S).isSome = true := h2
    rw [h2', h3] <;> rfl
  show (if (PySem.W.subIn K (.ref S) (.type "BaseException") == some true) = true then (if ((PySem.W.clsIn K S).isSome && PySem.W.typeIn K (.ref S) == some (.type "type")) = true then PySem.W.subIn K (.ref S) (.ref S) else none) else none) = some true
  rw [if_pos e1, if_pos e2]
  exact h4
end VW

/-! an own error over ValueError whose __init__ says super().__init__('..'); self.f = f: made and raised -/
namespace PySem
namespace ErX
open PySem.W PySem.Calls PyProof.Rows PySem.HandSPX
def iA (f : Str) (p1 p2 : Pos) : Arguments := { posonlyargs := [], args := [{ arg := "self", annotation := none, pos := p1 }, { arg := f, annotation := none, pos := p2 }], vararg := none, kwonlyargs := [], kw_defaults := [], kwarg := none, defaults := [] }
def iB (f msg : Str) (q1 q2 q3 q4 q5 q6 q7 q8 q9 q10 : Pos) : List Stmt :=
  [.Expr (.Call (.Attribute (.Call (.Name "super" q1) [] [] q2) "__init__" q3) [.Constant (.str msg) 0 q4] [] q5) q6, .Assign [.Attribute (.Name "self" q7) f q8] (.Name f q9) q10]
def iS (f : Str) : Scope := { kind := .function, names := [(PySem.Str.ofString "self", .local), (f, .local), (PySem.Str.ofString "__class__", .free), (PySem.Str.ofString "super", .globalImplicit)], isGenerator := false, isCoroutine := false, more := [] }
/-- super().__init__('..') is a method's call (by the places that the text has) -/
def SupEv (msg : Str) (q1 q2 q3 q4 q5 : Pos) : Prop := ∀ env : Env, ∃ pl : Sem Bool, eval (.Call (.Attribute (.Call (.Name "super" q1) [] [] q2) "__init__" q3) [.Constant (.str msg) 0 q4] [] q5) env = (do
  let ov ← attributeBase (.Call (.Name "super" q1) [] [] q2) "__init__" env (eval (.Call (.Name "super" q1) [] [] q2) env)
  standAt q3.atName
  let (f, first) ← holding [ov] (getMethod ov "__init__" pl)
  callWith q5 f first (backTo q5 (starEach [.Constant (.str msg) 0 q4] env)) [])
/-- what stands around a call -/
structure Gd (K : Frag) (mg : Str → Option Value) (h : Heap) : Prop where
  k : K.In h
  g : h.Ns mainGlobals mg
  b : ∃ mb, h.Ns builtinsNs mb ∧ ∀ x : Str, x ≠ "__name__" → mb x = bootBuiltins x
  l : h.NoLimit
theorem Gd.keeps {K : Frag} {mg : Str → Option Value} {h h' : Heap} (G : Gd K mg h) (q : ∀ b o, h.get? b = some o → h'.get? b = some o) : Gd K mg h' :=
  ⟨G.k.keeps q, G.g.keeps q, let ⟨mb, h1, h2⟩ := G.b; ⟨mb, h1.keeps q, h2⟩, G.l.keeps q⟩
/-- what the written part says of the class at C, named nm, and of its __init__, at fI; f its one field -/
structure ErTxt (prog : Program) (K : Frag) (mg : Str → Option Value) (nm f : Str) (C fI : Addr) : Prop where
  gC : mg nm = some (.ref C)
  cls : ∃ nm q N bs bm sn sub ab col dd k0 k1 k2 k3 k5, K.lookup C = some (excClassObj nm q C N bs bm true sn sub ab col dd k0 k1 k2 k3 k5 "ValueError.__new__") ∧ refsVE bm = true
  sa : findIn K (.ref C) "__setattr__" = some (some (.builtin "object.__setattr__"))
  ga : findIn K (.ref C) "__getattribute__" = some (some (.builtin "BaseException.__getattribute__"))
  gg : findIn K (.ref C) "__getattr__" = some none
  noN : findIn K (.ref C) f = some none
  iC : findIn K (.ref C) "__init__" = some (some (.ref fI))
  tC : typeIn K (.ref fI) = some (.type "function")
  kC : keepIn K (.ref C) = true
  exC : subIn K (.ref C) (.type "BaseException") = some true
  veC : subIn K (.ref C) (.type "ValueError") = some true
  tyC : typeIn K (.ref C) = some (.type "type")
  hdC : hasDictIn K C = true
  te : exmOne K (.ref C) (.ref C) = some true
  meC : mroIn K C (.ref C) = some true
  alC : ks_superIn K C C "__init__" = some (some (.builtin "ValueError.__init__"))
  opq : nsIn K cStatics "thirdparty.any" = some none
  sup : nsIn K mainGlobals "super" = some none
  nsup : (prog.main.scope.names.lookup ("super" : Str)).isSome = false
  fn : ∃ (oc : Value) (od : Option Addr) (doc pm : Value) (an : Option Addr) (cda cc : Addr) (ct : Value) (osl : Array (Option Value)) (qual msg : Str) (p1 p2 q1 q2 q3 q4 q5 q6 q7 q8 q9 q10 : Pos) (ccl cl : Value) (cdd cld : Option Addr) (vs : Array Value) (ccs csl : Array (Option Value)) (file : Str) (tf : Tok),
    K.lookup fI = some ⟨oc, od, .func (ksFn "__init__" qual (iA f p1 p2) (iB f msg q1 q2 q3 q4 q5 q6 q7 q8 q9 q10) (iS f) .none .none doc pm an (.ref cda) ct cc), osl⟩ ∧ codeIn K (.ref cda) qual = true ∧
    K.lookup cda = some ⟨ccl, cdd, .fields vs, ccs⟩ ∧ vs[2]? = some (.str file tf) ∧ ((prog.main.file : Str) == file) = true ∧ K.lookup cc = some ⟨cl, cld, .cell (some (.ref C)), csl⟩ ∧ SupEv msg q1 q2 q3 q4 q5
theorem bb_super : bootBuiltins "super" = some (.type "super") := by decide +kernel
/-- what __init__ leaves of a fresh exception at x -/
structure InitEnd (f : Str) (h h' : Heap) (x C dx t1 : Addr) (v : Value) : Prop where
  keep : ∀ b o, b ≠ x → h.get? b = some o → h'.get? b = some o
  obj : h'.get? x = some { cls := .ref C, dict := some dx, data := .fields #[.ref t1, .none, .none, .none, .bool false, .none] }
  dbig : h.objs.size ≤ dx
  dne : dx ≠ x
  ns : h'.Ns1 dx (fun y => if y = f then some v else none)
/-- a made one -/
structure OwnMade (f : Str) (h h' : Heap) (e C d : Addr) (v : Value) : Prop where
  keep : ∀ b o, h.get? b = some o → h'.get? b = some o
  new : h.objs.size ≤ e
  obj : ∃ oe vs, h'.get? e = some oe ∧ oe.cls = .ref C ∧ oe.dict = some d ∧ oe.data = .fields vs ∧ vs[1]? = some .none
  dbig : h.objs.size ≤ d
  dne : d ≠ e
  ns : h'.Ns1 d (fun y => if y = f then some v else none)
theorem one_size (v : Value) : [v].length ≤ sizeLine := by
  rw [sizeLine_eq]
  exact (by decide : 1 ≤ 16777216)
section
variable {prog : Program} {w : World} {A : Around} {E : Value → Shared → Prop} {h : Heap} {g : Array GenState} {d : Drawn} {t : Nat} {os : OsState}
/-- the bound ValueError.__init__ called -/
theorem call_mw {nm q : Str} {C N : Addr} {bs bm : List Value} {hdct : Bool} {sn : List Str} {sub : List Value} {ab : Bool} {col : Option Bool} {dd : Option Addr} {k0 k1 k2 k3 k5 : Option Value} {u e t0 : Addr} {rest : List Value} {Q : Value → Shared → Prop}
    (hC : h.get? C = some (excClassObj nm q C N bs bm hdct sn sub ab col dd k0 k1 k2 k3 k5 "ValueError.__new__")) (he : h.get? e = some (excO C t0)) (hu : h.get? u = some (kxs_mw "ValueError.__init__" e)) (hrest : rest.length ≤ sizeLine)
    (hq : ∀ h' t1, (∀ b o, b ≠ e → h.get? b = some o → h'.get? b = some o) → h'.get? e = some (excO C t1) → Q .none ⟨h', g, d, t, os⟩) :
    wpAny (model prog w) A (call (.ref u) rest) Q E ⟨h, g, d, t, os⟩ := by
  refine wpAny_call (codeAny_of_tree ?_)
  show wpAny _ A.in1 (callAny (.ref u) ⟨rest, []⟩) _ _ _
  simp only [callAny]
  refine wpAny_bind (wpAny_load hu ?_)
  simp only [kxs_mw, show (Value.type "method-wrapper" == Value.type "method" || Value.type "method-wrapper" == Value.type "builtin_function_or_method" || Value.type "method-wrapper" == Value.type "method-wrapper") = true by decide, if_true]
  refine W.KFB.if_so (by decide) ?_
  refine wpAny_bind (ESX.check_bound F.excBase_ValueError hC he rfl ?_)
  refine wpAny_bind (wpAny_pure (wpAny_pure ?_))
  refine ⟨Code.quiet_builtin _ (by decide +kernel), codeAny_builtin F.excBase_ValueError.initEntry ?_⟩
  rw [Around.under_plainId F.excBase_ValueError.init.plain _]
  wp_walk
  refine hq _ h.objs.size (fun b o hb ho => ?_) ?_
  · rw [Heap.get?_update_other _ _ (Ne.symm hb)]
    exact Heap.get?_push_of_some _ ho
  · rw [Heap.get?_update_self _ (Heap.get?_push_of_some _ he) rfl]
    rfl
end
section
variable {prog : Program} {w : World} {A : Around} {E : Value → Shared → Prop} {R : Result → Shared → Prop} {s : Shared} {K : Frag} {mg : Str → Option Value} {nm f : Str} {C fI : Addr}
theorem er_init (T : ErTxt prog K mg nm "value" C fI) {x t0 : Addr} {v : Value} (G : Gd K mg s.heap) (hx : s.heap.get? x = some (excO C t0)) (hnx : K.lookup x = none) (hroom : A.depth < recursionLimit)
    (hq : ∀ h' tk dx t1, InitEnd "value" s.heap h' x C dx t1 v → R (.ok (.ret .none)) { s with heap := h', toks := tk }) :
    codeAny (model prog w) A (.call (.ref fI) ⟨[.ref x, v], []⟩) R s := by
  obtain ⟨oc, od, doc, pm, an, cda, cc, ct, osl, qual, msg, p1, p2, q1, q2, q3, q4, q5, q6, q7, q8, q9, q10, ccl, cl, cdd, cld, vs, ccs, csl, file, tf, ho, hcd, hcode, hvs, hfile, hcell, hev⟩ := T.fn
  obtain ⟨nm', q, N, bs, bm, sn, sub, ab, col, dd, k0, k1, k2, k3, k5, hC, hbm⟩ := T.cls
  have hcl : clsIn K C = some { name := nm', bases := bs, mro := .ref C :: bm, ns := N, qualname := q, hasDict := true, slotNames := sn, subclasses := sub, abstract := ab, collection := col, hasDel := false } := by unfold clsIn; rw [hC] <;> rfl
  refine ks_codeAny_call_defAt (fd := ksFn "__init__" qual (iA "value" p1 p2) (iB "value" msg q1 q2 q3 q4 q5 q6 q7 q8 q9 q10) (iS "value") .none .none doc pm an (.ref cda) ct cc) (body := iB "value" msg q1 q2 q3 q4 q5 q6 q7 q8 q9 q10) (binds := [("self", .ref x), ("value", v)]) hroom (G.k _ _ ho) rfl G.l (codeRec_of G.k hcd) rfl (BindsTo.of_eq (by first | rfl | with_unfolding_all rfl)) ?hce ?hlo (fun h₁ hns hk₁ => ?_) rfl rfl rfl
  case hce => exact (by decide : ∀ y ∈ (iS "value").names, y.2 ≠ .cell)
  case hlo =>
    intro y hy
    simp only [List.mem_cons, List.not_mem_nil, or_false] at hy
    rcases hy with rfl | rfl <;> rfl
  have G₁ : Gd K mg h₁ := G.keeps hk₁
  have hx₁ := hk₁ _ _ hx
  have hxL : x < s.heap.objs.size := Heap.lt_size hx
  obtain ⟨hp, ge, dr, tk, os⟩ := s
  generalize hL : hp.objs.size = L at *
  obtain ⟨mb, hmb, hbb⟩ := G₁.b
  have lself : (fun y => ([("self", Value.ref x), ("value", v)] : List (Str × Value)).reverse.lookup y) "self" = some (.ref x) := by first | rfl | with_unfolding_all rfl | kernel_rfl
  have lval : (fun y => ([("self", Value.ref x), ("value", v)] : List (Str × Value)).reverse.lookup y) "value" = some v := by first | rfl | with_unfolding_all rfl | kernel_rfl
  obtain ⟨pl, hev1⟩ := hev (callEnv (ksFn "__init__" qual (iA "value" p1 p2) (iB "value" msg q1 q2 q3 q4 q5 q6 q7 q8 q9 q10) (iS "value") .none .none doc pm an (.ref cda) ct cc) L fI)
  refine ks_wpAt_execs_cons (ks_wpAt_Expr_any (ks_wpAt_MethodCall (pl := pl) ?_ hev1))
  -- super()
  have hD1 := G₁.k _ _ hC
  refine ks_wpAt_super_base (of := ⟨oc, od, .func _, osl⟩) rfl rfl (by decide) rfl (G₁.k _ _ ho) rfl rfl rfl (G₁.k _ _ hcode) rfl hvs hfile T.nsup ?_
  refine ks_loadName_global rfl rfl (loadGlobal_builtin (env := _) G₁.g (mg_none_of G₁.k G₁.g T.sup) hmb ((hbb _ (by decide +kernel)).trans bb_super) ⟨rfl, ?_⟩)
  refine wpAny_loadName_free rfl rfl rfl ⟨_, G₁.k _ _ hcell, rfl⟩ ?_
  refine wpAny_loadName_local rfl rfl hns lself ?_
  refine ks_wpAny_isType_cls hD1 rfl ⟨rfl, ?_⟩
  refine ks_wpAny_call_super hD1 rfl hx₁ rfl (fun c e => nomatch e) (looks_mroIn G₁.k T.meC) (fun h₂ hso hk₂ => ?_)
  have G₂ : Gd K mg h₂ := G₁.keeps hk₂
  have I₂ : InstAt h₂ x (excO C t0) C none := ⟨hk₂ _ _ hx₁, rfl, rfl, trivial⟩
  have hm := T.alC
  unfold ks_superIn at hm
  rw [hcl] at hm
  refine kxs_getMethod kxs_ValueError hso (looks_opaque G₂.k T.opq) (l₀ := .ref C :: bm) ?_ rfl G₂.k hm (I₂.type.andThen (looks_subIn G₂.k T.veC)) (ks_ne G₂.k I₂ hcl) (by decide) ?_
  · exact fun A Q E s k q => wpAny_bind ((looks_clsIn G₂.k hcl) A _ E s k (wpAny_pure q))
  -- called with the text
  have hk₃ : ∀ b o, h₂.get? b = some o → (h₂.push (kxs_mw "ValueError.__init__" x)).get? b = some o := fun b o e => Heap.get?_push_of_some _ e
  have hu₃ : (h₂.push (kxs_mw "ValueError.__init__" x)).get? h₂.objs.size = some (kxs_mw "ValueError.__init__" x) := Heap.get?_push_at rfl rfl
  refine kxs_callWith (i := "ValueError.__init__") (x := x) (by first | rfl | decide) (evalArgs_plain ?_)
  refine spliced_more (wpAny_Constant_str (spliced_none ⟨hu₃, ?_⟩))
  refine call_mw (t0 := t0) (G₂.keeps hk₃ |>.k _ _ hC) (hk₃ _ _ (hk₂ _ _ hx₁)) hu₃ (one_size _) (fun h₄ t1 hk₄ hx₄ => ?_)
  have k04 : ∀ b o, b ≠ x → hp.get? b = some o → h₄.get? b = some o := fun b o hb e => hk₄ b o hb (hk₃ b o (hk₂ b o (hk₁ b o e)))
  have kw : ∀ b o, K.lookup b = some o → b ≠ x := fun b o e z => by
    rw [z, hnx] at e
    cases e
  have X₄ : K.In h₄ := fun b o e => hk₄ b o (kw b o e) ((G₂.keeps hk₃).k b o e)
  have n₄ : h₄.Ns L (fun y => ([("self", Value.ref x), ("value", v)] : List (Str × Value)).reverse.lookup y) := by
    obtain ⟨oL, es, ep, hoL, r⟩ := hns
    exact ⟨oL, es, ep, hk₄ _ _ (Nat.ne_of_gt hxL) (hk₃ _ _ (hk₂ _ _ hoL)), r⟩
  -- self.value = value
  show PySem.wpAt _ _ _ (execs _ _) _ _ _
  refine wpAt_of_wpAny ?_
  refine wpAny_execs_cons (plainObj_wpAny_Assign_Attribute ?_)
  refine ESX.ldL n₄ lval (ESX.ldL n₄ lself ?_)
  refine set_plain X₄ (ox := excO C t1) (od := none) ⟨hx₄, rfl, rfl, trivial⟩ T.sa ?_
  refine exc_osa X₄ hx₄ hcl (show refsVE (.ref C :: bm) = true from hbm) rfl T.noN (fun h₅ tk₅ dx k₅ dn dne hx₅ hn₅ => ?_)
  show wpAny _ _ (execs _ _) _ _ _
  have sz : hp.objs.size ≤ h₄.objs.size := by
    obtain ⟨oL, es, ep, hoL, r⟩ := n₄
    rw [hL]
    exact Nat.le_of_lt (Heap.lt_size hoL)
  exact wpAny_execs_nil (hq h₅ tk₅ dx t1 ⟨fun b o hb e => k₅ b o hb (k04 b o hb e), hx₅, Nat.le_trans sz dn, dne, hn₅⟩)
theorem er_made (T : ErTxt prog K mg nm "value" C fI) {v : Value} (G : Gd K mg s.heap) (hroom : A.depth + 1 < recursionLimit)
    (hq : ∀ h' tk e d, OwnMade "value" s.heap h' e C d v → R (.ok (.ret (.ref e))) { s with heap := h', toks := tk }) :
    codeAny (model prog w) A (.call (.ref C) ⟨[v], []⟩) R s := by
  obtain ⟨nm', q, N, bs, bm, sn, sub, ab, col, dd, k0, k1, k2, k3, k5, hC, hbm⟩ := T.cls
  obtain ⟨hp, g, dr, tk, os⟩ := s
  have k : ∀ b o, hp.get? b = some o → ((hp.push (kdv_tup [v])).push (excO C hp.objs.size)).get? b = some o := fun b o e => Heap.get?_push_of_some _ (Heap.get?_push_of_some _ e)
  have hget : ((hp.push (kdv_tup [v])).push (excO C hp.objs.size)).get? (hp.objs.size + 1) = some (excO C hp.objs.size) := by heap_get
  have hnx : K.lookup (hp.objs.size + 1) = none := by
    cases e : K.lookup (hp.objs.size + 1) with
    | none => rfl
    | some o =>
      have z : hp.get? (hp.objs.size + 1) = some o := G.k _ _ e
      exact absurd (Nat.lt_of_succ_lt (Heap.lt_size z)) (Nat.lt_irrefl _)
  refine call_own F.excBase_ValueError (fun X => refsVE_contains X bm hbm) (G.k _ _ hC) (looks_findIn G.k T.iC) (fun self => bind_fn G.k self T.tC) (one_size v) ?_
  refine er_init (s := ⟨(hp.push (kdv_tup [v])).push (excO C hp.objs.size), g, dr, tk, os⟩) T (G.keeps k) hget hnx ?_ fun h' tk' dx t1 ⟨k', hx, dn, dne, hns⟩ => ?_
  · show A.depth + 1 < recursionLimit
    exact hroom
  · have old : ∀ b o, hp.get? b = some o → h'.get? b = some o := fun b o e => k' b o (Nat.ne_of_lt (Nat.lt_succ_of_lt (Heap.lt_size e))) (k b o e)
    have z : hp.objs.size + 1 + 1 ≤ dx := by
      have q := dn
      first
        | (simpa only [Heap.size_push] using dn)
        | exact dn
        | (rw [Heap.size_push, Heap.size_push] at q; exact q)
    exact ⟨rfl, hq h' tk' (hp.objs.size + 1) dx ⟨old, Nat.le_succ _, ⟨_, _, hx, rfl, rfl, rfl, rfl⟩, Nat.le_trans (Nat.le_trans (Nat.le_succ _) (Nat.le_succ _)) z, dne, hns⟩⟩
end
end ErX
end PySem

/-! raising and reading an own error; methods that may raise; operators of own classes -/
namespace VW
open PySem PySem.Spec PyProof.Rows L2
abbrev ErTxt := @PySem.ErX.ErTxt
theorem relO_er {v : V} {v' : Value} (r : RelV v v') (f : Str) : RelO (List.lookup f [(("value" : Str), v)]) (if f = "value" then some v' else none) := by
  by_cases hw : f = "value"
  · subst hw
    rw [if_pos rfl]
    have q : List.lookup ("value" : Str) [(("value" : Str), v)] = some v := by simp [List.lookup]
    rw [q]
    exact r
  · rw [if_neg hw]
    have qw : (f == ("value" : Str)) = false := by simpa using hw
    have q2 : List.lookup f [(("value" : Str), v)] = none := by simp [List.lookup, qw]
    rw [q2]
    trivial
section
variable {X : Cx} {C fI : Addr} {nm : Str}
theorem gd_of {pins : List (Addr × Obj)} {σ : L2.St} {H : Hp} {s : Shared} (I : Inv X pins σ H s) : PySem.ErX.Gd X.K X.mg s.heap :=
  ⟨I.kIn, I.mod.glob.keeps I.bk, let ⟨mb, h1, h2⟩ := I.mod.blt; ⟨mb, h1.keeps I.bk, h2⟩, I.nolimit⟩
/-- nm(e) -/
def tMkEr (C : Addr) (ta : TA) : L2.St → Hp → XK → Prop := fun σ H Q => ta σ H fun vs H1 => ∃ v, vs = [v] ∧ ∀ d, H1 d = none → Q (.ref C) (some d) (upd H1 d (.xd [(("value" : Str), v)]))
theorem pmk_er {a : Expr} {ta : TA} {p pos : Pos} {k : Nat} (T : ErTxt X.prog X.K X.mg nm "value" C fI) (hr : Room k X.A) (ha : PA X [a] ta) (hg : Gl X nm) (hdb : (nm == ("__debug__" : Str)) = false := by decide)
    (he : starEach (a :: []) X.env = (false, eval a X.env) :: starEach [] X.env := by rfl) (hpl : (backTo pos (starEach [] X.env)).any (·.1) = false := by rfl) :
    PMk X (.Call (.Name nm p) [a] [] pos) (tMkEr C ta) := by
  intro pins s σ H Q I h
  refine wpAny_Call_Name_kw (ld_glob I hg T.gC ?_ hdb)
  refine PySem.W.callWith_K (h₀ := X.base) I.ok.mod.kin T.kC (thn (ha.run pos pins s σ H _ I h) fun us s1 hh => ?_) he hpl
  obtain ⟨vs, H1, I1, r1, v, ev, q1⟩ := hh
  subst ev
  refine ⟨I1.kIn, ?_⟩
  cases r1 with
  | cons rv rn =>
    rename_i v' us'
    cases rn
    show wpAny _ _ (call (.ref C) [v']) _ _ _
    have G := gd_of I1
    obtain ⟨hp, g, dr, tk, os⟩ := s1
    refine wpAny_call (PySem.ErX.er_made T G (by have := hr.dp; omega) fun h' tk' e d M => ?_)
    show MkP X pins σ Q (.ref e) ⟨h', g, dr, tk', os⟩
    obtain ⟨oe, fv, hoe, hc, hd, hdat, h1⟩ := M.obj
    have hns := M.ns
    obtain ⟨G', g1, g2⟩ := restrict h' fun b => decide (b ≠ e)
    have gk : ∀ b, b ≠ e → G'.get? b = h'.get? b := fun b hb => g1 b (decide_eq_true hb)
    have ge : G'.get? e = none := g2 e (by simp)
    have old : ∀ b o, hp.get? b = some o → G'.get? b = some o := fun b o q => (gk b (Nat.ne_of_lt (Nat.lt_of_lt_of_le (Heap.lt_size q) M.new))).trans (M.keep b o q)
    have ob : ObjOk X.prog X.w (upd H1 d (.xd [(("value" : Str), v)])) G' d (.xd [(("value" : Str), v)]) :=
      ⟨_, hns.at (fun o q => (gk d M.dne).trans q), fun f => relO_er rv f⟩
    have J : Inv X pins σ (upd H1 d (.xd [(("value" : Str), v)])) ⟨G', g, dr, tk', os⟩ := I1.laid (t' := tk') old M.dbig ob
    refine ⟨e, oe, fv, ⟨G', g, dr, tk', os⟩, _, .ref C, some d, rfl, J, fun b o q => ?_, ge, hoe, ⟨hc, hd⟩, hdat, h1, ?_, rfl, I1.bare, raises_own T.exC T.tyC, q1 d (I1.hok.fresh M.dbig)⟩
    · by_cases hb : b = e
      · have q' : G'.get? b = some o := q
        rw [hb, ge] at q'; cases q'
      · exact (gk b hb).symm.trans q
    · rw [upd_ne (Ne.symm M.dne)]
      exact I1.hok.fresh M.new
/-- raise nm(e) -/
def tRaiseEr (C : Addr) (W : WX) (ta : TA) : TS := fun _ σ H => tMkEr C ta σ H fun cls d H' => W cls d σ H'
theorem ps_raiseEr {a : Expr} {ta : TA} {W : WX} {p pos pos2 : Pos} {k : Nat} (hc : X.calm = true) (T : ErTxt X.prog X.K X.mg nm "value" C fI) (hr : Room k X.A) (tk : Takes X W) (ha : PA X [a] ta) (hg : Gl X nm) (hdb : (nm == ("__debug__" : Str)) = false := by decide)
    (he : starEach (a :: []) X.env = (false, eval a X.env) :: starEach [] X.env := by rfl) (hpl : (backTo pos (starEach [] X.env)).any (·.1) = false := by rfl) :
    PS X (.Raise (some (.Call (.Name nm p) [a] [] pos)) none pos2) (tRaiseEr C W ta) := ps_raise hc tk (pmk_er T hr ha hg hdb he hpl)
theorem xf_of {K : PySem.W.Frag} {P : Program} {mg : Str → Option Value} (T : ErTxt P K mg nm "value" C fI) : XfC K C := ⟨T.ga, T.gg, T.exC, T.hdC⟩
/-- no error comes of it, by its promise -/
theorem passC {P : Program} {w : World} {X : Cx} (hP : X.prog = P := by rfl) (hw : X.w = w := by rfl) : Passes (L2.CX P w) X E0 := by
  subst hP
  subst hw
  exact passes_call takes0 (fun _ _ _ _ h => h)
/-- within a def that lets errors out -/
theorem passE {X : Cx} {E : XK} (tk : Takes X (fun cls d _ H => E cls d H)) : Passes (L2.CX X.prog X.w) X E := passes_call tk (fun _ _ _ _ h => h)
end
section
variable {X : Cx} {CX : CXT} {k : Nat} {f C : Addr} {fd : FuncData} {ps : List Str} {sp : Sp} {E : L2.St → XK} {m : Str} {pos apos : Pos} {e o : Expr} {es : List Expr} {ta : TE} {t : TA}
/-- o.m(e, ..), the wish for an error by the slots -/
def tMethS (C : Addr) (m : Str) (sp : Sp) (E : L2.St → XK) (ta : TE) (t : TA) : TE := fun σ H Q => ta σ H fun x H1 => ∃ a dx fs, x = .ref a ∧ H1 a = some (.ins C dx fs) ∧ fs.lookup m = none ∧ t σ H1 fun vs H2 => sp (x :: vs) H2 Q (E σ)
theorem pe_methS {pl : Sem Bool} (he : PE X o ta) (c : Cls X.K C) (hm : Meth X.K C m f) (F : FnOk X.prog X.w X.K X.mg X.base CX k f fd ps sp) (hr : Room k X.A) (hb : Binds X.K fd ps []) (hx : ∀ σ, PassesAt CX X σ (E σ)) (ha : PA X (e :: es) t)
    (hst : starEach (e :: es) X.env = (false, eval e X.env) :: starEach es X.env := by rfl) (hpl : (backTo pos (starEach es X.env)).any (·.1) = false := by rfl)
    (ht : eval (.Call (.Attribute o m apos) (e :: es) [] pos) X.env = (do
      let ov ← eval o X.env
      standAt apos.atName
      let (f, first) ← holding [ov] (getMethod ov m pl)
      callWith pos f first (backTo pos (starEach (e :: es) X.env)) (backToKw pos (keywordEach [] X.env))) := by rfl) :
    PE X (.Call (.Attribute o m apos) (e :: es) [] pos) (tMethS C m sp E ta t) := by
  refine ⟨fun pins s σ H Q I h => ?_⟩
  refine PySem.W.methodCall_KW (pl := pl) (thn (he.run pins s σ H _ I h) fun u s1 ⟨x, H1, I1, rx, a, dx, fs, ex, ea, l, q⟩ => ?_) ht
  subst ex
  obtain rfl : u = Value.ref a := rx
  refine getmeth_ok I1 ea c hm l ?_
  refine PySem.W.callWith_K (first := [.ref a]) (h₀ := X.base) I.ok.mod.kin hm.kp (thn (ha.run pos pins s1 σ H1 _ I1 q) fun us s2 ⟨vs, H2, I2, r, q2⟩ => ⟨I2.kIn, ?_⟩) hst hpl
  exact run_fnS (us := .ref a :: us) (vs := .ref a :: vs) F hr hb (hx σ) I2 (.cons rfl r) q2
end
/-! ### operators of own classes -/
section
variable {X : Cx} {CX : CXT} {k : Nat} {f C : Addr} {fd : FuncData} {ps : List Str} {sp : Sp} {E : XK}
theorem ins_at {pins : List (Addr × Obj)} {σ : L2.St} {H : Hp} {s : Shared} {a dx : Addr} {fs : List (Str × V)} (I : Inv X pins σ H s) (ea : H a = some (.ins C dx fs)) : ∃ ox od, PySem.W.InstAt s.heap a ox C (some od) := by
  obtain ⟨mA, O, _, _, _, _⟩ := ins_get I.hok ea
  obtain ⟨od, J, _⟩ := O.look
  exact ⟨_, od, J⟩
/-- what a class's __op__ wants: told by k_is -/
structure BinC (K : PySem.W.Frag) (C f : Addr) (op : Operator) (T : String) : Prop where
  sf : PySem.W.selfFirst K C = true
  at_ : PySem.W.findIn K (.ref C) (PySem.dunder op.info.2) = some (some (.ref f))
  fn : PySem.W.isFn K (.ref f) = true
  rv : PySem.W.findIn K (.ref C) (dunderR op.info.2) = some none
  t1 : ∃ fo, PySem.W.findIn K (.type T) (PySem.dunder op.info.2) = some fo
  t2 : ∃ ro, PySem.W.findIn K (.type T) (dunderR op.info.2) = some ro
  sb : PySem.W.subIn K (.type T) (.ref C) = some false
/-- x op i, x an instance, i an int -/
def rBinI (C : Addr) (sp : Sp) (E : XK) : R2 := fun x y H Q => ∃ a dx fs i, x = .ref a ∧ y = .int i ∧ H a = some (.ins C dx fs) ∧ sp [x, y] H Q E
theorem op_binI {op : Operator} (B : BinC X.K C f op "int") (F : FnOk X.prog X.w X.K X.mg X.base CX k f fd ps sp) (hr : Room k X.A) (hb : Binds X.K fd ps []) (hx : Passes CX X E) : OpR X (binaryOp op) (rBinI C sp E) := by
  intro pins s σ H x y v u Q I rx ry h
  obtain ⟨a, dx, fs, i, rfl, rfl, ea, q⟩ := h
  cases (show v = Value.ref a from rx)
  obtain ⟨t, rfl⟩ := (show ∃ t, u = Value.int i t from ry)
  obtain ⟨ox, od, J⟩ := ins_at I ea
  obtain ⟨m, hF⟩ := I.fr
  obtain ⟨fo, h1⟩ := B.t1
  obtain ⟨ro, h2⟩ := B.t2
  refine PySem.W.ksp_binT (T := "int") hF I.ok.mod.kin J rfl B.sf B.at_ B.fn B.rv (.inl rfl) h1 h2 B.sb ?_
  refine wpAny_mono (run_fn (us := [.ref a, .int i t]) (vs := [.ref a, .int i]) F hr hb .nil hx I (.cons rfl (.cons ⟨t, rfl⟩ .nil)) q) (fun w s' z => ?_) fun _ _ x => x
  obtain ⟨z', H', I', rz, qz⟩ := z
  exact SlX.cmpback rz ⟨z', H', I', rz, qz⟩
end
end VW

/-! further rules: text * int, list(text), repr -/
namespace VW
open PySem PySem.Spec PyProof.Rows L2
section
variable {X : Cx}
theorem op_mulS : OpR X (binaryOp .Mult) (fun x y H Q => ∃ z n, x = .str z ∧ y = .int n ∧ MulOk z n ∧ Q (.str (PySem.Txt.mul z n)) H) := by
  intro pins s σ H x y v u Q I rx ry h
  obtain ⟨z, n, rfl, rfl, hok, q⟩ := h
  obtain ⟨t, rfl⟩ := (show ∃ t, v = Value.str z t from rx)
  obtain ⟨t', rfl⟩ := (show ∃ t, u = Value.int n t from ry)
  exact SB.mul hok fun t' k => ⟨.str _, H, I.tok _, ⟨_, rfl⟩, q⟩
theorem mulOk_small {z : Str} {n : Int} (h0 : 0 ≤ n) (h1 : n ≤ 100) (hz : z.length ≤ 100) : MulOk z n := by
  refine ⟨?_, fun a b => ?_, fun a b => ?_⟩
  · simp only [Bool.or_eq_false_iff, decide_eq_false_iff_not]
    omega
  · have : (2 ^ 63 - 1 : Int) / n ≥ 100 := by
      refine Int.le_ediv_of_mul_le (by omega) ?_
      omega
    omega
  · have h2 : z.length * n.toNat ≤ 100 * 100 := Nat.mul_le_mul hz (by omega)
    have e : sizeLine = 16777216 := by decide
    unfold Builtin.Str.tooLong
    simp only [decide_eq_false_iff_not]
    omega
theorem vals_signs : ∀ (cs : List Nat) (us : List Value), us.length = cs.length → (∀ (j : Nat) (c : Nat) (v : Value), cs[j]? = some c → us[j]? = some v → ∃ t, v = Value.str ⟨#[c]⟩ t) → Vals (cs.map fun c => V.str ⟨#[c]⟩) us
  | [], [], _, _ => .nil
  | [], _ :: _, h, _ => by cases h
  | _ :: _, [], h, _ => by cases h
  | c :: cs, u :: us, h, k => .cons (k 0 c u rfl rfl) (vals_signs cs us (Nat.succ.inj h) fun j c v hc hv => k (j + 1) c v hc hv)
theorem call_listS (hc : X.calm = true) : CallR X (.type "list") (fun xs H Q => ∃ z : Str, xs = [.str z] ∧ z.cps.size ≤ sizeLine ∧ ∀ l, H l = none → Q (.ref l) (upd H l (.lst (z.cps.toList.map fun c => V.str ⟨#[c]⟩)))) := by
  intro pins s σ H xs us Q I r h
  obtain ⟨z, rfl, hz, q⟩ := h
  obtain ⟨u, rfl, t, rfl⟩ := vals1 r
  refine call_list_str (I.ok.hd hc) z t (fun h' tk acc' c' hk hS hacc => ?_) hz
  have rv : Vals (z.cps.toList.map fun c => V.str ⟨#[c]⟩) acc'.toList := by
    obtain ⟨h1, h2⟩ := hacc
    refine vals_signs z.cps.toList acc'.toList (by simp [h1]) fun j c v hc hv => ?_
    obtain ⟨c', u, e1, e2⟩ := h2 j v (by simpa using hv)
    have e3 : z.cps[j]? = some c := by simpa using hc
    rw [e3] at e1
    cases e1
    exact ⟨u, e2⟩
  exact ⟨.ref s.heap.objs.size, _, I.laid (t' := tk) hk (Nat.le_refl _) (show ObjOk X.prog X.w _ h' _ (.lst _) from ⟨by rw [List.length_map]; simpa using hz, acc'.toList, c', rv, by simpa using hS⟩), rfl, q _ (I.hok.fresh (Nat.le_refl _))⟩
/-- repr of plain values -/
inductive ReprIs : V → Str → Prop
  | non : ReprIs .non "None"
  | bl (b : Bool) : ReprIs (.bl b) (if b then "True" else "False")
  | int {i : Int} (h : i.natAbs.log2 < 1920) : ReprIs (.int i) (toString i)
  | str {z : Str} (h : (reprText z).length ≤ sizeLine) : ReprIs (.str z) (reprText z)
theorem call_reprF : CallR X (.builtin "repr") (fun xs H Q => ∃ v z, xs = [v] ∧ ReprIs v z ∧ Q (.str z) H) := by
  intro pins s σ H xs us Q I r h
  obtain ⟨v, z, rfl, hr, q⟩ := h
  obtain ⟨u, rfl, r1⟩ := vals1 r
  cases hr with
  | non =>
    cases (show u = Value.none from r1)
    exact PySem.P.repr_of_none ⟨.str _, H, I.tok _, ⟨_, rfl⟩, q⟩
  | bl b =>
    cases (show u = Value.bool b from r1)
    exact PySem.P.repr_of_bool ⟨.str _, H, I.tok _, ⟨_, rfl⟩, q⟩
  | @int i h =>
    obtain ⟨t, rfl⟩ := (show ∃ t, u = Value.int i t from r1)
    exact PySem.P.repr_of_int h ⟨.str _, H, I.tok _, ⟨_, rfl⟩, q⟩
  | @str z h =>
    obtain ⟨t, rfl⟩ := (show ∃ t, u = Value.str z t from r1)
    exact PySem.P.repr_of_str ⟨.str _, H, I.tok _, ⟨_, rfl⟩, q⟩ h
end
/-- a def with defaults, every argument written -/
theorem binds_all {K : PySem.W.Frag} {x qual : Str} {params : Arguments} {body : List Stmt} {scope : Scope} {dvs : List V} {kws : List (Str × V)} {f : Addr} {fd : FuncData} {ps : List Str} (F : FunD K x qual params body scope dvs kws f fd) (hd : dvs ≠ [])
    (h : ∀ (T : Addr) (kV doc pm : Value) (an : Option Addr) (cdv ct : Value) (us its : List Value), us.length = ps.length → its.length = dvs.length →
      ∃ k, bindArgs (PySem.W.fnOf x qual params body scope (.ref T) kV doc pm an cdv ct) ⟨us, []⟩ = seqItems? (.ref T) >>= k ∧ k (some its.toArray) = pure (ps.zip us)) : Binds K fd ps [] := by
  obtain ⟨ds, hv, hb⟩ := F.binds1 (ps := ps) ps.length dvs.length hd (by simp) fun T kV doc pm an cdv ct us its hu hi => by
    obtain ⟨k, e1, e2⟩ := h T kV doc pm an cdv ct us its hu hi
    exact ⟨k, e1, by rw [e2, ← hi, List.drop_length, List.append_nil]⟩
  rw [List.drop_length] at hv
  cases hv
  exact hb
end VW
namespace VW
open PySem PySem.Spec PyProof.Rows L2
theorem dp_strs {K : PySem.W.Frag} {H : Hp} : ∀ zs : List Str, DpAll K H (zs.map V.str) (zs.map PyData.str)
  | [] => .nil
  | _ :: r => .cons (.str _) (dp_strs r)
theorem dp_ints {K : PySem.W.Frag} {H : Hp} : ∀ zs : List Int, DpAll K H (zs.map V.int) (zs.map PyData.int)
  | [] => .nil
  | _ :: r => .cons (.int _) (dp_ints r)
def ascii (z : Str) : Prop := ∀ c ∈ z.cps.toList, c < 128
theorem ok_ascii {z : Str} (h : ascii z) : PyData.strOk z = true := by
  unfold PyData.strOk
  rw [Array.all_eq_true]
  intro i hi
  have := h z.cps[i] (by simp)
  exact decide_eq_true (by omega)
theorem lay_strs : ∀ zs : List Str, (∀ z ∈ zs, ascii z) → PyData.canLayAll0 (zs.map PyData.str) = true ∧ PyData.depthAll (zs.map PyData.str) = 0
  | [], _ => ⟨rfl, rfl⟩
  | z :: r, h => by
    obtain ⟨a, b⟩ := lay_strs r fun x hx => h x (List.mem_cons_of_mem _ hx)
    have hs := ok_ascii (h z (List.mem_cons_self ..))
    refine ⟨?_, ?_⟩
    · simp only [List.map_cons, PyData.canLayAll0, PyData.canLay0, hs, a, Bool.and_self]
    · simpa [PyData.depthAll, PyData.depth] using b
theorem lay_ints : ∀ zs : List Int, PyData.canLayAll0 (zs.map PyData.int) = true ∧ PyData.depthAll (zs.map PyData.int) = 0
  | [] => ⟨rfl, rfl⟩
  | z :: r => by
    obtain ⟨a, b⟩ := lay_ints r
    refine ⟨?_, ?_⟩
    · simp only [List.map_cons, PyData.canLayAll0, PyData.canLay0, a, Bool.and_self]
    · simpa [PyData.depthAll, PyData.depth] using b
theorem shaped_strs (zs : List Str) (h : ∀ z ∈ zs, ascii z) : SeqAt.shaped (.list (zs.map PyData.str)) = true := by
  obtain ⟨a, b⟩ := lay_strs zs h
  unfold SeqAt.shaped
  simp [PyData.canLay0, PyData.depth, a, b]
theorem shaped_ints (zs : List Int) : SeqAt.shaped (.list (zs.map PyData.int)) = true := by
  obtain ⟨a, b⟩ := lay_ints zs
  unfold SeqAt.shaped
  simp [PyData.canLay0, PyData.depth, a, b]
theorem mul_cps (x : Str) (n : Int) : (∀ c ∈ (PySem.Txt.mul x n).cps.toList, c ∈ x.cps.toList) ∧ (PySem.Txt.mul x n).length ≤ x.length * n.toNat := by
  unfold PySem.Txt.mul
  by_cases h1 : n < 1
  · rw [if_pos h1]
    exact ⟨(by intro c hc; exact absurd hc (by simp [PySem.Str.empty])), Nat.zero_le _⟩
  · rw [if_neg h1]
    by_cases h2 : (n == 1 || x.length == 0) = true
    · rw [if_pos h2]
      refine ⟨fun c hc => hc, ?_⟩
      have : 1 ≤ n.toNat := by omega
      exact Nat.le_mul_of_pos_right _ this
    · rw [if_neg h2]
      have key : ∀ (k : Nat) (acc : Array Nat), (∀ c ∈ acc.toList, c ∈ x.cps.toList) → (∀ c ∈ ((List.replicate k x.cps).foldl (· ++ ·) acc).toList, c ∈ x.cps.toList) ∧ ((List.replicate k x.cps).foldl (· ++ ·) acc).size = acc.size + k * x.cps.size := by
        intro k
        induction k with
        | zero => intro acc h; exact ⟨h, by simp⟩
        | succ k ih =>
          intro acc h
          rw [List.replicate_succ, List.foldl_cons]
          obtain ⟨a, b⟩ := ih (acc ++ x.cps) (fun c hc => by
            rw [Array.toList_append] at hc
            rcases List.mem_append.mp hc with q | q
            · exact h c q
            · exact q)
          refine ⟨a, ?_⟩
          rw [b, Array.size_append, Nat.succ_mul]
          omega
      obtain ⟨a, b⟩ := key n.toNat #[] (fun c hc => by cases hc)
      refine ⟨a, ?_⟩
      show ((List.replicate n.toNat x.cps).foldl (· ++ ·) #[]).size ≤ x.cps.size * n.toNat
      rw [b, Nat.mul_comm]
      simp
theorem seqIndex_nat {j n : Nat} (h : j < n) : seqIndex? (j : Int) n = some j := by
  unfold seqIndex?
  have h1 : ¬ ((j : Int) < 0) := by omega
  simp only [h1, if_false]
  rw [if_pos (by simp only [Bool.and_eq_true, decide_eq_true_eq]; omega)]
  simp
theorem app_inj {a b c : Str} (h : a ++ b = a ++ c) : b = c := by
  have e : (a ++ b).cps.toList = (a ++ c).cps.toList := by rw [h]
  rw [PySem.Str.cps_append, PySem.Str.cps_append, Array.toList_append, Array.toList_append] at e
  have e2 := List.append_cancel_left e
  cases b
  cases c
  congr 1
  exact Array.toList_inj.mp e2
theorem app_mem {a b : Str} {c : Nat} (h : c ∈ (a ++ b).cps.toList) : c ∈ a.cps.toList ∨ c ∈ b.cps.toList := by
  rw [PySem.Str.cps_append, Array.toList_append] at h
  exact List.mem_append.mp h
def lets (z : Str) : Prop := ∀ c ∈ z.cps.toList, isLet c = true
theorem lets_ascii {z : Str} (h : lets z) : ascii z := fun c hc => by
  have h1 : c ∈ LET.cps.toList := of_decide_eq_true (h c hc)
  exact (by decide : ∀ c ∈ LET.cps.toList, c < 128) c h1
theorem isNm_of {z : Str} (h : lets z) (h1 : 1 ≤ z.length) (h8 : z.length ≤ 8) : isNm z = true := by
  unfold isNm
  rw [decide_eq_true h1, decide_eq_true h8, List.all_eq_true.mpr h]
  rfl
end VW
namespace VW
theorem erase_perm {α : Type} : ∀ (l : List α) (i : Nat) (h : i < l.length), (l[i] :: l.eraseIdx i).Perm l
  | [], _, h => by cases h
  | a :: r, 0, _ => List.Perm.refl _
  | a :: r, i + 1, h => by
    have h' : i < r.length := Nat.lt_of_succ_lt_succ h
    have ih := erase_perm r i h'
    show (r[i] :: a :: r.eraseIdx i).Perm (a :: r)
    exact (List.Perm.swap a r[i] _).trans (ih.cons a)
theorem map_erase {α β : Type} (f : α → β) : ∀ (l : List α) (i : Nat), (l.map f).eraseIdx i = (l.eraseIdx i).map f
  | [], _ => rfl
  | a :: r, 0 => rfl
  | a :: r, i + 1 => by
    show f a :: (r.map f).eraseIdx i = f a :: (r.eraseIdx i).map f
    rw [map_erase f r i]
theorem nodup_map {α β : Type} {f : α → β} (hf : ∀ a b, f a = f b → a = b) : ∀ {l : List α}, l.Nodup → (l.map f).Nodup
  | [], _ => List.nodup_nil
  | a :: r, h => by
    rw [List.nodup_cons] at h
    rw [List.map_cons, List.nodup_cons]
    refine ⟨fun hm => ?_, nodup_map hf h.2⟩
    obtain ⟨b, hb, e⟩ := List.mem_map.mp hm
    exact h.1 (hf b a e ▸ hb)
end VW
namespace VW
open PySem PySem.Spec PyProof.Rows L2
theorem hu_in {k : Nat} {A : Around} (r : Room k A) : A.units + 65 < cLine := by
  have := r.un
  omega
theorem dpAll_of {K : PySem.W.Frag} {H : Hp} : ∀ (vs : List V) (ds : List PyData), vs.length = ds.length → (∀ (j : Nat) (v : V) (d : PyData), vs[j]? = some v → ds[j]? = some d → Dp K H v d) → DpAll K H vs ds
  | [], [], _, _ => .nil
  | [], _ :: _, h, _ => by cases h
  | _ :: _, [], h, _ => by cases h
  | v :: vs, d :: ds, h, k => .cons (k 0 v d rfl rfl) (dpAll_of vs ds (Nat.succ.inj h) fun j v d hv hd => k (j + 1) v d hv hd)
theorem layAll_of : ∀ (ds : List PyData) (n : Nat), (∀ d ∈ ds, PyData.canLay0 d = true ∧ PyData.depth d ≤ n) → PyData.canLayAll0 ds = true ∧ PyData.depthAll ds ≤ n
  | [], _, _ => ⟨rfl, Nat.zero_le _⟩
  | d :: r, n, h => by
    obtain ⟨a, b⟩ := layAll_of r n fun x hx => h x (List.mem_cons_of_mem _ hx)
    obtain ⟨c, e⟩ := h d (List.mem_cons_self ..)
    refine ⟨?_, ?_⟩
    · simp only [PyData.canLayAll0, c, a, Bool.and_self]
    · simp only [PyData.depthAll]
      omega
theorem shapedL {ds : List PyData} (h : ∀ d ∈ ds, PyData.canLay0 d = true ∧ PyData.depth d ≤ 60) : SeqAt.shaped (.list ds) = true := by
  obtain ⟨a, b⟩ := layAll_of ds 60 h
  unfold SeqAt.shaped
  simp only [PyData.canLay0, PyData.depth, a, Bool.true_and]
  exact decide_eq_true (by omega)
theorem shapedT {ds : List PyData} (h : ∀ d ∈ ds, PyData.canLay0 d = true ∧ PyData.depth d ≤ 60) : SeqAt.shaped (.tuple ds) = true := by
  obtain ⟨a, b⟩ := layAll_of ds 60 h
  unfold SeqAt.shaped
  simp only [PyData.canLay0, PyData.depth, a, Bool.true_and]
  exact decide_eq_true (by omega)
/-- a cell as data -/
def cellD (nm : Str) (a : Int) : PyData := .tuple [.str nm, .int a]
theorem cellD_lay {nm : Str} (h : ascii nm) (a : Int) : PyData.canLay0 (cellD nm a) = true ∧ PyData.depth (cellD nm a) ≤ 60 := by
  refine ⟨?_, ?_⟩
  · simp only [cellD, PyData.canLay0, PyData.canLayAll0, ok_ascii h, Bool.and_self]
  · simp [cellD, PyData.depth, PyData.depthAll]
theorem cellD_shaped {nm : Str} (h : ascii nm) (a : Int) : SeqAt.shaped (cellD nm a) = true := by
  obtain ⟨x, y⟩ := cellD_lay h a
  unfold SeqAt.shaped
  rw [x, Bool.true_and, decide_eq_true_eq]
  omega
theorem cellD_eqv (nm : Str) (a b : Int) : PyData.eqv (cellD nm a) (cellD nm b) = decide (a = b) := by
  simp [cellD, PyData.eqv, PyData.eqvAll]
  by_cases h : a = b <;> simp [h]
/-- the distances that are found -/
def distL (st f g : Int) : List Int := if (f - g) % st = 0 then [(f - g) / st] else []
theorem dist_meet {st f g i j : Int} (h : 1 ≤ st) (e : st * j + g = st * i + f) : (f - g) % st = 0 ∧ (f - g) / st = j - i := by
  have e2 : f - g = st * (j - i) := by rw [Int.mul_sub]; omega
  rw [e2]
  exact ⟨Int.mul_emod_right _ _, Int.mul_ediv_cancel_left _ (by omega)⟩
theorem dist_there {st f g i : Int} (h : 1 ≤ st) (d : (f - g) % st = 0) : st * (i + (f - g) / st) + g = st * i + f := by
  have e := Int.mul_ediv_cancel' (Int.dvd_of_emod_eq_zero d)
  rw [Int.mul_add, e]
  omega
theorem dist_small {st f g : Int} (h : 1 ≤ st) (f0 : -9 ≤ f) (f1 : f ≤ 9) (g0 : -9 ≤ g) (g1 : g ≤ 9) : -18 ≤ (f - g) / st ∧ (f - g) / st ≤ 18 := by
  constructor
  · refine Int.le_ediv_of_mul_le (by omega) ?_
    omega
  · refine Int.le_trans (Int.ediv_le_ediv (by omega) (show f - g ≤ 18 by omega)) ?_
    exact Int.ediv_le_self _ (by omega)
end VW
namespace VW
open PySem PySem.Spec PyProof.Rows L2
theorem inV_ints (x : Int) : ∀ fs : List Int, inV (V.int x) (fs.map V.int) = decide (x ∈ fs)
  | [] => rfl
  | a :: r => by
    have ih := inV_ints x r
    unfold inV at ih ⊢
    rw [List.map_cons, List.any_cons, ih]
    have e : eqV (V.int a) (V.int x) = decide (a = x) := by
      first | rfl | simp [eqV]
    rw [e]
    by_cases h : a = x
    · subst h
      simp
    · have h' : ¬ x = a := fun z => h z.symm
      simp [h, h']
end VW

namespace Law
open PySem L2 VW
abbrev PRG : Program := PySem.Challenge.pw_vectorwidths_k03_whole_distances
def top (i : Nat) : Stmt := PySem.Challenge.pw_vectorwidths_k03_whole_distances.main.body.getD i (.Pass ⟨0, 0, 0, 0⟩)
abbrev s_is_integer : Stmt := top 9
abbrev N_is_integer : List Str := ["value"]
theorem sc_is_integer : FnScope N_is_integer ["value"] (defScope s_is_integer) := ⟨rfl, rfl, rfl, by decide +kernel, rfl, by decide +kernel, by decide +kernel⟩
abbrev s_is_between : Stmt := top 10
abbrev N_is_between : List Str := ["value", "low", "high"]
theorem sc_is_between : FnScope N_is_between ["value", "low", "high"] (defScope s_is_between) := ⟨rfl, rfl, rfl, by decide +kernel, rfl, by decide +kernel, by decide +kernel⟩
abbrev s_is_count : Stmt := top 11
abbrev N_is_count : List Str := ["value"]
theorem sc_is_count : FnScope N_is_count ["value"] (defScope s_is_count) := ⟨rfl, rfl, rfl, by decide +kernel, rfl, by decide +kernel, by decide +kernel⟩
abbrev s_is_name : Stmt := top 12
abbrev N_is_name : List Str := ["value", "sign"]
theorem sc_is_name : FnScope N_is_name ["value"] (defScope s_is_name) := ⟨rfl, rfl, rfl, by decide +kernel, rfl, by decide +kernel, by decide +kernel⟩
abbrev s_is_offset : Stmt := top 13
abbrev N_is_offset : List Str := ["value"]
theorem sc_is_offset : FnScope N_is_offset ["value"] (defScope s_is_offset) := ⟨rfl, rfl, rfl, by decide +kernel, rfl, by decide +kernel, by decide +kernel⟩
abbrev s_Line___init__ : Stmt := inClass (top 14) 0
abbrev N_Line___init__ : List Str := ["self", "name", "stride"]
theorem sc_Line___init__ : FnScope N_Line___init__ ["self", "name", "stride"] (defScope s_Line___init__) := ⟨rfl, rfl, rfl, by decide +kernel, rfl, by decide +kernel, by decide +kernel⟩
abbrev s_Line_stride : Stmt := inClass (top 14) 2
abbrev N_Line_stride : List Str := ["self"]
theorem sc_Line_stride : FnScope N_Line_stride ["self"] (defScope s_Line_stride) := ⟨rfl, rfl, rfl, by decide +kernel, rfl, by decide +kernel, by decide +kernel⟩
abbrev s_Line___mul__ : Stmt := inClass (top 14) 4
abbrev N_Line___mul__ : List Str := ["self", "times"]
theorem sc_Line___mul__ : FnScope N_Line___mul__ ["self", "times"] (defScope s_Line___mul__) := ⟨rfl, rfl, rfl, by decide +kernel, rfl, by decide +kernel, by decide +kernel⟩
abbrev s_Line_cell : Stmt := inClass (top 14) 5
abbrev N_Line_cell : List Str := ["self", "offset", "at"]
theorem sc_Line_cell : FnScope N_Line_cell ["self", "offset", "at"] (defScope s_Line_cell) := ⟨rfl, rfl, rfl, by decide +kernel, rfl, by decide +kernel, by decide +kernel⟩
abbrev s_Line_distance : Stmt := inClass (top 14) 6
abbrev N_Line_distance : List Str := ["self", "first", "second", "offset"]
theorem sc_Line_distance : FnScope N_Line_distance ["self", "first", "second"] (defScope s_Line_distance) := ⟨rfl, rfl, rfl, by decide +kernel, rfl, by decide +kernel, by decide +kernel⟩
abbrev s__law_begin : Stmt := top 16
abbrev N__law_begin : List Str := ["script"]
theorem sc__law_begin : FnScope N__law_begin ["script"] (defScope s__law_begin) := ⟨rfl, rfl, rfl, by decide +kernel, rfl, by decide +kernel, by decide +kernel⟩
abbrev s__law_draw : Stmt := top 17
abbrev N__law_draw : List Str := ["source", "limit", "cell", "digit"]
theorem sc__law_draw : FnScope N__law_draw ["source", "limit"] (defScope s__law_draw) := ⟨rfl, rfl, rfl, by decide +kernel, rfl, by decide +kernel, by decide +kernel⟩
abbrev s__law_pick : Stmt := top 18
abbrev N__law_pick : List Str := ["source", "items"]
theorem sc__law_pick : FnScope N__law_pick ["source", "items"] (defScope s__law_pick) := ⟨rfl, rfl, rfl, by decide +kernel, rfl, by decide +kernel, by decide +kernel⟩
abbrev s__law_mixed : Stmt := top 19
abbrev N__law_mixed : List Str := ["source", "items", "left", "found"]
theorem sc__law_mixed : FnScope N__law_mixed ["source", "items"] (defScope s__law_mixed) := ⟨rfl, rfl, rfl, by decide +kernel, rfl, by decide +kernel, by decide +kernel⟩
abbrev s__law_stem : Stmt := top 20
abbrev N__law_stem : List Str := ["source", "letters"]
theorem sc__law_stem : FnScope N__law_stem ["source"] (defScope s__law_stem) := ⟨rfl, rfl, rfl, by decide +kernel, rfl, by decide +kernel, by decide +kernel⟩
abbrev s__law_names : Stmt := top 21
abbrev N__law_names : List Str := ["source", "many", "stem", "letters", "letter"]
theorem sc__law_names : FnScope N__law_names ["source", "many"] (defScope s__law_names) := ⟨rfl, rfl, rfl, by decide +kernel, rfl, by decide +kernel, by decide +kernel⟩
abbrev s__law_tried : Stmt := top 22
abbrev N__law_tried : List Str := ["line", "first", "second", "cells", "at", "found", "here"]
theorem sc__law_tried : FnScope N__law_tried ["line", "first", "second"] (defScope s__law_tried) := ⟨rfl, rfl, rfl, by decide +kernel, rfl, by decide +kernel, by decide +kernel⟩
abbrev s__law_refused : Stmt := top 23
abbrev N__law_refused : List Str := ["line", "first", "second", "e"]
theorem sc__law_refused : FnScope N__law_refused ["line", "first", "second"] (defScope s__law_refused) := ⟨rfl, rfl, rfl, by decide +kernel, rfl, by decide +kernel, by decide +kernel⟩
abbrev s_law : Stmt := top 24
abbrev N_law : List Str := ["script", "source", "turn", "line", "first", "second", "found", "tried", "twice", "odd", "far"]
theorem sc_law : FnScope N_law ["script"] (defScope s_law) := ⟨rfl, rfl, rfl, by decide +kernel, rfl, by decide +kernel, by decide +kernel⟩
structure Ad where
  C_InvalidNumber : Addr
  i_InvalidNumber : Addr
  C_InvalidName : Addr
  i_InvalidName : Addr
  C_Line : Addr
  a_is_integer : Addr
  fd_is_integer : FuncData
  a_is_between : Addr
  fd_is_between : FuncData
  a_is_count : Addr
  fd_is_count : FuncData
  a_is_name : Addr
  fd_is_name : FuncData
  a_is_offset : Addr
  fd_is_offset : FuncData
  a_Line___init__ : Addr
  fd_Line___init__ : FuncData
  a_Line_stride : Addr
  fd_Line_stride : FuncData
  p_Line_stride : Addr
  a_Line___mul__ : Addr
  fd_Line___mul__ : FuncData
  a_Line_cell : Addr
  fd_Line_cell : FuncData
  a_Line_distance : Addr
  fd_Line_distance : FuncData
  a__law_begin : Addr
  fd__law_begin : FuncData
  a__law_draw : Addr
  fd__law_draw : FuncData
  a__law_pick : Addr
  fd__law_pick : FuncData
  a__law_mixed : Addr
  fd__law_mixed : FuncData
  a__law_stem : Addr
  fd__law_stem : FuncData
  a__law_names : Addr
  fd__law_names : FuncData
  a__law_tried : Addr
  fd__law_tried : FuncData
  a__law_refused : Addr
  fd__law_refused : FuncData
  a_law : Addr
  fd_law : FuncData
structure Tx (P : Program) (A : Ad) (K : PySem.W.Frag) (mg : Str → Option Value) : Prop where
  er_InvalidNumber : ErTxt P K mg "InvalidNumber" "value" A.C_InvalidNumber A.i_InvalidNumber
  er_InvalidName : ErTxt P K mg "InvalidName" "value" A.C_InvalidName A.i_InvalidName
  g_Line : mg "Line" = some (.ref A.C_Line)
  cl_Line : Cls K A.C_Line
  n_Line_kept_name : NoAttr K A.C_Line "kept_name"
  n_Line_kept_stride : NoAttr K A.C_Line "kept_stride"
  M_Line : Mk K A.C_Line A.a_Line___init__
  bin_Line___mul__ : BinC K A.C_Line A.a_Line___mul__ .Mult "int"
  F_is_integer : Fun K "is_integer" "is_integer" s_is_integer A.a_is_integer A.fd_is_integer
  b_is_integer : Binds K A.fd_is_integer ["value"] []
  g_is_integer : mg "is_integer" = some (.ref A.a_is_integer)
  F_is_between : Fun K "is_between" "is_between" s_is_between A.a_is_between A.fd_is_between
  b_is_between : Binds K A.fd_is_between ["value", "low", "high"] []
  g_is_between : mg "is_between" = some (.ref A.a_is_between)
  F_is_count : Fun K "is_count" "is_count" s_is_count A.a_is_count A.fd_is_count
  b_is_count : Binds K A.fd_is_count ["value"] []
  g_is_count : mg "is_count" = some (.ref A.a_is_count)
  F_is_name : Fun K "is_name" "is_name" s_is_name A.a_is_name A.fd_is_name
  b_is_name : Binds K A.fd_is_name ["value"] []
  g_is_name : mg "is_name" = some (.ref A.a_is_name)
  F_is_offset : Fun K "is_offset" "is_offset" s_is_offset A.a_is_offset A.fd_is_offset
  b_is_offset : Binds K A.fd_is_offset ["value"] []
  g_is_offset : mg "is_offset" = some (.ref A.a_is_offset)
  F_Line___init__ : FunD K "__init__" "Line.__init__" (defArgs s_Line___init__) (defBody s_Line___init__) (defScope s_Line___init__) [.int 1] [] A.a_Line___init__ A.fd_Line___init__
  b_Line___init__ : Binds K A.fd_Line___init__ ["self", "name", "stride"] []
  me_Line___init__ : Meth K A.C_Line "__init__" A.a_Line___init__
  F_Line_stride : Fun K "stride" "Line.stride" s_Line_stride A.a_Line_stride A.fd_Line_stride
  b_Line_stride : Binds K A.fd_Line_stride ["self"] []
  pr_Line_stride : PropOf K A.C_Line "stride" A.p_Line_stride A.a_Line_stride
  F_Line___mul__ : Fun K "__mul__" "Line.__mul__" s_Line___mul__ A.a_Line___mul__ A.fd_Line___mul__
  b_Line___mul__ : Binds K A.fd_Line___mul__ ["self", "times"] []
  me_Line___mul__ : Meth K A.C_Line "__mul__" A.a_Line___mul__
  F_Line_cell : Fun K "cell" "Line.cell" s_Line_cell A.a_Line_cell A.fd_Line_cell
  b_Line_cell : Binds K A.fd_Line_cell ["self", "offset", "at"] []
  me_Line_cell : Meth K A.C_Line "cell" A.a_Line_cell
  F_Line_distance : Fun K "distance" "Line.distance" s_Line_distance A.a_Line_distance A.fd_Line_distance
  b_Line_distance : Binds K A.fd_Line_distance ["self", "first", "second"] []
  me_Line_distance : Meth K A.C_Line "distance" A.a_Line_distance
  F__law_begin : Fun K "_law_begin" "_law_begin" s__law_begin A.a__law_begin A.fd__law_begin
  b__law_begin : Binds K A.fd__law_begin ["script"] []
  g__law_begin : mg "_law_begin" = some (.ref A.a__law_begin)
  F__law_draw : Fun K "_law_draw" "_law_draw" s__law_draw A.a__law_draw A.fd__law_draw
  b__law_draw : Binds K A.fd__law_draw ["source", "limit"] []
  g__law_draw : mg "_law_draw" = some (.ref A.a__law_draw)
  F__law_pick : Fun K "_law_pick" "_law_pick" s__law_pick A.a__law_pick A.fd__law_pick
  b__law_pick : Binds K A.fd__law_pick ["source", "items"] []
  g__law_pick : mg "_law_pick" = some (.ref A.a__law_pick)
  F__law_mixed : Fun K "_law_mixed" "_law_mixed" s__law_mixed A.a__law_mixed A.fd__law_mixed
  b__law_mixed : Binds K A.fd__law_mixed ["source", "items"] []
  g__law_mixed : mg "_law_mixed" = some (.ref A.a__law_mixed)
  F__law_stem : Fun K "_law_stem" "_law_stem" s__law_stem A.a__law_stem A.fd__law_stem
  b__law_stem : Binds K A.fd__law_stem ["source"] []
  g__law_stem : mg "_law_stem" = some (.ref A.a__law_stem)
  F__law_names : Fun K "_law_names" "_law_names" s__law_names A.a__law_names A.fd__law_names
  b__law_names : Binds K A.fd__law_names ["source", "many"] []
  g__law_names : mg "_law_names" = some (.ref A.a__law_names)
  F__law_tried : Fun K "_law_tried" "_law_tried" s__law_tried A.a__law_tried A.fd__law_tried
  b__law_tried : Binds K A.fd__law_tried ["line", "first", "second"] []
  g__law_tried : mg "_law_tried" = some (.ref A.a__law_tried)
  F__law_refused : Fun K "_law_refused" "_law_refused" s__law_refused A.a__law_refused A.fd__law_refused
  b__law_refused : Binds K A.fd__law_refused ["line", "first", "second"] []
  g__law_refused : mg "_law_refused" = some (.ref A.a__law_refused)
  F_law : Fun K "law" "law" s_law A.a_law A.fd_law
  b_law : Binds K A.fd_law ["script"] []
  g_law : mg "law" = some (.ref A.a_law)
  m_all : mg "all" = none
  m_bool : mg "bool" = none
  m_int : mg "int" = none
  m_isinstance : mg "isinstance" = none
  m_len : mg "len" = none
  m_list : mg "list" = none
  m_range : mg "range" = none
  m_repr : mg "repr" = none
  m_str : mg "str" = none
  c_LETTERS : ∃ t, mg "LETTERS" = some (.str "abcdefghijklmnopqrstuvwxyz" t)
  c_MOST_LETTERS : ∃ t, mg "MOST_LETTERS" = some (.int 8 t)
  c_MOST_STRIDE : ∃ t, mg "MOST_STRIDE" = some (.int 6 t)
  c_MOST_OFFSET : ∃ t, mg "MOST_OFFSET" = some (.int 9 t)
section
variable {P : Program} {w : World} {K : PySem.W.Frag} {mg : Str → Option Value} {base : Heap} {A : Ad}
/-- the two fields of a line -/
def lf (nm : Str) (st : Int) : List (Str × V) := [("kept_name", .str nm), ("kept_stride", .int st)]
theorem lf_name (nm : Str) (st : Int) : (lf nm st).lookup ("kept_name" : Str) = some (.str nm) := by first | rfl | kernel_rfl
theorem lf_stride (nm : Str) (st : Int) : (lf nm st).lookup ("kept_stride" : Str) = some (.int st) := by first | rfl | kernel_rfl
theorem lf_made (nm : Str) (st : Int) : putF "kept_stride" (.int st) (putF "kept_name" (.str nm) []) = lf nm st := by first | rfl | kernel_rfl
/-- at p a line -/
def LineAt (A : Ad) (H : Hp) (p : Addr) (nm : Str) (st : Int) : Prop := ∃ dx, H p = some (.ins A.C_Line dx (lf nm st))
theorem LineAt.same {A : Ad} {H H' : Hp} {p : Addr} {nm : Str} {st : Int} (e : Same H H') (h : LineAt A H p nm st) : LineAt A H' p nm st := by
  obtain ⟨dx, h⟩ := h
  exact ⟨dx, e _ _ h⟩
theorem LineAt.kp {A : Ad} {H H' : Hp} {s L p : Addr} {nm : Str} {st : Int} (e : Kp s H H') (S : Src H s L) (h : LineAt A H p nm st) : LineAt A H' p nm st := by
  obtain ⟨dx, h⟩ := h
  obtain ⟨xs, hs⟩ := S.at
  exact ⟨dx, e _ _ h (ne_of h hs (by intro z; cases z))⟩
/-- an error of the class at C with the value v is let out -/
def Rz (E : XK) (C : Addr) (H : Hp) (v : V) : Prop := ∀ (d : Addr) (H' : Hp), Same H H' → H d = none → H' d = some (.xd [(("value" : Str), v)]) → E (.ref C) (some d) H'
theorem Rz.go {E : XK} {C d : Addr} {H H1 : Hp} {v : V} (h : Rz E C H v) (s : Same H H1) (n : H1 d = none) : E (.ref C) (some d) (upd H1 d (.xd [(("value" : Str), v)])) :=
  h d _ (s.trans (Same.new n)) (s.free n) upd_same
theorem _root_.VW.Src.kpx {H H' : Hp} {s L p : Addr} (h : Src H s L) (n : p ≠ s ∧ p ≠ L) (k : Kp p H H') : Src H' s L := by
  obtain ⟨i, q, z, ns, h1, h2, r⟩ := h
  exact ⟨i, q, z, ns, k _ _ h1 n.1.symm, k _ _ h2 n.2.symm, r⟩

def sp_is_integer (K : PySem.W.Frag) : Sp := fun vs H Q _ => ∃ (v : V) (k : Kd), vs = [v] ∧ Kn K H v k ∧ Q (.bl (decide (k = .int))) H
theorem ok_is_integer (T : Tx P A K mg) : FnOk P w K mg base CX0 1 A.a_is_integer A.fd_is_integer ["value"] (sp_is_integer K) := by
  refine T.F_is_integer.ok sc_is_integer (fun vs H Q E h => ?_) (fun cdv A' outer s H vs Q E hr h => ?_)
  · obtain ⟨v, k, rfl, _⟩ := h
    rfl
  · obtain ⟨v, k, rfl, hk, q⟩ := h
    refine ⟨_, (pss_one (ps_ret (pe_and (pe_callB call_isi (by rfl) T.m_isinstance bb_isinstance (pa_cons (pv 0) (pa_cons (pe_bltn (v := .ty "int") (by rfl) T.m_int bb_int rfl) pa_nil))) (pe_one (pe_not (pe_callB call_isi (by rfl) T.m_isinstance bb_isinstance (pa_cons (pv 0) (pa_cons (pe_bltn (v := .ty "bool") (by rfl) T.m_bool bb_bool rfl) pa_nil)))))))), ?_⟩
    obtain ⟨t, h1, h2⟩ := hk.ty
    refine ⟨_, rfl, _, _, t, _, _, rfl, .ty _, h1, h2 "int" (by decide), _, rfl, ?_⟩
    cases k with
    | int => exact iteT ⟨_, rfl, _, _, t, _, _, rfl, .ty _, h1, h2 "bool" (by decide), _, rfl, q⟩
    | bl => exact iteT ⟨_, rfl, _, _, t, _, _, rfl, .ty _, h1, h2 "bool" (by decide), _, rfl, q⟩
    | _ => exact iteF q

def sp_is_between (K : PySem.W.Frag) : Sp := fun vs H Q _ => ∃ (v : V) (k : Kd) (lo hi : Int), vs = [v, .int lo, .int hi] ∧ Kn K H v k ∧ Q (.bl (btw v lo hi)) H
theorem ok_is_between (T : Tx P A K mg) : FnOk P w K mg base CX0 2 A.a_is_between A.fd_is_between ["value", "low", "high"] (sp_is_between K) := by
  refine T.F_is_between.ok sc_is_between (fun vs H Q E h => ?_) (fun cdv A' outer s H vs Q E hr h => ?_)
  · obtain ⟨v, k, lo, hi, rfl, _⟩ := h
    rfl
  · obtain ⟨v, k, lo, hi, rfl, hk, q⟩ := h
    refine ⟨_, (pss_one (ps_ret (pe_and (pe_call (ok_is_integer T) (hr.mono (by decide)) (by rfl) T.g_is_integer T.F_is_integer.kp T.b_is_integer .nil pass0 (pa_cons (pv 0) pa_nil)) (pe_one (pe_chain op_le op_le (pv 1) (pv 0) (pv 2)))))), ?_⟩
    refine ⟨_, rfl, v, k, rfl, hk, _, rfl, ?_⟩
    by_cases hi' : k = .int
    · subst hi'
      cases hk with
      | int i =>
        refine iteT ⟨_, rfl, _, rfl, _, _, rfl, rfl, _, rfl, ?_⟩
        by_cases c : lo ≤ i
        · rw [if_pos (decide_eq_true c)]
          refine ⟨_, rfl, _, _, rfl, rfl, ?_⟩
          have e : btw (.int i) lo hi = decide (i ≤ hi) := by
            show (decide (lo ≤ i) && decide (i ≤ hi)) = _
            rw [decide_eq_true c, Bool.true_and]
          rw [e] at q
          exact q
        · rw [decide_eq_false c]
          refine iteF ?_
          have e : btw (.int i) lo hi = false := by
            show (decide (lo ≤ i) && decide (i ≤ hi)) = _
            rw [decide_eq_false c, Bool.false_and]
          rw [e] at q
          exact q
    · rw [decide_eq_false hi']
      refine iteF ?_
      rw [hk.notInt hi'] at q
      exact q

def sp_is_count (K : PySem.W.Frag) : Sp := fun vs H Q _ => ∃ (v : V) (k : Kd), vs = [v] ∧ Kn K H v k ∧ Q (.bl (cntV v)) H
theorem ok_is_count (T : Tx P A K mg) : FnOk P w K mg base CX0 2 A.a_is_count A.fd_is_count ["value"] (sp_is_count K) := by
  refine T.F_is_count.ok sc_is_count (fun vs H Q E h => ?_) (fun cdv A' outer s H vs Q E hr h => ?_)
  · obtain ⟨v, k, rfl, _⟩ := h
    rfl
  · obtain ⟨v, k, rfl, hk, q⟩ := h
    refine ⟨_, (pss_one (ps_ret (pe_and (pe_call (ok_is_integer T) (hr.mono (by decide)) (by rfl) T.g_is_integer T.F_is_integer.kp T.b_is_integer .nil pass0 (pa_cons (pv 0) pa_nil)) (pe_one (pe_cmpR op_ge (pv 0) pe_int (nomark _)))))), ?_⟩
    refine ⟨_, rfl, v, k, rfl, hk, _, rfl, ?_⟩
    by_cases hi' : k = .int
    · subst hi'
      cases hk with
      | int i => exact iteT ⟨_, rfl, _, _, rfl, rfl, q⟩
    · rw [decide_eq_false hi']
      refine iteF ?_
      rw [hk.notCnt hi'] at q
      exact q

def sp_is_name (K : PySem.W.Frag) : Sp := fun vs H Q _ => ∃ (v : V) (k : Kd), vs = [v] ∧ Kn K H v k ∧ ∀ H', Same H H' → Q (.bl (nmV v)) H'
theorem ok_is_name (T : Tx P A K mg) : FnOk P w K mg base CX0 1 A.a_is_name A.fd_is_name ["value"] (sp_is_name K) := by
  refine T.F_is_name.ok sc_is_name (fun vs H Q E h => ?_) (fun cdv A' outer s H vs Q E hr h => ?_)
  · obtain ⟨v, k, rfl, _⟩ := h
    rfl
  · obtain ⟨v, k, rfl, hk, q⟩ := h
    refine ⟨_, (pss_cons (ps_if (PW.pt (pw_or (pt_not (pt_val (pe_callB call_isi (by rfl) T.m_isinstance bb_isinstance (pa_cons (pv 0) (pa_cons (pe_bltn (v := .ty "str") (by rfl) T.m_str bb_str rfl) pa_nil))))) (pw_or1 (pt_not (pt_chain op_le op_le pe_int (pe_callB call_len_str (by rfl) T.m_len bb_len (pa_cons (pv 0) pa_nil)) (pe_glob (v := .int 8) (by rfl) T.c_MOST_LETTERS.choose_spec ⟨_, rfl⟩)))))) (pss_one (ps_ret pe_bl)) pss_nil)
      (pss_one (ps_ret (pe_callB (cr_all rfl) (by rfl) T.m_all bb_all (pa_cons (pe_lc (own := [("sign", 1)]) (g := gName 1) (tt := tYes) (by rfl) sc_is_name.nd (pi_str (pv 0)) (blkOk_by (own := [("sign", 1)]) (N := N_is_name) (sc := defScope s_is_name) (by decide +kernel)) (fun _ _ _ _ _ => (pg_name (i := 1) sc_is_name.nd rfl (.inl rfl))) (fun _ _ _ _ _ => pts_nil) (fun _ _ _ _ _ => (pe_cmpR op_in_sign (pv 1) (pe_glob (v := .str "abcdefghijklmnopqrstuvwxyz") (by rfl) T.c_LETTERS.choose_spec ⟨_, rfl⟩) (by rfl)))) pa_nil))))), ?_⟩
    obtain ⟨t, h1, h2⟩ := hk.ty
    refine ⟨_, rfl, _, _, t, _, _, rfl, .ty _, h1, h2 "str" (by decide), _, rfl, ?_⟩
    by_cases hs : k = .str
    · subst hs
      cases hk with
      | @str z hz =>
        have e0 : (!isk .str "str") = false := by decide
        rw [e0]
        refine iteF ?_
        refine ⟨_, rfl, z, rfl, hz, _, _, rfl, rfl, _, rfl, ?_⟩
        by_cases c1 : (1 : Int) ≤ (z.length : Int)
        · rw [if_pos (decide_eq_true c1)]
          refine ⟨_, _, rfl, rfl, _, rfl, ?_⟩
          by_cases c2 : (z.length : Int) ≤ 8
          · rw [decide_eq_true c2]
            refine iteF ?_
            refine ⟨_, rfl, z, rfl, fun D hD => ?_⟩
            refine lc_it (walk_str (z := z)) (fun i H' => Same H H' ∧ H' D = some (.lst ((((z.cps.toList).take i).map isLet).map V.bl))) ⟨Same.new hD, upd_same⟩ (fun _ _ _ _ => trivial) ?_ ?_
            · rintro i x H1 H2 hi ⟨s1, d1⟩ ⟨rfl, c, hc, rfl⟩
              refine ⟨rfl, _, rfl, c, LET, rfl, rfl, _, d1, ?_, s1.mut hD, ?_⟩
              · rw [List.length_map, List.length_map, List.length_take]
                have : z.cps.toList.length = z.length := by simp [PySem.Str.length]
                exact sz_lt (by omega)
              · rw [upd_same, take_succ_of (by rw [Array.getElem?_toList]; exact hc), List.map_append, List.map_append]
                rfl
            · rintro H1 ⟨s1, d1⟩
              refine ⟨D, _, rfl, SqL.of d1, ?_⟩
              have e : isNm z = List.all (((z.cps.toList).take z.cps.size).map isLet) id := by
                unfold isNm
                rw [decide_eq_true (show 1 ≤ z.length by omega), decide_eq_true (show z.length ≤ 8 by omega), show z.cps.size = z.cps.toList.length by simp, List.take_length, List.all_map]
                rfl
              have q1 : Q (.bl (isNm z)) H1 := q H1 s1
              rw [e] at q1
              exact q1
          · rw [decide_eq_false c2]
            refine iteT ?_
            have e : isNm z = false := by
              unfold isNm
              rw [decide_eq_false (show ¬ z.length ≤ 8 by omega), Bool.and_false, Bool.false_and]
            have q1 : Q (.bl (isNm z)) H := q H (Same.refl H)
            rw [e] at q1
            exact q1
        · rw [decide_eq_false c1]
          refine iteF ⟨_, rfl, iteT ?_⟩
          have e : isNm z = false := by
            unfold isNm
            rw [decide_eq_false (show ¬ 1 ≤ z.length by omega), Bool.false_and, Bool.false_and]
          have q1 : Q (.bl (isNm z)) H := q H (Same.refl H)
          rw [e] at q1
          exact q1
    · have e0 : (!isk k "str") = true := by cases k <;> first | decide | exact absurd rfl hs
      refine ifT e0 ?_
      have q1 := q H (Same.refl H)
      rw [hk.notStr hs] at q1
      exact q1

def sp_is_offset (K : PySem.W.Frag) : Sp := fun vs H Q _ => ∃ (v : V) (k : Kd), vs = [v] ∧ Kn K H v k ∧ Q (.bl (btw v (-9) 9)) H
theorem ok_is_offset (T : Tx P A K mg) : FnOk P w K mg base CX0 3 A.a_is_offset A.fd_is_offset ["value"] (sp_is_offset K) := by
  refine T.F_is_offset.ok sc_is_offset (fun vs H Q E h => ?_) (fun cdv A' outer s H vs Q E hr h => ?_)
  · obtain ⟨v, k, rfl, _⟩ := h
    rfl
  · obtain ⟨v, k, rfl, hk, q⟩ := h
    refine ⟨_, (pss_one (ps_ret (pe_call (ok_is_between T) (hr.mono (by decide)) (by rfl) T.g_is_between T.F_is_between.kp T.b_is_between .nil pass0 (pa_cons (pv 0) (pa_cons (pe_un un_neg (pe_glob (v := .int 9) (by rfl) T.c_MOST_OFFSET.choose_spec ⟨_, rfl⟩)) (pa_cons (pe_glob (v := .int 9) (by rfl) T.c_MOST_OFFSET.choose_spec ⟨_, rfl⟩) pa_nil)))))), ?_⟩
    exact ⟨_, rfl, _, rfl, v, k, -9, 9, rfl, hk, q⟩

def sp_Line___init__ (A : Ad) (K : PySem.W.Frag) : Sp := fun vs H Q E => ∃ (p dx : Addr) (x y : V) (kx ky : Kd), vs = [.ref p, x, y] ∧ H p = some (.ins A.C_Line dx []) ∧ Kn K H x kx ∧ Kn K H y ky ∧
  (nmV x = false → Rz E A.C_InvalidName H x) ∧ (nmV x = true → btw y 1 6 = false → Rz E A.C_InvalidNumber H y) ∧
  (∀ (nm : Str) (st : Int), x = .str nm → y = .int st → isNm nm = true → 1 ≤ st → st ≤ 6 → ∀ H', Kp p H H' → H' p = some (.ins A.C_Line dx (lf nm st)) → Q .non H')
theorem ok_Line___init__ (T : Tx P A K mg) : FnOk P w K mg base (L2.CX P w) 3 A.a_Line___init__ A.fd_Line___init__ ["self", "name", "stride"] (sp_Line___init__ A K) := by
  refine T.F_Line___init__.ok sc_Line___init__ (fun vs H Q E h => ?_) (fun cdv A' outer s H vs Q E hr h => ?_)
  · obtain ⟨p, dx, x, y, kx, ky, rfl, _⟩ := h
    rfl
  · obtain ⟨p, dx, x, y, kx, ky, rfl, hp, hx, hy, e1, e2, q⟩ := h
    refine ⟨_, (pss_cons (ps_if (pt_not (pt_val (pe_call (ok_is_name T) (hr.mono (by decide)) (by rfl) T.g_is_name T.F_is_name.kp T.b_is_name .nil pass0 (pa_cons (pv 1) pa_nil)))) (pss_one (ps_raiseEr (by rfl) T.er_InvalidName (hr.mono (Nat.zero_le _)) (takes_of rfl rfl rfl rfl) (pa_cons (pv 1) pa_nil) (by rfl))) pss_nil)
      (pss_cons (ps_if (pt_not (pt_val (pe_call (ok_is_between T) (hr.mono (by decide)) (by rfl) T.g_is_between T.F_is_between.kp T.b_is_between .nil pass0 (pa_cons (pv 2) (pa_cons pe_int (pa_cons (pe_glob (v := .int 6) (by rfl) T.c_MOST_STRIDE.choose_spec ⟨_, rfl⟩) pa_nil)))))) (pss_one (ps_raiseEr (by rfl) T.er_InvalidNumber (hr.mono (Nat.zero_le _)) (takes_of rfl rfl rfl rfl) (pa_cons (pv 2) pa_nil) (by rfl))) pss_nil)
      (pss_cons (ps_fld (pv 0) (pv 1) rfl)
      (pss_one (ps_fld (pv 0) (pv 2) rfl))))), ?_⟩
    refine ⟨_, rfl, x, kx, rfl, hx, fun H1 s1 => ⟨_, rfl, ?_⟩⟩
    cases c1 : nmV x with
    | false => exact ⟨_, rfl, _, rfl, fun d hd => (e1 c1).go s1 hd⟩
    | true =>
      refine ⟨_, rfl, y, ky, 1, 6, rfl, hy.same s1, _, rfl, ?_⟩
      cases c2 : btw y 1 6 with
      | false => exact ⟨_, rfl, _, rfl, fun d hd => (e2 c1 c2).go s1 hd⟩
      | true =>
        obtain ⟨nm, rfl⟩ : ∃ nm, x = .str nm := by cases hx <;> first | exact ⟨_, rfl⟩ | cases c1
        obtain ⟨st, rfl⟩ : ∃ st, y = .int st := by cases hy <;> first | exact ⟨_, rfl⟩ | cases c2
        have c3 : decide ((1 : Int) ≤ st) = true ∧ decide (st ≤ 6) = true := Bool.and_eq_true_iff.mp c2
        refine ⟨_, rfl, _, rfl, p, A.C_Line, dx, _, rfl, s1 _ _ hp, T.cl_Line, T.n_Line_kept_name, by show 0 < 1000; decide, _, rfl, _, rfl, p, A.C_Line, dx, _, rfl, upd_same, T.cl_Line, T.n_Line_kept_stride, by show 1 < 1000; decide, ?_⟩
        rw [lf_made, upd_upd]
        refine q nm st rfl rfl c1 (of_decide_eq_true c3.1) (of_decide_eq_true c3.2) _ (fun b o e n => ?_) upd_same
        rw [upd_ne n]
        exact s1 _ _ e

def sp_Line_stride (A : Ad) : Sp := fun vs H Q _ => ∃ (p : Addr) (nm : Str) (st : Int), vs = [.ref p] ∧ LineAt A H p nm st ∧ Q (.int st) H
theorem ok_Line_stride (T : Tx P A K mg) : FnOk P w K mg base CX0 1 A.a_Line_stride A.fd_Line_stride ["self"] (sp_Line_stride A) := by
  refine T.F_Line_stride.ok sc_Line_stride (fun vs H Q E h => ?_) (fun cdv A' outer s H vs Q E hr h => ?_)
  · obtain ⟨p, nm, st, rfl, _⟩ := h
    rfl
  · obtain ⟨p, nm, st, rfl, ⟨dx, hp⟩, q⟩ := h
    refine ⟨_, (pss_one (ps_ret (pe_fld (pv 0) rfl))), ?_⟩
    exact ⟨_, rfl, p, A.C_Line, dx, _, _, rfl, hp, T.cl_Line, T.n_Line_kept_stride, lf_stride _ _, q⟩

/-- line * times -/
def mulOk (st : Int) (v : V) : Bool := match v with
  | .int i => decide (1 ≤ i) && decide (st * i ≤ 6)
  | _ => false
def sp_Line___mul__ (A : Ad) (K : PySem.W.Frag) : Sp := fun vs H Q E => ∃ (p : Addr) (nm : Str) (st : Int) (v : V) (k : Kd), vs = [.ref p, v] ∧ LineAt A H p nm st ∧ isNm nm = true ∧ nm.length ≤ sizeLine ∧ 1 ≤ st ∧ st ≤ 6 ∧ Kn K H v k ∧
  (mulOk st v = false → Rz E A.C_InvalidNumber H v) ∧
  (∀ (i : Int), v = .int i → mulOk st v = true → ∀ (r : Addr) H', H r = none → Same H H' → LineAt A H' r nm (st * i) → Q (.ref r) H')
theorem ok_Line___mul__ (T : Tx P A K mg) : FnOk P w K mg base (L2.CX P w) 5 A.a_Line___mul__ A.fd_Line___mul__ ["self", "times"] (sp_Line___mul__ A K) := by
  refine T.F_Line___mul__.okX sc_Line___mul__ (fun vs H Q E h => ?_) (fun cdv A' outer s H vs Q E hr h => ?_)
  · obtain ⟨p, nm, st, v, k, rfl, _⟩ := h
    rfl
  · obtain ⟨p, nm, st, v, k, rfl, ⟨dx, hp⟩, hnm, hln, s0, s6, hv, e, q⟩ := h
    refine ⟨_, (pss_cons (ps_if (pt_not (pt_val (pe_call (ok_is_integer T) (hr.mono (by decide)) (by rfl) T.g_is_integer T.F_is_integer.kp T.b_is_integer .nil pass0 (pa_cons (pv 1) pa_nil)))) (pss_one (ps_raiseEr (by rfl) T.er_InvalidNumber (hr.mono (Nat.zero_le _)) (takes_of rfl rfl rfl rfl) (pa_cons (pv 1) pa_nil) (by rfl))) pss_nil)
      (pss_cons (ps_if (PW.pt (pw_or (pt_cmpR op_lt (pv 1) pe_int (nomark _)) (pw_or1 (pt_cmpR op_gt (pe_op op_mul (pe_fld (pv 0) rfl) (pv 1)) (pe_glob (v := .int 6) (by rfl) T.c_MOST_STRIDE.choose_spec ⟨_, rfl⟩) (nomark _))))) (pss_one (ps_raiseEr (by rfl) T.er_InvalidNumber (hr.mono (Nat.zero_le _)) (takes_of rfl rfl rfl rfl) (pa_cons (pv 1) pa_nil) (by rfl))) pss_nil)
      (pss_one (ps_ret (pe_make T.M_Line (ok_Line___init__ T) (hr.mono (by decide)) (by rfl) T.g_Line T.b_Line___init__ .nil (passE (takes_of rfl rfl rfl rfl)) (pa_cons (pe_fld (pv 0) rfl) (pa_cons (pe_op op_mul (pe_fld (pv 0) rfl) (pv 1)) pa_nil))))))), ?_⟩
    refine ⟨_, rfl, v, k, rfl, hv, _, rfl, ?_⟩
    by_cases hk : k = .int
    · subst hk
      cases hv with
      | int i =>
        refine ⟨_, rfl, _, _, rfl, rfl, _, rfl, ?_⟩
        have fin : mulOk st (.int i) = false → ∀ d, H d = none → E (.ref A.C_InvalidNumber) (some d) (upd H d (.xd [(("value" : Str), V.int i)])) := fun c d hd => (e c).go (Same.refl H) hd
        by_cases c1 : i < 1
        · refine ifT (decide_eq_true c1) ?_
          exact ⟨_, rfl, _, rfl, fun d hd => fin (by show (decide (1 ≤ i) && _) = false; rw [decide_eq_false (show ¬ 1 ≤ i by omega), Bool.false_and]) d hd⟩
        · refine ifF (decide_eq_false c1) ?_
          refine ⟨_, rfl, p, A.C_Line, dx, _, _, rfl, hp, T.cl_Line, T.n_Line_kept_stride, lf_stride _ _, _, rfl, _, _, rfl, rfl, .inl ⟨by omega, by omega⟩, _, _, rfl, rfl, _, rfl, ?_⟩
          by_cases c2 : (6 : Int) < st * i
          · refine ifT (decide_eq_true c2) ?_
            exact ⟨_, rfl, _, rfl, fun d hd => fin (by show (_ && decide (st * i ≤ 6)) = false; rw [decide_eq_false (show ¬ st * i ≤ 6 by omega), Bool.and_false]) d hd⟩
          · refine ifF (decide_eq_false c2) ?_
            have ok : mulOk st (.int i) = true := by
              show (decide (1 ≤ i) && decide (st * i ≤ 6)) = true
              rw [decide_eq_true (show 1 ≤ i by omega), decide_eq_true (show st * i ≤ 6 by omega)]
              rfl
            have hpos : 1 ≤ st * i := by
              have h1 : 0 < st * i := Int.mul_pos (by omega) (by omega)
              omega
            refine ⟨_, rfl, p, A.C_Line, dx, _, _, rfl, hp, T.cl_Line, T.n_Line_kept_name, lf_name _ _, _, rfl, p, A.C_Line, dx, _, _, rfl, hp, T.cl_Line, T.n_Line_kept_stride, lf_stride _ _, _, rfl, _, _, rfl, rfl, .inl ⟨by omega, by omega⟩, ?_⟩
            intro x dx' hx hdx ne
            have s1 : Same H (upd (upd H dx' (.own x)) x (.ins A.C_Line dx' [])) := fun b o e => by
              rw [upd_ne (ne_of_none e hx), upd_ne (ne_of_none e hdx)]
              exact e
            refine ⟨x, dx', _, _, .str, .int, rfl, upd_same, .str hln, .int _, fun z => ?_, fun _ z => ?_, fun nm' st' e1 e2 _ _ _ H2 k2 h2 => ⟨rfl, ?_⟩⟩
            · have : isNm nm = false := z
              rw [hnm] at this
              cases this
            · exfalso
              have : (decide ((1 : Int) ≤ st * i) && decide (st * i ≤ 6)) = false := z
              rw [decide_eq_true hpos, decide_eq_true (show st * i ≤ 6 by omega)] at this
              cases this
            · cases e1
              cases e2
              exact q i rfl ok x H2 hx (fun b o e => k2 b o (s1 b o e) (ne_of_none e hx)) ⟨dx', h2⟩
    · rw [decide_eq_false hk]
      have ng : mulOk st v = false := by cases hv <;> first | rfl | exact absurd rfl hk
      exact ⟨_, rfl, _, rfl, fun d hd => (e ng).go (Same.refl H) hd⟩

def sp_Line_cell (A : Ad) (K : PySem.W.Frag) : Sp := fun vs H Q E => ∃ (p : Addr) (nm : Str) (st : Int) (x y : V) (kx ky : Kd), vs = [.ref p, x, y] ∧ LineAt A H p nm st ∧ 1 ≤ st ∧ st ≤ 6 ∧ Kn K H x kx ∧ Kn K H y ky ∧
  (btw x (-9) 9 = false → Rz E A.C_InvalidNumber H x) ∧ (btw x (-9) 9 = true → cntV y = false → Rz E A.C_InvalidNumber H y) ∧
  (∀ (o i : Int), x = .int o → y = .int i → btw x (-9) 9 = true → 0 ≤ i → ∀ (t : Addr) H', H t = none → Same H H' → H' t = some (.tup [.str nm, .int (st * i + o)]) → Q (.ref t) H')
theorem ok_Line_cell (T : Tx P A K mg) : FnOk P w K mg base (L2.CX P w) 4 A.a_Line_cell A.fd_Line_cell ["self", "offset", "at"] (sp_Line_cell A K) := by
  refine T.F_Line_cell.okX sc_Line_cell (fun vs H Q E h => ?_) (fun cdv A' outer s H vs Q E hr h => ?_)
  · obtain ⟨p, nm, st, x, y, kx, ky, rfl, _⟩ := h
    rfl
  · obtain ⟨p, nm, st, x, y, kx, ky, rfl, ⟨dx, hp⟩, s0, s6, hx, hy, e1, e2, q⟩ := h
    refine ⟨_, (pss_cons (ps_if (pt_not (pt_val (pe_call (ok_is_offset T) (hr.mono (by decide)) (by rfl) T.g_is_offset T.F_is_offset.kp T.b_is_offset .nil pass0 (pa_cons (pv 1) pa_nil)))) (pss_one (ps_raiseEr (by rfl) T.er_InvalidNumber (hr.mono (Nat.zero_le _)) (takes_of rfl rfl rfl rfl) (pa_cons (pv 1) pa_nil) (by rfl))) pss_nil)
      (pss_cons (ps_if (pt_not (pt_val (pe_call (ok_is_count T) (hr.mono (by decide)) (by rfl) T.g_is_count T.F_is_count.kp T.b_is_count .nil pass0 (pa_cons (pv 2) pa_nil)))) (pss_one (ps_raiseEr (by rfl) T.er_InvalidNumber (hr.mono (Nat.zero_le _)) (takes_of rfl rfl rfl rfl) (pa_cons (pv 2) pa_nil) (by rfl))) pss_nil)
      (pss_one (ps_ret (pe_tup (pa_cons (pe_fld (pv 0) rfl) (pa_cons (pe_op op_add (pe_op op_mul (pe_fld (pv 0) rfl) (pv 2)) (pv 1)) pa_nil))))))), ?_⟩
    refine ⟨_, rfl, x, kx, rfl, hx, _, rfl, ?_⟩
    cases c1 : btw x (-9) 9 with
    | false => exact ⟨_, rfl, _, rfl, fun d hd => (e1 c1).go (Same.refl H) hd⟩
    | true =>
      refine ⟨_, rfl, y, ky, rfl, hy, _, rfl, ?_⟩
      cases c2 : cntV y with
      | false => exact ⟨_, rfl, _, rfl, fun d hd => (e2 c1 c2).go (Same.refl H) hd⟩
      | true =>
        obtain ⟨o, rfl⟩ : ∃ st, x = .int st := by cases hx <;> first | exact ⟨_, rfl⟩ | cases c1
        obtain ⟨i, rfl⟩ : ∃ st, y = .int st := by cases hy <;> first | exact ⟨_, rfl⟩ | cases c2
        refine ⟨_, rfl, p, A.C_Line, dx, _, _, rfl, hp, T.cl_Line, T.n_Line_kept_name, lf_name _ _, _, rfl, p, A.C_Line, dx, _, _, rfl, hp, T.cl_Line, T.n_Line_kept_stride, lf_stride _ _, _, rfl, _, _, rfl, rfl, .inl ⟨by omega, by omega⟩, _, rfl, _, _, rfl, rfl, by show 2 ≤ sizeLine; decide, fun t ht => ?_⟩
        exact q o i rfl rfl c1 (of_decide_eq_true c2) t _ ht (Same.new ht) upd_same

def distV (st f s : Int) : V := if (f - s) % st = 0 then .int ((f - s) / st) else .non
def sp_Line_distance (A : Ad) (K : PySem.W.Frag) : Sp := fun vs H Q E => ∃ (p : Addr) (nm : Str) (st : Int) (x y : V) (kx ky : Kd), vs = [.ref p, x, y] ∧ LineAt A H p nm st ∧ 1 ≤ st ∧ st ≤ 6 ∧ Kn K H x kx ∧ Kn K H y ky ∧
  (btw x (-9) 9 = false → Rz E A.C_InvalidNumber H x) ∧ (btw x (-9) 9 = true → btw y (-9) 9 = false → Rz E A.C_InvalidNumber H y) ∧
  (∀ (f s : Int), x = .int f → y = .int s → btw x (-9) 9 = true → btw y (-9) 9 = true → ∀ H', Same H H' → Q (distV st f s) H')
theorem ok_Line_distance (T : Tx P A K mg) : FnOk P w K mg base (L2.CX P w) 4 A.a_Line_distance A.fd_Line_distance ["self", "first", "second"] (sp_Line_distance A K) := by
  refine T.F_Line_distance.okX sc_Line_distance (fun vs H Q E h => ?_) (fun cdv A' outer s H vs Q E hr h => ?_)
  · obtain ⟨p, nm, st, x, y, kx, ky, rfl, _⟩ := h
    rfl
  · obtain ⟨p, nm, st, x, y, kx, ky, rfl, ⟨dx, hp⟩, s0, s6, hx, hy, e1, e2, q⟩ := h
    refine ⟨_, (pss_cons (ps_for (passes_of rfl) rfl (pi_tup (pe_tup (pa_cons (pv 1) (pa_cons (pv 2) pa_nil)))) (pg_name (i := 3) sc_Line_distance.nd rfl (.inl rfl))
      (pss_one (ps_if (pt_not (pt_val (pe_call (ok_is_offset T) (hr.mono (by decide)) (by rfl) T.g_is_offset T.F_is_offset.kp T.b_is_offset .nil pass0 (pa_cons (pv 3) pa_nil)))) (pss_one (ps_raiseEr (by rfl) T.er_InvalidNumber (hr.mono (Nat.zero_le _)) (takes_of rfl rfl rfl rfl) (pa_cons (pv 3) pa_nil) (by rfl))) pss_nil)))
      (pss_cons (ps_if (pt_cmpR op_ne (pe_op op_mod (pe_op op_sub (pv 1) (pv 2)) (pe_fld (pv 0) rfl)) pe_int (nomark _)) (pss_one (ps_ret pe_non)) pss_nil)
      (pss_one (ps_ret (pe_op op_fdiv (pe_op op_sub (pv 1) (pv 2)) (pe_fld (pv 0) rfl)))))), ?_⟩
    refine ⟨_, rfl, _, rfl, by show 2 ≤ sizeLine; decide, fun t ht => ⟨t, rfl, ⟨_, SqT.of upd_same⟩, ?_⟩⟩
    refine for_tup (K := K) (a := t) (xs := [x, y]) (fun i σ H' => (∃ v, σ = [some (.ref p), some x, some y, v]) ∧ H' = upd H t (.tup [x, y]) ∧ (1 ≤ i → btw x (-9) 9 = true) ∧ (2 ≤ i → btw y (-9) 9 = true)) ⟨⟨_, rfl⟩, rfl, by omega, by omega⟩ ?_ ?_ ?_
    · rintro i σ H' _ ⟨_, rfl, _⟩
      exact SqT.of upd_same
    · rintro i z σ H' hi ⟨⟨v, rfl⟩, rfl, b1, b2⟩
      have sN := Same.new (o := .tup [x, y]) ht
      match i, hi with
      | 0, hi =>
        cases (show x = z from Option.some.inj hi)
        refine ⟨_, rfl, x, kx, rfl, hx.same sN, _, rfl, ?_⟩
        cases c1 : btw x (-9) 9 with
        | false => exact ⟨_, rfl, _, rfl, fun d hd => (e1 c1).go sN hd⟩
        | true => exact ⟨⟨_, rfl⟩, rfl, fun _ => rfl, by omega⟩
      | 1, hi =>
        cases (show y = z from Option.some.inj hi)
        refine ⟨_, rfl, y, ky, rfl, hy.same sN, _, rfl, ?_⟩
        cases c1 : btw y (-9) 9 with
        | false => exact ⟨_, rfl, _, rfl, fun d hd => (e2 (b1 (by omega)) c1).go sN hd⟩
        | true => exact ⟨⟨_, rfl⟩, rfl, fun _ => b1 (by omega), fun _ => rfl⟩
      | i + 2, hi => cases hi
    · rintro σ H' ⟨⟨v, rfl⟩, rfl, b1, b2⟩
      have c1 := b1 (by show 1 ≤ 2; omega)
      have c2 := b2 (by show 2 ≤ 2; omega)
      have sN := Same.new (o := .tup [x, y]) ht
      obtain ⟨f, rfl⟩ : ∃ st, x = .int st := by cases hx <;> first | exact ⟨_, rfl⟩ | cases c1
      obtain ⟨g, rfl⟩ : ∃ st, y = .int st := by cases hy <;> first | exact ⟨_, rfl⟩ | cases c2
      have q1 := q f g rfl rfl c1 c2 _ sN
      refine ⟨_, rfl, _, rfl, _, _, rfl, rfl, _, rfl, p, A.C_Line, dx, _, _, rfl, sN _ _ hp, T.cl_Line, T.n_Line_kept_stride, lf_stride _ _, _, _, rfl, rfl, by show (0 : Int) < st; omega, rfl, _, rfl, ?_⟩
      by_cases c3 : (f - g) % st = 0
      · have e : (!decide (V.int ((f - g) % st) = V.int 0)) = false := by rw [c3]; rfl
        refine ifF e ?_
        refine ⟨_, rfl, _, rfl, _, _, rfl, rfl, _, rfl, p, A.C_Line, dx, _, _, rfl, sN _ _ hp, T.cl_Line, T.n_Line_kept_stride, lf_stride _ _, _, _, rfl, rfl, ⟨by omega, by omega⟩, ?_⟩
        unfold distV at q1
        rw [if_pos c3] at q1
        exact q1
      · have e : (!decide (V.int ((f - g) % st) = V.int 0)) = true := by
          rw [decide_eq_false (fun z => c3 (V.int.inj z))]
          rfl
        refine ifT e ?_
        unfold distV at q1
        rw [if_neg c3] at q1
        exact q1

def sp__law_begin (K : PySem.W.Frag) : Sp := fun vs H Q _ => ∃ (a : Addr) (ns : List Int), vs = [.ref a] ∧ SqL K H a (ns.map V.int) ∧ ns.length ≤ 63 ∧ ∀ s L H', H s = none → Same H H' → Src H' s L → Q (.ref s) H'
theorem ok__law_begin (T : Tx P A K mg) : FnOk P w K mg base CX0 1 A.a__law_begin A.fd__law_begin ["script"] (sp__law_begin K) := by
  refine T.F__law_begin.ok sc__law_begin (fun vs H Q E h => ?_) (fun cdv A' outer s H vs Q E hr h => ?_)
  · obtain ⟨a, ns, rfl, _⟩ := h
    rfl
  · obtain ⟨a, ns, rfl, hS, hl, q⟩ := h
    refine ⟨_, (pss_one (ps_ret (pe_lst (pa_cons (pe_callTy call_list_of (by rfl) T.m_list bb_list (pa_cons (pe_slice sl_list (pv 0) po_none (po_some pe_int)) pa_nil)) (pa_cons pe_int (pa_cons pe_int (pa_cons pe_int pa_nil))))))), ?_⟩
    refine ⟨_, rfl, _, rfl, a, _, rfl, hS, fun p hp => ⟨p, _, rfl, .inl (SqL.of upd_same), fun l hl' => ⟨by show 4 ≤ sizeLine; decide, fun s' hs' => ?_⟩⟩⟩
    have nlp : l ≠ p := fun z => by rw [z, upd_same] at hl'; cases hl'
    have nsl : s' ≠ l := fun z => by rw [z, upd_same] at hs'; cases hs'
    have nsp : s' ≠ p := fun z => by rw [z, upd_ne nlp.symm, upd_same] at hs'; cases hs'
    have h1 : H s' = none := by rw [upd_ne nsl, upd_ne nsp] at hs'; exact hs'
    have hl0 : H l = none := by rw [upd_ne nlp] at hl'; exact hl'
    refine q s' l _ h1 (((Same.new hp).trans (Same.new hl')).trans (Same.new hs')) ⟨0, 0, 7, ns, upd_same, ?_, by omega, by omega, hl, by omega, by omega, by omega⟩
    rw [upd_ne nsl.symm, upd_same]
    congr 2
    have e : cutV (ns.map V.int) none (some 63) = (ns.map V.int).take 63 := by
      unfold cutV
      have e1 : HT.sIx (ns.map V.int).length (ns.map V.int).length (some 63) = min 63 (ns.map V.int).length := HT.sIx_nat _ _ 63
      rw [HT.sIx_none, e1, List.drop_zero, Nat.sub_zero]
      rw [List.take_eq_take_iff]
      simp
    rw [e]
    exact List.take_of_length_le (by rw [List.length_map]; exact hl)

def sp__law_draw : Sp := fun vs H Q _ => ∃ (s L : Addr) (n : Int), vs = [.ref s, .int n] ∧ Src H s L ∧ 0 < n ∧ n < 2 ^ 200 ∧ ∀ (d : Int) H', 0 ≤ d → d < n → Kp s H H' → Src H' s L → Q (.int d) H'
theorem ok__law_draw (T : Tx P A K mg) : FnOk P w K mg base CX0 1 A.a__law_draw A.fd__law_draw ["source", "limit"] sp__law_draw := by
  refine T.F__law_draw.ok sc__law_draw (fun vs H Q E h => ?_) (fun cdv A' outer s H vs Q E hr h => ?_)
  · obtain ⟨s, L, n, rfl, _⟩ := h
    rfl
  · obtain ⟨s, L, n, rfl, S, n0, n1, q⟩ := h
    refine ⟨_, (C8.pss_cut (ps_if (PW.pt (pw_and (pt_cmpR op_lt (pe_ix ix_list (pv 0) pe_int (fun _ _ => rfl)) (pe_op op_pow pe_int pe_int) (nomark _)) (pw_and1 (pt_cmpR op_lt (pe_ix ix_list (pv 0) pe_int (fun _ _ => rfl)) (pe_callB call_len_seq (by rfl) T.m_len bb_len (pa_cons (pe_ix ix_list (pv 0) pe_int (fun _ _ => rfl)) pa_nil)) (nomark _))))) (pss_cons (ps_set (i := 2) sc__law_draw.nd rfl (.inl rfl) (pe_callTy call_int1 (by rfl) T.m_int bb_int (pa_cons (pe_ix ix_list (pe_ix ix_list (pv 0) pe_int (fun _ _ => rfl)) (pe_ix ix_list (pv 0) pe_int (fun _ _ => rfl)) (fun _ _ => rfl)) pa_nil)))
      (pss_cons (ps_asg (pe_op op_add (pe_ix ix_list (pv 0) pe_int (fun _ _ => rfl)) pe_int) (pg_sub (pv 0) pe_int set_list))
      (pss_cons (ps_asg pe_int (pg_sub (pv 0) pe_int set_list))
      (C8.pss_cut (ps_if (pt_cmpR op_ge (pv 2) (pe_op op_pow pe_int pe_int) (nomark _)) (pss_one (ps_asg (pv 2) (pg_sub (pv 0) pe_int set_list))) pss_nil)
      (pss_one (ps_asg (pe_op op_mod (pe_callTy call_int1 (by rfl) T.m_int bb_int (pa_cons (pe_op op_add (pe_op op_add (pe_op op_mul (pe_ix ix_list (pv 0) pe_int (fun _ _ => rfl)) pe_int) (pe_op op_mod (pv 2) pe_int)) pe_int) pa_nil)) pe_int) (pg_sub (pv 0) pe_int set_list))))))) pss_nil)
      (pss_cons (ps_if (pt_cmpR op_ge (pe_ix ix_list (pv 0) pe_int (fun _ _ => rfl)) (pe_op op_pow pe_int pe_int) (nomark _)) (pss_cons (ps_set (i := 3) sc__law_draw.nd rfl (.inl rfl) (pe_op op_mod (pe_callTy call_int1 (by rfl) T.m_int bb_int (pa_cons (pe_ix ix_list (pv 0) pe_int (fun _ _ => rfl)) pa_nil)) (pv 1)))
      (pss_cons (ps_asg (pe_op op_fdivW (pe_ix ix_list (pv 0) pe_int (fun _ _ => rfl)) (pv 1)) (pg_sub (pv 0) pe_int set_list))
      (pss_one (ps_ret (pv 3))))) pss_nil)
      (pss_cons (ps_asg (pe_op op_mod (pe_callTy call_int1 (by rfl) T.m_int bb_int (pa_cons (pe_op op_add (pe_op op_mul (pe_ix ix_list (pv 0) pe_int (fun _ _ => rfl)) pe_int) pe_int) pa_nil)) pe_int) (pg_sub (pv 0) pe_int set_list))
      (pss_one (ps_ret (pe_op op_mod (pe_callTy call_int1 (by rfl) T.m_int bb_int (pa_cons (pe_op op_fdiv (pe_ix ix_list (pv 0) pe_int (fun _ _ => rfl)) pe_int) pa_nil)) (pv 1))))))), ?_⟩
    obtain ⟨i, qq, z, ns, hs, hL, i0, i1, hn, q0, z0, z1⟩ := id S
    have nLs : L ≠ s := ne_of hL hs (src_ne _ _ _ _ _)
    refine ⟨fun σ' H1 => ∃ v, σ' = [some (.ref s), some (.int n), v, none] ∧ Kp s H H1 ∧ Src H1 s L, ?_, ?_⟩
    · refine ⟨_, rfl, s, _, 2, _, rfl, rfl, SqL.of hs, rfl, _, _, rfl, rfl, ⟨by decide, by decide, by decide⟩, _, _, rfl, rfl, _, rfl, ?_⟩
      refine ite2 (fun c => ?_) (fun c => iteF ⟨_, rfl, Kp.refl s H, S⟩)
      refine ⟨_, rfl, s, _, 1, _, rfl, rfl, SqL.of hs, rfl, _, rfl, s, _, 0, _, rfl, rfl, SqL.of hs, rfl, L, _, rfl, .inl (SqL.of hL), _, _, rfl, rfl, _, rfl, ?_⟩
      refine ite2 (fun c2 => ?_) (fun c2 => ⟨_, rfl, Kp.refl s H, S⟩)
      have c3 : i < (ns.length : Int) := by
        have := of_decide_eq_true c2
        rw [List.length_map] at this
        exact this
      obtain ⟨j, rfl⟩ := Int.eq_ofNat_of_zero_le i0
      have hj : j < ns.length := by omega
      have ej : (ns.map V.int)[j]? = some (.int ns[j]) := by simp [hj]
      -- cell = int(source[0][source[1]])
      refine ⟨_, rfl, s, _, 0, _, rfl, rfl, SqL.of hs, rfl, _, rfl, s, _, 1, _, rfl, rfl, SqL.of hs, rfl, L, _, _, _, rfl, rfl, SqL.of hL, atI_nat ej, .inl ⟨_, rfl, ?_⟩⟩
      -- source[1] = source[1] + 1; source[2] = 0
      refine ⟨_, rfl, s, _, 1, _, rfl, rfl, SqL.of hs, rfl, _, _, rfl, rfl, _, rfl, s, _, 1, 1, rfl, rfl, hs, rfl, ?_⟩
      refine ⟨_, rfl, s, _, 2, 2, rfl, rfl, upd_same, rfl, ?_⟩
      refine ⟨fun σ' H1 => ∃ q', σ' = [some (.ref s), some (.int n), some (.int ns[j]), none] ∧ 0 ≤ q' ∧ Kp s H H1 ∧ H1 s = some (.lst [.ref L, .int ((j : Int) + 1), .int q', .int z]), ?_, ?_⟩
      · refine ⟨_, rfl, _, _, rfl, rfl, ⟨by decide, by decide, by decide⟩, _, _, rfl, rfl, _, rfl, ?_⟩
        refine ite2 (fun c4 => ?_) (fun c4 => ?_)
        · refine ⟨_, rfl, _, rfl, s, _, 2, 2, rfl, rfl, upd_same, rfl, ?_⟩
          have c5 := of_decide_eq_true c4
          rw [e18] at c5
          exact ⟨ns[j], rfl, by omega, (Kp.self.trans Kp.self).trans Kp.self, upd_same⟩
        · exact ⟨0, rfl, by omega, Kp.self.trans Kp.self, upd_same⟩
      · rintro σ' H1 ⟨q', rfl, hq', k1, h1⟩
        refine ⟨_, rfl, s, _, 3, _, rfl, rfl, SqL.of h1, rfl, _, _, rfl, rfl, .inr ⟨by decide, by decide⟩, _, rfl, _, _, rfl, rfl, by show (0 : Int) < 2147483629; decide, _, _, rfl, rfl, _, _, rfl, rfl, .inl ⟨_, rfl, _, _, rfl, rfl, by show (0 : Int) < 2147483647; decide, _, rfl, s, _, 3, 3, rfl, rfl, h1, rfl, ?_⟩⟩
        refine ⟨_, rfl, k1.trans Kp.self, (j : Int) + 1, q', _, ns, upd_same, ?_, by omega, by omega, hn, hq', Int.emod_nonneg _ (by decide), Int.emod_lt_of_pos _ (by decide)⟩
        rw [upd_ne nLs]
        exact k1 L _ hL nLs
    · rintro σ' H1 ⟨v, rfl, k1, S1⟩
      obtain ⟨i, qq, z, ns, hs, hL, i0, i1, hn, q0, z0, z1⟩ := S1
      refine ⟨_, rfl, s, _, 2, _, rfl, rfl, SqL.of hs, rfl, _, _, rfl, rfl, ⟨by decide, by decide, by decide⟩, _, _, rfl, rfl, _, rfl, ?_⟩
      refine ite2 (fun c => ?_) (fun c => ?_)
      · refine ⟨_, rfl, s, _, 2, _, rfl, rfl, SqL.of hs, rfl, .inl ⟨_, rfl, _, rfl, _, _, rfl, rfl, n0, ?_⟩⟩
        refine ⟨_, rfl, s, _, 2, _, rfl, rfl, SqL.of hs, rfl, _, rfl, _, _, rfl, rfl, wide_div n0 (b := 200) (by omega) (by decide) (by decide), _, rfl, s, _, 2, 2, rfl, rfl, hs, rfl, ?_⟩
        refine ⟨_, rfl, q _ _ (Int.emod_nonneg _ (by omega)) (Int.emod_lt_of_pos _ n0) (k1.trans Kp.self) ?_⟩
        refine ⟨i, qq / n, z, ns, upd_same, ?_, i0, i1, hn, Int.ediv_nonneg q0 (by omega), z0, z1⟩
        rw [upd_ne (ne_of hL hs (src_ne _ _ _ _ _))]
        exact hL
      · refine ⟨_, rfl, s, _, 3, _, rfl, rfl, SqL.of hs, rfl, _, _, rfl, rfl, .inr ⟨by decide, by decide⟩, _, _, rfl, rfl, .inl ⟨_, rfl, _, _, rfl, rfl, by show (0 : Int) < 2147483647; decide, _, rfl, s, _, 3, 3, rfl, rfl, hs, rfl, ?_⟩⟩
        refine ⟨_, rfl, s, _, 3, _, rfl, rfl, SqL.of upd_same, rfl, _, _, rfl, rfl, ⟨by decide, by decide⟩, .inl ⟨_, rfl, _, rfl, _, _, rfl, rfl, n0, ?_⟩⟩
        refine q _ _ (Int.emod_nonneg _ (by omega)) (Int.emod_lt_of_pos _ n0) (k1.trans Kp.self) ?_
        refine ⟨i, qq, _, ns, upd_same, ?_, i0, i1, hn, q0, Int.emod_nonneg _ (by decide), Int.emod_lt_of_pos _ (by decide)⟩
        rw [upd_ne (ne_of hL hs (src_ne _ _ _ _ _))]
        exact hL

def sp__law_pick (K : PySem.W.Frag) : Sp := fun vs H Q _ => ∃ (s L : Addr) (v : V), vs = [.ref s, v] ∧ Src H s L ∧
  ((∃ (p : Addr) (xs : List V), v = .ref p ∧ p ≠ s ∧ SqL K H p xs ∧ 0 < xs.length ∧ xs.length ≤ 100000 ∧ ∀ x ∈ xs, ∀ H', Kp s H H' → Src H' s L → Q x H') ∨
   (∃ z : Str, v = .str z ∧ 0 < z.length ∧ z.length ≤ 100000 ∧ ∀ c ∈ z.cps.toList, ∀ H', Kp s H H' → Src H' s L → Q (.str ⟨#[c]⟩) H'))
theorem ok__law_pick (T : Tx P A K mg) : FnOk P w K mg base CX0 2 A.a__law_pick A.fd__law_pick ["source", "items"] (sp__law_pick K) := by
  refine T.F__law_pick.ok sc__law_pick (fun vs H Q E h => ?_) (fun cdv A' outer s H vs Q E hr h => ?_)
  · obtain ⟨s, L, v, rfl, _⟩ := h
    rfl
  · obtain ⟨s, L, v, rfl, S, h⟩ := h
    refine ⟨_, (pss_one (ps_ret (pe_ix ix_seq (pv 1) (pe_call (ok__law_draw T) (hr.mono (by decide)) (by rfl) T.g__law_draw T.F__law_draw.kp T.b__law_draw .nil pass0 (pa_cons (pv 0) (pa_cons (pe_callB call_len (by rfl) T.m_len bb_len (pa_cons (pv 1) pa_nil)) pa_nil))) (fun _ _ => rfl)))), ?_⟩
    rcases h with ⟨p, xs, rfl, nps, hp, l0, l1, q⟩ | ⟨z, rfl, l0, l1, q⟩
    · refine ⟨_, rfl, _, rfl, _, rfl, _, _, rfl, .inl ⟨xs, hp, rfl⟩, s, L, _, rfl, S, by omega, big_of l1, fun d H' d0 d1 k1 S1 => .inl ?_⟩
      obtain ⟨j, rfl⟩ := Int.eq_ofNat_of_zero_le d0
      have hj : j < xs.length := by omega
      exact ⟨p, xs, _, xs[j], rfl, rfl, k1.l nps hp, atI_nat (by simp [hj]), q _ (List.getElem_mem hj) _ k1 S1⟩
    · refine ⟨_, rfl, _, rfl, _, rfl, _, _, rfl, ⟨sz_of l1, rfl⟩, s, L, _, rfl, S, by omega, big_of l1, fun d H' d0 d1 k1 S1 => .inr (.inr ?_)⟩
      obtain ⟨j, rfl⟩ := Int.eq_ofNat_of_zero_le d0
      have hj : j < z.cps.toList.length := by
        have e : z.length = z.cps.toList.length := by simp [PySem.Str.length]
        omega
      exact ⟨z, _, z.cps.toList[j], rfl, rfl, sz_of l1, atI_nat (by simp only [List.getElem?_eq_getElem hj]), q _ (List.getElem_mem hj) _ k1 S1⟩

def sp__law_mixed (K : PySem.W.Frag) : Sp := fun vs H Q _ => ∃ (s L p : Addr) (zs : List Str), vs = [.ref s, .ref p] ∧ Src H s L ∧ SqL K H p (zs.map V.str) ∧ zs.length ≤ 100 ∧ (∀ z ∈ zs, ascii z) ∧
  ∀ (r : Addr) (ys : List Str) H', H r = none → ys.Perm zs → Kp s H H' → Src H' s L → H' r = some (.lst (ys.map V.str)) → Q (.ref r) H'
theorem ok__law_mixed (T : Tx P A K mg) : FnOk P w K mg base CX0 2 A.a__law_mixed A.fd__law_mixed ["source", "items"] (sp__law_mixed K) := by
  refine T.F__law_mixed.ok sc__law_mixed (fun vs H Q E h => ?_) (fun cdv A' outer s H vs Q E hr h => ?_)
  · obtain ⟨s, L, p, zs, rfl, _⟩ := h
    rfl
  · obtain ⟨s, L, p, zs, rfl, S, hp, hn, ha, q⟩ := h
    refine ⟨_, (pss_cons (ps_par (i := 2) (j := 3) (by rfl) sc__law_mixed.nd rfl rfl (by decide) rfl rfl (pa_cons (pe_callTy call_list_of (by rfl) T.m_list bb_list (pa_cons (pv 1) pa_nil)) (pa_cons (pe_lst pa_nil) pa_nil)) (by rfl))
      (pss_cons (ps_while PassesOwn.never (pt_cmpR (op_neD hr.units) (pv 2) (pe_lst pa_nil) (nomark _))
      (pss_one (ps_expr (pe_bm PySem.F.plainAttrs_list PySem.F.slot_list_append PySem.F.type_list_append mt_append (pv 3) (pa_cons (pe_bm PySem.F.plainAttrs_list PySem.F.slot_list_pop PySem.F.type_list_pop mt_popAt (pv 2) (pa_cons (pe_call (ok__law_draw T) (hr.mono (by decide)) (by rfl) T.g__law_draw T.F__law_draw.kp T.b__law_draw .nil pass0 (pa_cons (pv 0) (pa_cons (pe_callB call_len_seq (by rfl) T.m_len bb_len (pa_cons (pv 2) pa_nil)) pa_nil))) pa_nil)) pa_nil)))))
      (pss_one (ps_ret (pv 3))))), ?_⟩
    refine ⟨_, rfl, p, _, rfl, .inl hp, fun l hl => ⟨Nat.zero_le _, fun r hr' => ⟨_, _, rfl, ?_⟩⟩⟩
    have nl := S.fresh hl
    have S1 := S.new (o := .lst (zs.map V.str)) hl
    have nr := S1.fresh hr'
    have nrl : r ≠ l := fun z => by rw [z, upd_same] at hr'; cases hr'
    have hr0 : H r = none := by rw [upd_ne nrl] at hr'; exact hr'
    refine ⟨fun m σ H' => ∃ left found : List Str, σ = [some (.ref s), some (.ref p), some (.ref l), some (.ref r)] ∧ m = left.length ∧ (left ++ found).Perm zs ∧ H' l = some (.lst (left.map V.str)) ∧ H' r = some (.lst (found.map V.str)) ∧ Kp s H H' ∧ Src H' s L, ⟨_, zs, [], rfl, rfl, by rw [List.append_nil], by rw [upd_ne nrl.symm, upd_same], upd_same, (Kp.new hl).trans (Kp.new hr'), S1.new hr'⟩, ?_⟩
    rintro m σ H1 ⟨left, found, rfl, rfl, pm, h1, h2, k1, S2⟩
    have hle : left.length + found.length = zs.length := by
      rw [← pm.length_eq, List.length_append]
    have hal : ∀ z ∈ left, ascii z := fun z hz => ha z (pm.mem_iff.mp (List.mem_append_left _ hz))
    refine ⟨_, rfl, Nat.zero_le _, fun e he => ⟨.list (left.map PyData.str), .list [], .lst (SqL.of ((Same.new he) _ _ h1)) (dp_strs _), .lst (SqL.of upd_same) .nil, shaped_strs _ hal, rfl, _, rfl, ?_⟩⟩
    cases left with
    | nil =>
      refine ifF rfl ?_
      refine ⟨_, rfl, q r found _ hr0 pm (k1.trans (Kp.new he)) (S2.new he) ?_⟩
      rw [upd_ne (ne_of_none h2 he)]
      exact h2
    | cons a left =>
      refine ifT rfl ?_
      have S3 := S2.new (o := .lst []) he
      have h1' := (Same.new (o := .lst []) he) _ _ h1
      have h2' := (Same.new (o := .lst []) he) _ _ h2
      have k1' := k1.trans (Kp.new (o := .lst []) he)
      refine ⟨_, fun _ _ h => h, ?_⟩
      refine ⟨_, rfl, .inl ⟨rfl, _, SqL.of h2'⟩, _, rfl, .inl ⟨rfl, _, SqL.of h1'⟩, _, rfl, _, rfl, l, _, rfl, .inl (SqL.of h1'), s, L, _, rfl, S3, ?_, ?_, fun d H3 d0 d1 k3 S4 => ?_⟩
      · rw [List.length_map, List.length_cons]
        omega
      · rw [List.length_map]
        refine big_of ?_
        rw [List.length_cons] at hle ⊢
        omega
      obtain ⟨j, rfl⟩ := Int.eq_ofNat_of_zero_le d0
      have hj : j < (a :: left).length := by rw [List.length_map] at d1; omega
      have h3 := k3 _ _ h1' nl.1
      have h4 := k3 _ _ h2' nr.1
      have hlen : (a :: left).length ≤ 100 := by rw [List.length_cons] at hle ⊢; omega
      refine ⟨l, _, _, j, .str (a :: left)[j], rfl, rfl, h3, by omega, by omega, ?_, ?_, ?_⟩
      · rw [List.length_map]
        exact seqIndex_nat hj
      · rw [List.getElem?_map, List.getElem?_eq_getElem hj]
        rfl
      · refine ⟨r, _, _, rfl, rfl, by rw [upd_ne nrl]; exact h4, ?_, ?_⟩
        · rw [List.length_map]
          refine sz_lt ?_
          rw [List.length_cons] at hle
          omega
        · refine ⟨((a :: left).eraseIdx j).length, ?_, (a :: left).eraseIdx j, found ++ [(a :: left)[j]], rfl, rfl, ?_, ?_, ?_, ?_, ?_⟩
          · rw [List.length_eraseIdx_of_lt hj]
            omega
          · refine List.Perm.trans ?_ pm
            refine List.Perm.trans ?_ ((erase_perm _ j hj).append_right found)
            rw [← List.append_assoc]
            exact List.perm_append_comm
          · rw [upd_ne nrl.symm, upd_same, map_erase]
          · rw [upd_same, List.map_append]
            rfl
          · exact ((k1'.trans k3).mut hl).mut hr0
          · exact (S4.mut nl).mut nr

def sp__law_stem (K : PySem.W.Frag) : Sp := fun vs H Q _ => ∃ (s L : Addr), vs = [.ref s] ∧ Src H s L ∧ ∀ (z : Str) H', z.length ≤ 5 → lets z → Kp s H H' → Src H' s L → Q (.str z) H'
theorem ok__law_stem (T : Tx P A K mg) : FnOk P w K mg base CX0 3 A.a__law_stem A.fd__law_stem ["source"] (sp__law_stem K) := by
  refine T.F__law_stem.ok sc__law_stem (fun vs H Q E h => ?_) (fun cdv A' outer s H vs Q E hr h => ?_)
  · obtain ⟨s, L, rfl, _⟩ := h
    rfl
  · obtain ⟨s, L, rfl, S, q⟩ := h
    refine ⟨_, (pss_cons (ps_set (i := 1) sc__law_stem.nd rfl (.inl rfl) pe_str)
      (pss_one (ps_ret (pe_op op_add_str (pe_op op_mulS (pe_call (ok__law_pick T) (hr.mono (by decide)) (by rfl) T.g__law_pick T.F__law_pick.kp T.b__law_pick .nil pass0 (pa_cons (pv 0) (pa_cons (pv 1) pa_nil))) (pe_call (ok__law_draw T) (hr.mono (by decide)) (by rfl) T.g__law_draw T.F__law_draw.kp T.b__law_draw .nil pass0 (pa_cons (pv 0) (pa_cons pe_int pa_nil)))) (pe_call (ok__law_pick T) (hr.mono (by decide)) (by rfl) T.g__law_pick T.F__law_pick.kp T.b__law_pick .nil pass0 (pa_cons (pv 0) (pa_cons (pe_lst (pa_cons pe_str (pa_cons pe_str (pa_cons pe_str pa_nil)))) pa_nil))))))), ?_⟩
    refine ⟨_, rfl, _, rfl, s, L, _, rfl, S, .inr ⟨LET, rfl, by decide, by decide, fun c hc H1 k1 S1 => ?_⟩⟩
    refine ⟨_, rfl, s, L, 4, rfl, S1, by decide, by decide, fun n H2 n0 n1 k2 S2 => ⟨_, _, rfl, rfl, mulOk_small n0 (by omega) (by show 1 ≤ 100; decide), ?_⟩⟩
    refine ⟨_, rfl, by show 3 ≤ sizeLine; decide, fun p hp => ?_⟩
    refine ⟨s, L, _, rfl, S2.new hp, .inl ⟨p, _, rfl, (S2.fresh hp).1, SqL.of upd_same, by decide, by decide, fun x hx H3 k3 S3 => ?_⟩⟩
    obtain ⟨x, rfl, hx1, hx2⟩ : ∃ y : Str, x = .str y ∧ y.length ≤ 2 ∧ lets y := by
      simp only [List.mem_cons, List.not_mem_nil, or_false] at hx
      rcases hx with rfl | rfl | rfl
      · exact ⟨_, rfl, by decide, fun c hc => by cases hc⟩
      · exact ⟨_, rfl, by decide, by unfold lets; decide +kernel⟩
      · exact ⟨_, rfl, by decide, by unfold lets; decide +kernel⟩
    obtain ⟨m1, m2⟩ := mul_cps ⟨#[c]⟩ n
    have m3 : (PySem.Txt.mul ⟨#[c]⟩ n).length ≤ 3 := by
      have e : (⟨#[c]⟩ : Str).length = 1 := rfl
      rw [e] at m2
      omega
    refine ⟨_, _, rfl, rfl, sz_of (by omega), ?_⟩
    refine q _ _ ?_ ?_ (((k1.trans k2).trans (Kp.new hp)).trans k3) S3
    · rw [PySem.Str.length_append]
      omega
    · intro c' hc'
      rcases app_mem hc' with h | h
      · have := m1 c' h
        have e : c' = c := by simpa using this
        rw [e]
        exact decide_eq_true hc
      · exact hx2 c' h

def sp__law_names (K : PySem.W.Frag) : Sp := fun vs H Q _ => ∃ (s L : Addr) (n : Nat), vs = [.ref s, .int n] ∧ Src H s L ∧ n ≤ 26 ∧
  ∀ (r : Addr) (ws : List Str) H', H r = none → ws.length = n → (∀ w ∈ ws, lets w ∧ 1 ≤ w.length ∧ w.length ≤ 6) → ws.Nodup → Kp s H H' → Src H' s L → H' r = some (.lst (ws.map V.str)) → Q (.ref r) H'
theorem ok__law_names (T : Tx P A K mg) : FnOk P w K mg base CX0 4 A.a__law_names A.fd__law_names ["source", "many"] (sp__law_names K) := by
  refine T.F__law_names.ok sc__law_names (fun vs H Q E h => ?_) (fun cdv A' outer s H vs Q E hr h => ?_)
  · obtain ⟨s, L, n, rfl, _⟩ := h
    rfl
  · obtain ⟨s, L, n, rfl, S, hn, q⟩ := h
    refine ⟨_, (pss_cons (ps_set (i := 2) sc__law_names.nd rfl (.inr rfl) (pe_call (ok__law_stem T) (hr.mono (by decide)) (by rfl) T.g__law_stem T.F__law_stem.kp T.b__law_stem .nil pass0 (pa_cons (pv 0) pa_nil)))
      (pss_cons (ps_set (i := 3) sc__law_names.nd rfl (.inl rfl) (pe_call (ok__law_mixed T) (hr.mono (by decide)) (by rfl) T.g__law_mixed T.F__law_mixed.kp T.b__law_mixed .nil pass0 (pa_cons (pv 0) (pa_cons (pe_callTy (call_listS (by rfl)) (by rfl) T.m_list bb_list (pa_cons pe_str pa_nil)) pa_nil))))
      (pss_one (ps_ret (pe_lc (own := [("letter", 4)]) (g := gName 4) (tt := tYes) (by rfl) sc__law_names.nd (pi_list (pe_slice sl_list (pv 3) po_none (po_some (pv 1)))) (blkOk_by (own := [("letter", 4)]) (N := N__law_names) (sc := defScope s__law_names) (by decide +kernel)) (fun _ _ _ _ _ => (pg_name (i := 4) sc__law_names.nd rfl (.inl rfl))) (fun _ _ _ _ _ => pts_nil) (fun _ _ _ _ _ => (pe_op op_add_str (pv 2) (pv 4)))))))), ?_⟩
    refine ⟨_, rfl, s, L, rfl, S, fun st H1 st5 stl k1 S1 => ?_⟩
    refine ⟨_, rfl, LET, rfl, by decide, fun l0 hl0 => ?_⟩
    have el : (LET.cps.toList.map fun c => V.str ⟨#[c]⟩) = (LET.cps.toList.map fun c => (⟨#[c]⟩ : Str)).map V.str := by rw [List.map_map]; rfl
    refine ⟨s, L, l0, _, rfl, S1.new hl0, SqL.of (by rw [upd_same, el]), by decide, ?_, fun r0 ys H2 hr0 pm k2 S2 h2 => ?_⟩
    · intro z hz
      obtain ⟨c, hc, rfl⟩ := List.mem_map.mp hz
      intro c' hc'
      have e : c' = c := by simpa using hc'
      rw [e]
      exact (by decide : ∀ c ∈ LET.cps.toList, c < 128) c hc
    have ylen : ys.length = 26 := by rw [pm.length_eq]; decide
    have yone : ∀ y ∈ ys, lets y ∧ y.length = 1 := by
      intro y hy
      obtain ⟨c, hc, rfl⟩ := List.mem_map.mp (pm.mem_iff.mp hy)
      refine ⟨fun c' hc' => ?_, rfl⟩
      have e : c' = c := by simpa using hc'
      rw [e]
      exact decide_eq_true hc
    have ynd : ys.Nodup := pm.nodup_iff.mpr (by decide +kernel)
    refine ⟨_, rfl, _, rfl, _, rfl, r0, _, rfl, SqL.of h2, fun c hc => ⟨c, rfl, ⟨_, SqL.of upd_same⟩, fun D hD => ?_⟩⟩
    have ecut : cutV (ys.map V.str) none (some (n : Int)) = (ys.take n).map V.str := by
      unfold cutV
      have e1 : HT.sIx (ys.map V.str).length (ys.map V.str).length (some (n : Int)) = min n (ys.map V.str).length := HT.sIx_nat _ _ n
      rw [HT.sIx_none, e1, List.drop_zero, Nat.sub_zero, List.length_map, ylen, Nat.min_eq_left hn, List.map_take]
    rw [ecut] at hD ⊢
    have hDc : D ≠ c := fun z => by rw [z, upd_same] at hD; cases hD
    have S3 := S2.new (o := .lst ((ys.take n).map V.str)) hc
    have nD := S3.fresh hD
    have hD0 : H2 D = none := by rw [upd_ne hDc] at hD; exact hD
    have kH2 : Kp s H H2 := (k1.trans (Kp.new hl0)).trans k2
    have tl : (ys.take n).length = n := by rw [List.length_take, ylen]; omega
    refine lc_list (K := K) (a := c) (xs := (ys.take n).map V.str) (fun i H' => H' c = some (.lst ((ys.take n).map V.str)) ∧ Kp s H H' ∧ Src H' s L ∧ H' D = some (.lst ((((ys.take n).take i).map fun y => st ++ y).map V.str))) ?_ ?_ ?_ ?_
    · exact ⟨by rw [upd_ne hDc.symm, upd_same], (kH2.trans (Kp.new hc)).trans (Kp.new hD), S3.new hD, upd_same⟩
    · rintro i H' _ ⟨h, _⟩
      exact SqL.of h
    · rintro i x H' hi ⟨hc', k', S', hd'⟩
      obtain ⟨y, hy, rfl⟩ : ∃ y, (ys.take n)[i]? = some y ∧ x = .str y := by
        rw [List.getElem?_map] at hi
        cases e : (ys.take n)[i]? with
        | none => rw [e] at hi; cases hi
        | some y => rw [e] at hi; exact ⟨y, rfl, (Option.some.inj hi).symm⟩
      have hmem : y ∈ ys := List.mem_of_mem_take (List.mem_of_getElem? hy)
      have y1 := (yone y hmem).2
      refine ⟨rfl, _, rfl, _, rfl, st, y, rfl, rfl, sz_of (by omega), _, hd', ?_, ?_, ?_, S'.mut nD, ?_⟩
      · rw [List.length_map, List.length_map, List.length_take]
        refine sz_lt (Nat.lt_of_le_of_lt (Nat.min_le_right _ _) (by omega))
      · rw [upd_ne hDc.symm]
        exact hc'
      · exact k'.mut (by
          cases e : H D with
          | none => rfl
          | some o =>
            have := kH2 D o e nD.1
            rw [hD0] at this
            cases this)
      · rw [upd_same, take_succ_of hy, List.map_append, List.map_append]
        rfl
    · rintro H' ⟨hc', k', S', hd'⟩
      rw [List.length_map, List.take_length] at hd'
      refine q D ((ys.take n).map fun y => st ++ y) H' ?_ (by rw [List.length_map, tl]) ?_ ?_ k' S' hd'
      · cases e : H D with
        | none => rfl
        | some o =>
          have := kH2 D o e nD.1
          rw [hD0] at this
          cases this
      · intro w hw
        obtain ⟨y, hy, rfl⟩ := List.mem_map.mp hw
        have hy' := yone y (List.mem_of_mem_take hy)
        refine ⟨fun c hc => ?_, ?_, ?_⟩
        · rcases app_mem hc with h | h
          · exact stl c h
          · exact hy'.1 c h
        · rw [PySem.Str.length_append, hy'.2]
          omega
        · rw [PySem.Str.length_append, hy'.2]
          omega
      · exact nodup_map (fun a b e => app_inj e) (List.Nodup.sublist (List.take_sublist _ _) ynd)

def sp__law_tried (A : Ad) (K : PySem.W.Frag) : Sp := fun vs H Q _ => ∃ (p : Addr) (nm : Str) (st f g : Int), vs = [.ref p, .int f, .int g] ∧ LineAt A H p nm st ∧ ascii nm ∧ 1 ≤ st ∧ st ≤ 6 ∧ -9 ≤ f ∧ f ≤ 9 ∧ -9 ≤ g ∧ g ≤ 9 ∧
  ∀ (r : Addr) H', H r = none → Same H H' → H' r = some (.lst ((distL st f g).map V.int)) → Q (.ref r) H'
theorem ok__law_tried (T : Tx P A K mg) : FnOk P w K mg base CX0 5 A.a__law_tried A.fd__law_tried ["line", "first", "second"] (sp__law_tried A K) := by
  refine T.F__law_tried.ok sc__law_tried (fun vs H Q E h => ?_) (fun cdv A' outer s H vs Q E hr h => ?_)
  · obtain ⟨p, nm, st, f, g, rfl, _⟩ := h
    rfl
  · obtain ⟨p, nm, st, f, g, rfl, hp, ha, s0, s6, f0, f1, g0, g1, q⟩ := h
    refine ⟨_, (pss_cons (ps_setLc (i := 3) (own := [("at", 4)]) (g := gName 4) (tt := tYes) (by rfl) sc__law_tried.nd rfl rfl (sw_true rfl rfl rfl (by decide +kernel)) (pi_range1 (by rfl) T.m_range (pa_cons pe_int pa_nil)) (blkOk_by (own := [("at", 4)]) (N := N__law_tried) (sc := defScope s__law_tried) (by decide +kernel)) (fun _ _ _ _ _ => (pg_name (i := 4) sc__law_tried.nd rfl (.inl rfl))) (fun _ _ _ _ _ => pts_nil) (fun _ _ _ _ _ => (pe_meth (pv 0) T.cl_Line T.me_Line_cell (ok_Line_cell T) (hr.mono (by decide)) T.b_Line_cell .nil passC (pa_cons (pv 2) (pa_cons (pv 4) pa_nil)))))
      (pss_cons (ps_set (i := 5) sc__law_tried.nd rfl (.inl rfl) (pe_lst pa_nil))
      (pss_cons (ps_for PassesOwn.never rfl (pi_range1 (by rfl) T.m_range (pa_cons pe_int pa_nil)) (pg_name (i := 4) sc__law_tried.nd rfl (.inl rfl))
      (pss_cons (ps_set (i := 6) sc__law_tried.nd rfl (.inl rfl) (pe_meth (pv 0) T.cl_Line T.me_Line_cell (ok_Line_cell T) (hr.mono (by decide)) T.b_Line_cell .nil passC (pa_cons (pv 1) (pa_cons (pv 4) pa_nil))))
      (pss_one (ps_if (PW.pt (pw_and (pt_cmpR (op_inD (hu_in hr)) (pv 6) (pv 3) (by rfl)) (pw_and1 (pt_cmpR op_notIn_seq (pe_op op_sub (pe_bm PySem.F.plainAttrs_list PySem.F.slot_list_index PySem.F.type_list_index (mt_indexD (hu_in hr)) (pv 3) (pa_cons (pv 6) pa_nil)) (pv 4)) (pv 5) (by rfl))))) (pss_one (ps_expr (pe_bm PySem.F.plainAttrs_list PySem.F.slot_list_append PySem.F.type_list_append mt_append (pv 5) (pa_cons (pe_op op_sub (pe_bm PySem.F.plainAttrs_list PySem.F.slot_list_index PySem.F.type_list_index (mt_indexD (hu_in hr)) (pv 3) (pa_cons (pv 6) pa_nil)) (pv 4)) pa_nil)))) pss_nil))))
      (pss_one (ps_ret (pv 5)))))), ?_⟩
    have bo : ∀ x : Int, -9 ≤ x → x ≤ 9 → btw (.int x) (-9) 9 = true := fun x h0 h1 => by
      show (decide ((-9 : Int) ≤ x) && decide (x ≤ 9)) = true
      rw [decide_eq_true h0, decide_eq_true h1]
      rfl
    -- cells = [line.cell(second, at) for at in range(30)]
    refine ⟨30, rfl, by decide, by decide, fun D hD => ?_⟩
    refine lc_range (lo := 0) (n := 30) (fun i H' => Same H H' ∧ ∃ ts : List Addr, ts.length = i ∧ H' D = some (.lst (ts.map V.ref)) ∧ ∀ (j : Nat) (t : Addr), ts[j]? = some t → H' t = some (.tup [.str nm, .int (st * j + g)])) ?_ ?_ ?_
    · exact ⟨Same.new hD, [], rfl, upd_same, fun j t h => by cases h⟩
    · rintro i H' hi ⟨s1, ts, hl, hd, ht⟩
      obtain ⟨dx, hp1⟩ := hp.same s1
      refine ⟨rfl, _, rfl, p, dx, _, rfl, hp1, by first | rfl | kernel_rfl, _, rfl, _, rfl, p, nm, st, _, _, .int, .int, rfl, ⟨dx, hp1⟩, s0, s6, .int _, .int _, fun z => ?_, fun _ z => ?_, fun o i' e1 e2 _ _ t H2 nt s2 h2 => ?_⟩
      · rw [bo g g0 g1] at z
        cases z
      · exfalso
        have z' : decide ((0 : Int) ≤ 0 + (i : Int)) = false := z
        exact of_decide_eq_false z' (by omega)
      · cases e1
        cases e2
        have hDt : D ≠ t := fun z => by rw [z, nt] at hd; cases hd
        refine ⟨_, s2 _ _ hd, ?_, (s1.trans s2).mut hD, ts ++ [t], ?_, ?_, ?_⟩
        · rw [List.length_map]
          exact sz_lt (by omega)
        · rw [List.length_append, hl]
          rfl
        · rw [upd_same, List.map_append]
          rfl
        · intro j t' hj
          by_cases c : j < ts.length
          · rw [List.getElem?_append_left c] at hj
            have h3 := s2 _ _ (ht j t' hj)
            rw [upd_ne (ne_of h3 (s2 _ _ hd) (by intro z; cases z))]
            exact h3
          · rw [List.getElem?_append_right (by omega)] at hj
            have e : j - ts.length = 0 := by
              have := (List.getElem?_eq_some_iff.mp hj).1
              simp at this
              omega
            rw [e] at hj
            cases hj
            rw [upd_ne hDt.symm, h2]
            have ej : j = i := by omega
            subst ej
            rw [Int.zero_add]
    · rintro H1 ⟨s1, ts, hl, hd, ht⟩
      -- found = []
      refine ⟨Nat.zero_le _, fun r hr' => ?_⟩
      have hrD : r ≠ D := fun z => by rw [z, hd] at hr'; cases hr'
      refine ⟨30, rfl, by decide, by decide, for_range (lo := 0) (n := 30) (fun i σ H' => ∃ (a b : Option V) (fs : List Int), σ = [some (.ref p), some (.int f), some (.int g), some (.ref D), a, some (.ref r), b] ∧ Same H1 H' ∧ H' r = some (.lst (fs.map V.int)) ∧
        ((fs = [] ∧ ∀ x : Nat, x < i → ∀ j : Nat, j < 30 → st * (j : Int) + g ≠ st * (x : Int) + f) ∨ ((f - g) % st = 0 ∧ fs = [(f - g) / st]))) ⟨_, _, [], rfl, Same.new hr', upd_same, .inl ⟨rfl, fun x hx => by omega⟩⟩ ?_ ?_⟩
      · rintro i σ H2 hi ⟨a, b, fs, rfl, s2, hr2, inv⟩
        obtain ⟨dx, hp2⟩ := (hp.same s1).same s2
        refine ⟨_, rfl, p, dx, _, rfl, hp2, by first | rfl | kernel_rfl, _, rfl, _, rfl, p, nm, st, _, _, .int, .int, rfl, ⟨dx, hp2⟩, s0, s6, .int _, .int _, fun z => ?_, fun _ z => ?_, fun o i' e1 e2 _ _ t H3 nt s3 h3 => ?_⟩
        · rw [bo f f0 f1] at z
          cases z
        · exfalso
          have z' : decide ((0 : Int) ≤ 0 + (i : Int)) = false := z
          exact of_decide_eq_false z' (by omega)
        · cases e1
          cases e2
          have hd3 := (s2.trans s3) _ _ hd
          have hr3 := s3 _ _ hr2
          have ei : (0 : Int) + (i : Int) = (i : Int) := by omega
          rw [ei] at h3
          have dC : Dp K H3 (.ref D) (.list ((List.range 30).map fun (j : Nat) => cellD nm (st * (j : Int) + g))) := by
            refine .lst (SqL.of hd3) (dpAll_of _ _ (by rw [List.length_map, List.length_map, hl, List.length_range]) fun j v d hv hd' => ?_)
            rw [List.getElem?_map] at hv hd'
            cases e4 : ts[j]? with
            | none => rw [e4] at hv; cases hv
            | some t' =>
              rw [e4] at hv
              cases hv
              have hj : j < 30 := by
                have := (List.getElem?_eq_some_iff.mp e4).1
                omega
              rw [List.getElem?_range hj] at hd'
              cases hd'
              exact .tup (SqT.of ((s2.trans s3) _ _ (ht j t' e4))) (.cons (.str _) (.cons (.int _) .nil))
          have dH : Dp K H3 (.ref t) (cellD nm (st * (i : Int) + f)) := .tup (SqT.of h3) (.cons (.str _) (.cons (.int _) .nil))
          have shC : SeqAt.shaped (.list ((List.range 30).map fun (j : Nat) => cellD nm (st * (j : Int) + g))) = true := shapedL fun d hd' => by
            obtain ⟨j, _, rfl⟩ := List.mem_map.mp hd'
            exact cellD_lay ha _
          have shH := cellD_shaped ha (st * (i : Int) + f)
          have any_iff : ((List.range 30).map fun (j : Nat) => cellD nm (st * (j : Int) + g)).any (fun z => PyData.eqv z (cellD nm (st * (i : Int) + f))) = true ↔ ∃ j : Nat, j < 30 ∧ st * (j : Int) + g = st * (i : Int) + f := by
            rw [List.any_map, List.any_eq_true]
            constructor
            · rintro ⟨j, hj, e⟩
              have e' : PyData.eqv (cellD nm (st * (j : Int) + g)) (cellD nm (st * (i : Int) + f)) = true := e
              rw [cellD_eqv] at e'
              exact ⟨j, List.mem_range.mp hj, of_decide_eq_true e'⟩
            · rintro ⟨j, hj, e⟩
              refine ⟨j, List.mem_range.mpr hj, ?_⟩
              show PyData.eqv (cellD nm (st * (j : Int) + g)) (cellD nm (st * (i : Int) + f)) = true
              rw [cellD_eqv]
              exact decide_eq_true e
          refine ⟨_, rfl, _, rfl, _, _, dH, dC, shH, shC, _, rfl, ?_⟩
          cases hany : ((List.range 30).map fun (j : Nat) => cellD nm (st * (j : Int) + g)).any (fun z => PyData.eqv z (cellD nm (st * (i : Int) + f))) with
          | false =>
            refine ⟨_, _, fs, rfl, s2.trans s3, hr3, ?_⟩
            rcases inv with ⟨e, no⟩ | inv
            · refine .inl ⟨e, fun x hx j hj e2 => ?_⟩
              by_cases c : x < i
              · exact no x c j hj e2
              · have : x = i := by omega
                subst this
                have := any_iff.mpr ⟨j, hj, e2⟩
                rw [hany] at this
                cases this
            · exact .inr inv
          | true =>
            obtain ⟨j, hj, ej⟩ := any_iff.mp hany
            obtain ⟨m1, m2⟩ := dist_meet s0 ej
            have uniq : ∀ m : Nat, m < 30 → st * (m : Int) + g = st * (i : Int) + f → m = j := fun m hm em => by
              have := (dist_meet s0 em).2
              omega
            have i1 : ((List.range 30).map fun (j : Nat) => cellD nm (st * (j : Int) + g))[j]? = some (cellD nm (st * (j : Int) + g)) := by
              rw [List.getElem?_map, List.getElem?_range hj]
              rfl
            have i2 : PyData.eqv (cellD nm (st * (j : Int) + g)) (cellD nm (st * (i : Int) + f)) = true := by
              rw [cellD_eqv]
              exact decide_eq_true ej
            have i3 : ∀ (m : Nat) (z' : PyData), m < j → ((List.range 30).map fun (j : Nat) => cellD nm (st * (j : Int) + g))[m]? = some z' → PyData.eqv z' (cellD nm (st * (i : Int) + f)) = false := fun m z hm hz => by
              rw [List.getElem?_map, List.getElem?_range (by omega)] at hz
              cases hz
              rw [cellD_eqv]
              refine decide_eq_false fun e => ?_
              have := uniq m (by omega) e
              omega
            refine ⟨_, rfl, .inl ⟨rfl, _, SqL.of hd3⟩, _, rfl, D, .ref t, _, _, j, _, rfl, rfl, dC, dH, shC, shH, i1, i2, i3, _, rfl, _, _, rfl, rfl, _, rfl, r, _, rfl, .inl (SqL.of hr3), rfl, ?_, _, rfl, ?_⟩
            · rw [List.all_map, List.all_eq_true]
              intro x _
              rfl
            have din : inV (V.int ((j : Int) - (0 + (i : Int)))) (fs.map V.int) = decide (((j : Int) - (0 + (i : Int))) ∈ fs) := inV_ints _ _
            have ed : (j : Int) - (0 + (i : Int)) = (f - g) / st := by rw [m2]; omega
            show if (!inV (V.int ((j : Int) - (0 + (i : Int)))) (fs.map V.int)) = true then _ else _
            rw [din, ed]
            rcases inv with ⟨e, no⟩ | ⟨e1, e2⟩
            · subst e
              refine ifT rfl ?_
              refine ⟨_, rfl, .inl ⟨rfl, _, SqL.of hr3⟩, _, rfl, .inl ⟨rfl, _, SqL.of hd3⟩, _, rfl, D, .ref t, _, _, j, _, rfl, rfl, dC, dH, shC, shH, i1, i2, i3, _, rfl, _, _, rfl, rfl, r, _, _, rfl, rfl, hr3, by show 0 < sizeLine; decide, ?_⟩
              refine ⟨_, _, [(f - g) / st], rfl, ?_, ?_, .inr ⟨m1, rfl⟩⟩
              · exact (s2.trans s3).mut hr'
              · rw [upd_same]
                show some (HO.lst [V.int ((j : Int) - (0 + (i : Int)))]) = _
                rw [ed]
                rfl
            · subst e2
              refine ifF ?_ ⟨_, _, _, rfl, s2.trans s3, hr3, .inr ⟨e1, rfl⟩⟩
              rw [decide_eq_true (List.mem_singleton.mpr rfl)]
              rfl
      · rintro σ H2 ⟨a, b, fs, rfl, s2, hr2, inv⟩
        refine ⟨_, rfl, q r H2 (s1.free hr') (s1.trans s2) ?_⟩
        have e : distL st f g = fs := by
          unfold distL
          rcases inv with ⟨rfl, no⟩ | ⟨e1, e2⟩
          · by_cases c : (f - g) % st = 0
            · exfalso
              obtain ⟨d0, d1⟩ := dist_small s0 f0 f1 g0 g1
              have hx := dist_there (i := if 0 ≤ (f - g) / st then 0 else -((f - g) / st)) s0 c
              by_cases c2 : 0 ≤ (f - g) / st
              · rw [if_pos c2] at hx
                refine no 0 (by omega) ((f - g) / st).toNat (by omega) ?_
                rw [Int.toNat_of_nonneg c2]
                rw [Int.zero_add] at hx
                exact hx
              · rw [if_neg c2] at hx
                refine no (-((f - g) / st)).toNat (by omega) 0 (by omega) ?_
                rw [Int.toNat_of_nonneg (by omega)]
                rw [Int.add_left_neg] at hx
                exact hx
            · rw [if_neg c]
          · rw [if_pos e1, e2]
        rw [e]
        exact hr2

def sp__law_refused (A : Ad) (K : PySem.W.Frag) : Sp := fun vs H Q _ => ∃ (p : Addr) (nm : Str) (st : Int) (x y : V) (kx ky : Kd) (zx zy : Str), vs = [.ref p, x, y] ∧ LineAt A H p nm st ∧ 1 ≤ st ∧ st ≤ 6 ∧ Kn K H x kx ∧ Kn K H y ky ∧ ReprIs x zx ∧ ReprIs y zy ∧
  btw y (-9) 9 = false ∧ ∀ H', Same H H' → Q (.str (if btw x (-9) 9 = true then zy else zx)) H'
theorem ok__law_refused (T : Tx P A K mg) : FnOk P w K mg base CX0 6 A.a__law_refused A.fd__law_refused ["line", "first", "second"] (sp__law_refused A K) := by
  refine T.F__law_refused.ok sc__law_refused (fun vs H Q E h => ?_) (fun cdv A' outer s H vs Q E hr h => ?_)
  · obtain ⟨p, nm, st, x, y, kx, ky, zx, zy, rfl, _⟩ := h
    rfl
  · obtain ⟨p, nm, st, x, y, kx, ky, zx, zy, rfl, ⟨dx, hp⟩, s0, s6, hx, hy, rx, ry, by0, q⟩ := h
    refine ⟨_, (pss_cons (ps_try_as (i := 3) (tb := fun W => tDrop (tMethS A.C_Line "distance" (sp_Line_distance A K) (WE W) (tVar 0) (tCons (tVar 1) (tCons (tVar 2) tNil)))) (ts := fun a cls d => tRet (tCB (fun xs H Q => ∃ v z, xs = [v] ∧ ReprIs v z ∧ Q (.str z) H) (tCons (tXf a cls d A.C_InvalidNumber "value" (tVar 3)) tNil))) (Wout := fun _ _ _ _ => False)
      rfl rfl sc__law_refused.nd rfl rfl ⟨rfl, by decide, .inl T.er_InvalidNumber.gC⟩ takes0
      (fun W pn xe tk _ => pss_one (ps_expr (pe_methS (pv 0) T.cl_Line T.me_Line_distance (ok_Line_distance T) (hr.mono (by decide)) T.b_Line_distance (fun σ => passAt tk σ) (pa_cons (pv 1) (pa_cons (pv 2) pa_nil)))))
      (fun a oe cls d pn hz hf => pss_one (ps_ret (pe_callB call_reprF (by rfl) T.m_repr bb_repr (pa_cons (pe_xf (xf_of T.er_InvalidNumber) T.er_InvalidNumber.noN hz hf (pv 3)) pa_nil)))))
      (pss_one (ps_ret pe_non))), ?_⟩
    have go : ∀ (v : V) (z : Str), ReprIs v z → (∀ H', Same H H' → Q (.str z) H') → Rz (WE (wAs K (.ref A.C_InvalidNumber) 3 (fun a cls d => tRet (tCB (fun xs H Q => ∃ v z, xs = [v] ∧ ReprIs v z ∧ Q (.str z) H) (tCons (tXf a cls d A.C_InvalidNumber "value" (tVar 3)) tNil))) (fun _ _ _ _ => False) { nx := tRet (tC .non) { nx := fun _ H' => Q .non H', rt := Q }, rt := Q }) [some (.ref p), some x, some y, none]) A.C_InvalidNumber H v := by
      intro v z rv q' d H' s' nd hd
      refine ⟨true, T.er_InvalidNumber.te, fun _ a _ => ?_, fun z => Bool.noConfusion z⟩
      exact ⟨_, rfl, rfl, rfl, d, _, v, rfl, hd, by simp [List.lookup], v, z, rfl, rv, q' H' s'⟩
    refine ⟨_, rfl, p, dx, _, rfl, hp, by first | rfl | kernel_rfl, _, rfl, _, rfl, p, nm, st, x, y, kx, ky, rfl, ⟨dx, hp⟩, s0, s6, hx, hy, fun c => ?_, fun c _ => ?_, fun f g _ _ _ c => ?_⟩
    · refine go x zx rx fun H' s' => ?_
      have q1 := q H' s'
      rw [c, if_neg Bool.false_ne_true] at q1
      exact q1
    · refine go y zy ry fun H' s' => ?_
      have q1 := q H' s'
      rw [c, if_pos rfl] at q1
      exact q1
    · rw [by0] at c
      cases c

def sp_law (K : PySem.W.Frag) : Sp := fun vs H Q _ => ∃ (a : Addr) (ns : List Int), vs = [.ref a] ∧ SqL K H a (ns.map V.int) ∧ ns.length ≤ 63 ∧ ∀ H', Q (.bl true) H'
theorem distV_mul {st f g k : Int} (h : 1 ≤ st) (e : f - g = st * k) : distV st f g = .int k := by
  unfold distV
  rw [e, if_pos (Int.mul_emod_right _ _), Int.mul_ediv_cancel_left _ (by omega)]
theorem distV_no {st f g : Int} (e : ¬ (f - g) % st = 0) : distV st f g = .non := if_neg e
theorem distL_of {st f g : Int} : distL st f g = (match distV st f g with | .int k => [k] | _ => []) := by
  unfold distL distV
  by_cases c : (f - g) % st = 0
  · rw [if_pos c, if_pos c]
  · rw [if_neg c, if_neg c]
theorem small_log {f : Int} (h0 : -9 ≤ f) (h1 : f ≤ 9) : f.natAbs.log2 < 1920 := by
  have h : f.natAbs < 2 ^ 10 := by omega
  exact Nat.lt_of_lt_of_le (PySem.Flt.log2_lt_of (by decide) h) (by decide)
theorem ok_law (T : Tx P A K mg) : FnOk P w K mg base CX0 9 A.a_law A.fd_law ["script"] (sp_law K) := by
  refine T.F_law.ok sc_law (fun vs H Q E h => ?_) (fun cdv A' outer s H vs Q E hr h => ?_)
  · obtain ⟨a, ns, rfl, _⟩ := h
    rfl
  · obtain ⟨a, ns, rfl, hS, hl, q⟩ := h
    refine ⟨_, (pss_cons (ps_set (i := 1) sc_law.nd rfl (.inl rfl) (pe_call (ok__law_begin T) (hr.mono (by decide)) (by rfl) T.g__law_begin T.F__law_begin.kp T.b__law_begin .nil pass0 (pa_cons (pv 0) pa_nil)))
      (pss_cons (ps_for PassesOwn.never rfl (pi_range1 (by rfl) T.m_range (pa_cons pe_int pa_nil)) (pg_name (i := 2) sc_law.nd rfl (.inl rfl))
      (pss_cons (ps_set (i := 3) sc_law.nd rfl (.inl rfl) (pe_make T.M_Line (ok_Line___init__ T) (hr.mono (by decide)) (by rfl) T.g_Line T.b_Line___init__ .nil passC (pa_cons (pe_ix ix_list (pe_call (ok__law_names T) (hr.mono (by decide)) (by rfl) T.g__law_names T.F__law_names.kp T.b__law_names .nil pass0 (pa_cons (pv 1) (pa_cons pe_int pa_nil))) pe_int (fun _ _ => rfl)) (pa_cons (pe_op op_add pe_int (pe_call (ok__law_draw T) (hr.mono (by decide)) (by rfl) T.g__law_draw T.F__law_draw.kp T.b__law_draw .nil pass0 (pa_cons (pv 1) (pa_cons pe_int pa_nil)))) pa_nil))))
      (pss_cons (ps_par (i := 4) (j := 5) (by rfl) sc_law.nd rfl rfl (by decide) rfl rfl (pa_cons (pe_op op_sub (pe_call (ok__law_draw T) (hr.mono (by decide)) (by rfl) T.g__law_draw T.F__law_draw.kp T.b__law_draw .nil pass0 (pa_cons (pv 1) (pa_cons pe_int pa_nil))) pe_int) (pa_cons (pe_op op_sub (pe_call (ok__law_draw T) (hr.mono (by decide)) (by rfl) T.g__law_draw T.F__law_draw.kp T.b__law_draw .nil pass0 (pa_cons (pv 1) (pa_cons pe_int pa_nil))) pe_int) pa_nil)) (by rfl))
      (pss_cons (ps_set (i := 6) sc_law.nd rfl (.inl rfl) (pe_meth (pv 3) T.cl_Line T.me_Line_distance (ok_Line_distance T) (hr.mono (by decide)) T.b_Line_distance .nil passC (pa_cons (pv 4) (pa_cons (pv 5) pa_nil))))
      (pss_cons (ps_set (i := 7) sc_law.nd rfl (.inl rfl) (pe_call (ok__law_tried T) (hr.mono (by decide)) (by rfl) T.g__law_tried T.F__law_tried.kp T.b__law_tried .nil pass0 (pa_cons (pv 3) (pa_cons (pv 4) (pa_cons (pv 5) pa_nil)))))
      (C8.pss_cut (ps_if (pt_cmpR (op_neD hr.units) (pv 7) (pe_ifExp (pt_cmpR op_isN (pv 6) pe_non (nomark _)) (pe_lst pa_nil) (pe_lst (pa_cons (pv 6) pa_nil))) (nomark _)) (pss_one (ps_ret pe_bl)) pss_nil)
      (C8.pss_cut (ps_if (PW.pt (pw_and (pt_cmpR op_notN (pv 6) pe_non (nomark _)) (pw_and1 (PW.pt (pw_or (pt_val (pe_callB call_isi (by rfl) T.m_isinstance bb_isinstance (pa_cons (pv 6) (pa_cons (pe_bltn (v := .ty "bool") (by rfl) T.m_bool bb_bool rfl) pa_nil)))) (pw_or1 (pt_cmpR op_ne (pe_meth (pv 3) T.cl_Line T.me_Line_distance (ok_Line_distance T) (hr.mono (by decide)) T.b_Line_distance .nil passC (pa_cons (pv 5) (pa_cons (pv 4) pa_nil))) (pe_un un_neg (pv 6)) (nomark _)))))))) (pss_one (ps_ret pe_bl)) pss_nil)
      (C8.pss_cut (ps_if (PW.pt (pw_and (pt_cmpR op_isN (pv 6) pe_non (nomark _)) (pw_and1 (pt_cmpR op_notN (pe_meth (pv 3) T.cl_Line T.me_Line_distance (ok_Line_distance T) (hr.mono (by decide)) T.b_Line_distance .nil passC (pa_cons (pv 5) (pa_cons (pv 4) pa_nil))) pe_non (nomark _))))) (pss_one (ps_ret pe_bl)) pss_nil)
      (C8.pss_cut (ps_if (pt_cmpR op_le (pe_prop (pv 3) T.cl_Line T.pr_Line_stride (ok_Line_stride T) (hr.mono (by decide)) T.b_Line_stride .nil pass0 (by rfl)) pe_int (nomark _)) (pss_cons (ps_set (i := 8) sc_law.nd rfl (.inl rfl) (pe_meth (pe_op (op_binI T.bin_Line___mul__ (ok_Line___mul__ T) (hr.mono (by decide)) T.b_Line___mul__ passC) (pv 3) pe_int) T.cl_Line T.me_Line_distance (ok_Line_distance T) (hr.mono (by decide)) T.b_Line_distance .nil passC (pa_cons (pv 4) (pa_cons (pv 5) pa_nil))))
      (C8.pss_cut (ps_if (PW.pt (pw_and (pt_cmpR op_notN (pv 8) pe_non (nomark _)) (pw_and1 (PW.pt (pw_or (pt_cmpR op_isN (pv 6) pe_non (nomark _)) (pw_or1 (pt_cmpR op_ne (pe_op op_mul pe_int (pv 8)) (pv 6) (nomark _)))))))) (pss_one (ps_ret pe_bl)) pss_nil)
      (pss_one (ps_if (PW.pt (pw_and (pt_cmpR op_notN (pv 6) pe_non (nomark _)) (pw_and (pt_cmpR op_eq (pe_op op_mod (pv 6) pe_int) pe_int (nomark _)) (pw_and1 (pt_cmpR op_isN (pv 8) pe_non (nomark _)))))) (pss_one (ps_ret pe_bl)) pss_nil)))) pss_nil)
      (pss_cons (ps_set (i := 9) sc_law.nd rfl (.inl rfl) (pe_call (ok__law_pick T) (hr.mono (by decide)) (by rfl) T.g__law_pick T.F__law_pick.kp T.b__law_pick .nil pass0 (pa_cons (pv 1) (pa_cons (pe_lst (pa_cons pe_int (pa_cons (pe_un un_neg pe_int) (pa_cons pe_bl (pa_cons pe_non (pa_cons pe_str pa_nil)))))) pa_nil))))
      (pss_cons (ps_set (i := 10) sc_law.nd rfl (.inl rfl) (pe_call (ok__law_pick T) (hr.mono (by decide)) (by rfl) T.g__law_pick T.F__law_pick.kp T.b__law_pick .nil pass0 (pa_cons (pv 1) (pa_cons (pe_lst (pa_cons pe_int (pa_cons pe_bl (pa_cons pe_str pa_nil)))) pa_nil))))
      (pss_one (ps_if (PW.pt (pw_or (pt_cmpR op_ne (pe_call (ok__law_refused T) (hr.mono (by decide)) (by rfl) T.g__law_refused T.F__law_refused.kp T.b__law_refused .nil pass0 (pa_cons (pv 3) (pa_cons (pv 9) (pa_cons (pv 10) pa_nil)))) (pe_callB call_reprF (by rfl) T.m_repr bb_repr (pa_cons (pv 9) pa_nil)) (nomark _)) (pw_or1 (pt_cmpR op_ne (pe_call (ok__law_refused T) (hr.mono (by decide)) (by rfl) T.g__law_refused T.F__law_refused.kp T.b__law_refused .nil pass0 (pa_cons (pv 3) (pa_cons (pv 4) (pa_cons (pv 10) pa_nil)))) (pe_callB call_reprF (by rfl) T.m_repr bb_repr (pa_cons (pv 10) pa_nil)) (nomark _))))) (pss_one (ps_ret pe_bl)) pss_nil)))))))))))))
      (pss_one (ps_ret pe_bl)))), ?_⟩
    refine ⟨_, rfl, a, ns, rfl, hS, hl, fun s L H1 hs s1 S1 => ?_⟩
    refine ⟨6, rfl, by decide, by decide, for_range (lo := 0) (n := 6) (fun i σ H' => (∃ v3 v4 v5 v6 v7 v8 v9 v10 v2, σ = [some (.ref a), some (.ref s), v2, v3, v4, v5, v6, v7, v8, v9, v10]) ∧ Src H' s L) ⟨⟨_, _, _, _, _, _, _, _, _, rfl⟩, S1⟩ ?_ ?_⟩
    · rintro i σ H1 hi ⟨⟨v3, v4, v5, v6, v7, v8, v9, v10, v2, rfl⟩, S1⟩
      -- line = Line(_law_names(source, 1)[0], 1 + _law_draw(source, 6))
      refine ⟨_, rfl, s, L, 1, rfl, S1, by decide, fun r ws H2 hr0 wl wp wnd k2 S2 h2 => ?_⟩
      obtain ⟨nm, rfl⟩ : ∃ w, ws = [w] := List.length_eq_one_iff.mp wl
      obtain ⟨nl, n1, n6⟩ := wp nm (List.mem_singleton.mpr rfl)
      have hnm : isNm nm = true := isNm_of nl n1 (by omega)
      refine ⟨r, _, 0, _, rfl, rfl, SqL.of h2, rfl, _, rfl, s, L, 6, rfl, S2, by decide, by decide, fun d H3 d0 d1 k3 S3 => ⟨_, _, rfl, rfl, ?_⟩⟩
      intro ln dx hx hdx ne
      have S3' := (S3.new (o := .own ln) hdx)
      have hx' : upd H3 dx (.own ln) ln = none := by rw [upd_ne ne.symm]; exact hx
      have S4 := S3'.new (o := .ins A.C_Line dx []) hx'
      have bst : btw (.int (1 + d)) 1 6 = true := by
        show (decide ((1 : Int) ≤ 1 + d) && decide (1 + d ≤ 6)) = true
        rw [decide_eq_true (show (1 : Int) ≤ 1 + d by omega), decide_eq_true (show 1 + d ≤ 6 by omega)]
        rfl
      refine ⟨ln, dx, _, _, .str, .int, rfl, upd_same, .str (sz_of (by omega)), .int _, fun z => ?_, fun _ z => ?_, fun nm' st e1 e2 _ s0 s6 H5 k5 h5 => ⟨rfl, ?_⟩⟩
      · have z' : isNm nm = false := z
        rw [hnm] at z'
        cases z'
      · rw [bst] at z
        cases z
      cases e1
      have S5 := S4.kpx (S3'.fresh hx') k5
      have L5 : LineAt A H5 ln nm st := ⟨dx, h5⟩
      clear k5 h5 S4 S3' hx' bst e2 d0 d1
      have asc := lets_ascii nl
      have lnn : nm.length ≤ sizeLine := sz_of (by omega)
      have no : ∀ m : Str, m = "distance" → (lf nm st).lookup m = none := fun m e => by subst e; first | rfl | kernel_rfl
      -- first, second
      refine ⟨_, rfl, s, L, 19, rfl, S5, by decide, by decide, fun f' H6 f0 f1 k6 S6 => ⟨_, _, rfl, rfl, _, rfl, s, L, 19, rfl, S6, by decide, by decide, fun g' H7 g0 g1 k7 S7 => ⟨_, _, rfl, rfl, _, _, rfl, ?_⟩⟩⟩
      have L7 := (L5.kp k6 S5).kp k7 S6
      obtain ⟨f, ef⟩ : ∃ f, f' - 9 = f := ⟨_, rfl⟩
      obtain ⟨g, eg⟩ : ∃ g, g' - 9 = g := ⟨_, rfl⟩
      have f0' : -9 ≤ f := by omega
      have f1' : f ≤ 9 := by omega
      have g0' : -9 ≤ g := by omega
      have g1' : g ≤ 9 := by omega
      have bo : ∀ x : Int, -9 ≤ x → x ≤ 9 → btw (.int x) (-9) 9 = true := fun x h0 h1 => by
        show (decide ((-9 : Int) ≤ x) && decide (x ≤ 9)) = true
        rw [decide_eq_true h0, decide_eq_true h1]
        rfl
      have bf := bo f f0' f1'
      have bg := bo g g0' g1'
      have xf : ∀ {X : Prop}, btw (.int f) (-9) 9 = false → X := fun z => by rw [bf] at z; exact Bool.noConfusion z
      have xg : ∀ {X : Prop}, btw (.int g) (-9) 9 = false → X := fun z => by rw [bg] at z; exact Bool.noConfusion z
      show (fun (x y : Int) => tSeq _ _ _ [some (V.ref a), some (.ref s), some (.int (0 + (i : Int))), some (.ref ln), some (.int x), some (.int y), v6, v7, v8, v9, v10] H7) (f' - 9) (g' - 9)
      rw [ef, eg]
      clear ef eg f0 f1 g0 g1
      show tSeq _ _ _ [some (V.ref a), some (.ref s), some (.int (0 + (i : Int))), some (.ref ln), some (.int f), some (.int g), v6, v7, v8, v9, v10] H7
      -- found = line.distance(first, second)
      obtain ⟨dx7, l7⟩ := id L7
      refine ⟨_, rfl, ln, dx7, _, rfl, l7, no _ rfl, _, rfl, _, rfl, ln, nm, st, _, _, .int, .int, rfl, L7, s0, s6, .int _, .int _, fun z => xf z, fun _ z => xg z, fun f2 g2 e1 e2 _ _ H8 s8 => ?_⟩
      cases e1
      cases e2
      have L8 := L7.same s8
      have S8 := S7.same s8
      -- tried
      refine ⟨_, rfl, _, rfl, _, rfl, ln, nm, st, f, g, rfl, L8, asc, s0, s6, f0', f1', g0', g1', fun t H9 ht s9 h9 => ?_⟩
      have L9 := L8.same s9
      have S9 := S8.same s9
      have hfd : (distV st f g = .non ∧ ¬ (f - g) % st = 0) ∨ ∃ k, distV st f g = .int k ∧ f - g = st * k := by
        by_cases c : (f - g) % st = 0
        · have e := (Int.mul_ediv_cancel' (Int.dvd_of_emod_eq_zero c)).symm
          exact .inr ⟨_, distV_mul s0 e, e⟩
        · exact .inl ⟨distV_no c, c⟩
      rw [distL_of] at h9
      generalize distV st f g = fd at hfd h9 ⊢
      have mid : ∀ (H' : Hp) (v7 v8 v9 v10 : Option V), True := fun _ _ _ _ _ => trivial
      -- tried != ([] if found is None else [found])
      refine ⟨fun σ H' => σ = [some (.ref a), some (.ref s), some (.int (0 + (i : Int))), some (.ref ln), some (.int f), some (.int g), some fd, some (.ref t), v8, v9, v10] ∧ Src H' s L ∧ LineAt A H' ln nm st, ?_, ?_⟩
      · rcases hfd with ⟨rfl, c⟩ | ⟨k, rfl, e⟩
        · refine ⟨_, rfl, _, rfl, rfl, _, rfl, Nat.zero_le _, fun p hp => ⟨.list [], .list [], .lst (SqL.of ((Same.new hp) _ _ h9)) .nil, .lst (SqL.of upd_same) .nil, rfl, rfl, _, rfl, ?_⟩⟩
          exact ⟨rfl, S9.new hp, L9.same (Same.new hp)⟩
        · refine ⟨_, rfl, _, rfl, rfl, _, rfl, _, rfl, by show 1 ≤ sizeLine; decide, fun p hp => ⟨.list [.int k], .list [.int k], .lst (SqL.of ((Same.new hp) _ _ h9)) (.cons (.int _) .nil), .lst (SqL.of upd_same) (.cons (.int _) .nil), rfl, rfl, _, rfl, ?_⟩⟩
          refine ifF ?_ ⟨rfl, S9.new hp, L9.same (Same.new hp)⟩
          simp [PyData.eqv, PyData.eqvAll]
      rintro σ H10 ⟨rfl, S10, L10⟩
      -- found is not None and ..
      refine ⟨fun σ H' => σ = [some (.ref a), some (.ref s), some (.int (0 + (i : Int))), some (.ref ln), some (.int f), some (.int g), some fd, some (.ref t), v8, v9, v10] ∧ Src H' s L ∧ LineAt A H' ln nm st, ?_, ?_⟩
      · rcases hfd with ⟨rfl, c⟩ | ⟨k, rfl, e⟩
        · exact ⟨_, rfl, rfl, _, rfl, rfl, S10, L10⟩
        · obtain ⟨tt, y1, y2⟩ := (Kn.int (K := K) (H := H10) k).ty
          obtain ⟨dx10, l10⟩ := id L10
          refine ⟨_, rfl, rfl, _, rfl, _, rfl, _, _, tt, _, _, rfl, .ty _, y1, y2 "bool" (by decide), _, rfl, ?_⟩
          refine ⟨_, rfl, ln, dx10, _, rfl, l10, no _ rfl, _, rfl, _, rfl, ln, nm, st, _, _, .int, .int, rfl, L10, s0, s6, .int _, .int _, fun z => xg z, fun _ z => xf z, fun f2 g2 e1 e2 _ _ H11 s11 => ?_⟩
          cases e1
          cases e2
          rw [distV_mul (k := -k) s0 (by rw [Int.mul_neg]; omega)]
          refine ⟨_, rfl, _, rfl, rfl, _, rfl, iteNS rfl ⟨rfl, S10.same s11, L10.same s11⟩⟩
      rintro σ H11 ⟨rfl, S11, L11⟩
      -- found is None and ..
      refine ⟨fun σ H' => σ = [some (.ref a), some (.ref s), some (.int (0 + (i : Int))), some (.ref ln), some (.int f), some (.int g), some fd, some (.ref t), v8, v9, v10] ∧ Src H' s L ∧ LineAt A H' ln nm st, ?_, ?_⟩
      · rcases hfd with ⟨rfl, c⟩ | ⟨k, rfl, e⟩
        · obtain ⟨dx11, l11⟩ := id L11
          refine ⟨_, rfl, rfl, _, rfl, _, rfl, ln, dx11, _, rfl, l11, no _ rfl, _, rfl, _, rfl, ln, nm, st, _, _, .int, .int, rfl, L11, s0, s6, .int _, .int _, fun z => xg z, fun _ z => xf z, fun f2 g2 e1 e2 _ _ H12 s12 => ?_⟩
          cases e1
          cases e2
          rw [distV_no (fun z => c (by
            have e := (Int.mul_ediv_cancel' (Int.dvd_of_emod_eq_zero z)).symm
            have e' : f - g = st * (-((g - f) / st)) := by rw [Int.mul_neg]; omega
            rw [e']
            exact Int.mul_emod_right _ _))]
          exact ⟨rfl, _, rfl, rfl, S11.same s12, L11.same s12⟩
        · exact ⟨_, rfl, rfl, _, rfl, rfl, S11, L11⟩
      rintro σ H12 ⟨rfl, S12, L12⟩
      -- if line.stride <= 3
      refine ⟨fun σ H' => (∃ v8, σ = [some (.ref a), some (.ref s), some (.int (0 + (i : Int))), some (.ref ln), some (.int f), some (.int g), some fd, some (.ref t), v8, v9, v10]) ∧ Src H' s L ∧ LineAt A H' ln nm st, ?_, ?_⟩
      · obtain ⟨dx12, l12⟩ := id L12
        refine ⟨_, rfl, ln, dx12, _, rfl, l12, ln, nm, st, rfl, L12, _, _, rfl, rfl, _, rfl, ?_⟩
        by_cases c3 : st ≤ 3
        · refine ifT (decide_eq_true c3) ?_
          -- twice = (line * 2).distance(first, second)
          have mo : mulOk st (.int 2) = true := by
            show (decide ((1 : Int) ≤ 2) && decide (st * 2 ≤ 6)) = true
            rw [decide_eq_true (show st * 2 ≤ 6 by omega)]
            rfl
          refine ⟨_, rfl, ln, dx12, _, 2, rfl, rfl, l12, ln, nm, st, .int 2, .int, rfl, L12, hnm, lnn, s0, s6, .int _, fun z => ?_, fun i2 e2 _ tw H13 ht13 s13 L13 => ?_⟩
          · rw [mo] at z
            cases z
          cases e2
          obtain ⟨dx13, l13⟩ := id L13
          refine ⟨tw, dx13, _, rfl, l13, by first | rfl | kernel_rfl, _, rfl, _, rfl, tw, nm, st * 2, _, _, .int, .int, rfl, L13, by omega, by omega, .int _, .int _, fun z => xf z, fun _ z => xg z, fun f2 g2 e1 e2 _ _ H14 s14 => ?_⟩
          cases e1
          cases e2
          have S14 := S12.same (s13.trans s14)
          have L14 := L12.same (s13.trans s14)
          have htw : (distV (st * 2) f g = .non ∧ ¬ (f - g) % (st * 2) = 0) ∨ ∃ k, distV (st * 2) f g = .int k ∧ f - g = st * 2 * k := by
            by_cases c : (f - g) % (st * 2) = 0
            · have e := (Int.mul_ediv_cancel' (Int.dvd_of_emod_eq_zero c)).symm
              exact .inr ⟨_, distV_mul (by omega) e, e⟩
            · exact .inl ⟨distV_no c, c⟩
          generalize distV (st * 2) f g = wd at htw ⊢
          have rel : ∀ k, wd = .int k → fd = .int (2 * k) := fun k ek => by
            rcases htw with ⟨z, _⟩ | ⟨k2, e1, e2⟩
            · rw [z] at ek; cases ek
            · rw [e1] at ek
              cases ek
              have e3 : f - g = st * (2 * k) := by rw [← Int.mul_assoc]; exact e2
              rcases hfd with ⟨_, c⟩ | ⟨k3, e4, e5⟩
              · exact absurd (by rw [e3]; exact Int.mul_emod_right _ _) c
              · rw [e4]
                have e6 : st * k3 = st * (2 * k) := by rw [← e5, e3]
                rw [Int.eq_of_mul_eq_mul_left (by omega) e6]
          have rel2 : ∀ k, fd = .int k → k % 2 = 0 → wd ≠ .non := fun k ek em en => by
            rcases hfd with ⟨z, _⟩ | ⟨k3, e4, e5⟩
            · rw [z] at ek; cases ek
            · rw [e4] at ek
              cases ek
              rcases htw with ⟨_, c⟩ | ⟨k2, e1, e2⟩
              · refine c ?_
                have e6 : k = 2 * (k / 2) := (Int.mul_ediv_cancel' (Int.dvd_of_emod_eq_zero em)).symm
                rw [e5, e6, ← Int.mul_assoc]
                exact Int.mul_emod_right _ _
              · rw [e1] at en; cases en
          have kfd : (fd = .non) ∨ ∃ k, fd = .int k := by
            rcases hfd with ⟨z, _⟩ | ⟨k, z, _⟩
            · exact .inl z
            · exact .inr ⟨k, z⟩
          have kwd : (wd = .non) ∨ ∃ k, wd = .int k := by
            rcases htw with ⟨z, _⟩ | ⟨k, z, _⟩
            · exact .inl z
            · exact .inr ⟨k, z⟩
          clear htw
          refine ⟨fun σ H' => σ = [some (.ref a), some (.ref s), some (.int (0 + (i : Int))), some (.ref ln), some (.int f), some (.int g), some fd, some (.ref t), some wd, v9, v10] ∧ H' = H14, ?_, ?_⟩
          · rcases kwd with rfl | ⟨k, rfl⟩
            · exact ⟨_, rfl, rfl, _, rfl, rfl, rfl⟩
            · have e := rel k rfl
              subst e
              refine ⟨_, rfl, rfl, _, rfl, _, rfl, rfl, _, rfl, _, rfl, _, _, rfl, rfl, .inl ⟨by decide, by decide⟩, _, rfl, rfl, _, rfl, ?_⟩
              exact iteNS rfl ⟨rfl, rfl⟩
          · rintro σ H' ⟨rfl, rfl⟩
            rcases kfd with rfl | ⟨k, rfl⟩
            · exact ⟨_, rfl, rfl, _, rfl, ⟨_, rfl⟩, S14, L14⟩
            · refine ⟨_, rfl, rfl, _, rfl, _, rfl, _, _, rfl, rfl, by show (0 : Int) < 2; decide, rfl, _, rfl, ?_⟩
              by_cases c5 : k % 2 = 0
              · refine ifT (decide_eq_true (show V.int (k % 2) = V.int 0 by rw [c5])) ?_
                refine ⟨_, rfl, rfl, _, rfl, ?_⟩
                refine ifF (decide_eq_false (rel2 k rfl c5)) ⟨⟨_, rfl⟩, S14, L14⟩
              · refine ifF (decide_eq_false (fun z => c5 (V.int.inj z))) ⟨⟨_, rfl⟩, S14, L14⟩
        · exact ifF (decide_eq_false c3) ⟨⟨_, rfl⟩, S12, L12⟩
      rintro σ H13 ⟨⟨v8', rfl⟩, S13, L13⟩
      -- odd, far
      refine ⟨_, rfl, _, rfl, by show 5 ≤ sizeLine; decide, fun p hp => ?_⟩
      refine ⟨s, L, _, rfl, S13.new hp, .inl ⟨p, _, rfl, (S13.fresh hp).1, SqL.of upd_same, by decide, by decide, fun x hx H14 k14 S14 => ?_⟩⟩
      have L14 := (L13.same (Same.new hp)).kp k14 (S13.new hp)
      obtain ⟨zx, kx, hkx, rx, bx⟩ : ∃ (z : Str) (k : Kd), (∀ H, Kn K H x k) ∧ ReprIs x z ∧ btw x (-9) 9 = false := by
        simp only [List.mem_cons, List.not_mem_nil, or_false] at hx
        rcases hx with rfl | rfl | rfl | rfl | rfl
        · exact ⟨_, _, fun _ => .int _, .int (by decide), by decide⟩
        · exact ⟨_, _, fun _ => .int _, .int (by decide), by decide⟩
        · exact ⟨_, _, fun _ => .bl _, .bl _, rfl⟩
        · exact ⟨_, _, fun _ => .non, .non, rfl⟩
        · exact ⟨_, _, fun _ => .str (by decide), .str (by decide +kernel), rfl⟩
      refine ⟨_, rfl, by show 3 ≤ sizeLine; decide, fun p2 hp2 => ?_⟩
      refine ⟨s, L, _, rfl, S14.new hp2, .inl ⟨p2, _, rfl, (S14.fresh hp2).1, SqL.of upd_same, by decide, by decide, fun y hy H15 k15 S15 => ?_⟩⟩
      have L15 := (L14.same (Same.new hp2)).kp k15 (S14.new hp2)
      obtain ⟨zy, ky, hky, ry, by_⟩ : ∃ (z : Str) (k : Kd), (∀ H, Kn K H y k) ∧ ReprIs y z ∧ btw y (-9) 9 = false := by
        simp only [List.mem_cons, List.not_mem_nil, or_false] at hy
        rcases hy with rfl | rfl | rfl
        · exact ⟨_, _, fun _ => .int _, .int (by decide), by decide⟩
        · exact ⟨_, _, fun _ => .bl _, .bl _, rfl⟩
        · exact ⟨_, _, fun _ => .str (by decide), .str (by decide +kernel), rfl⟩
      refine ⟨_, rfl, _, rfl, _, rfl, ln, nm, st, x, y, kx, ky, zx, zy, rfl, L15, s0, s6, hkx _, hky _, rx, ry, by_, fun H16 s16 => ?_⟩
      rw [bx, if_neg Bool.false_ne_true]
      refine ⟨_, rfl, x, zx, rfl, rx, rfl, _, rfl, ?_⟩
      refine ifF (by rw [decide_eq_true rfl]; rfl) ?_
      refine ⟨_, rfl, _, rfl, _, rfl, ln, nm, st, .int f, y, .int, ky, toString f, zy, rfl, L15.same s16, s0, s6, .int _, hky _, .int (small_log f0' f1'), ry, by_, fun H17 s17 => ?_⟩
      rw [bf, if_pos rfl]
      refine ⟨_, rfl, y, zy, rfl, ry, rfl, _, rfl, ?_⟩
      refine ifF (by rw [decide_eq_true rfl]; rfl) ?_
      exact ⟨⟨_, _, _, _, _, _, _, _, _, rfl⟩, (S15.same s16).same s17⟩
    · rintro σ H1 ⟨⟨v3, v4, v5, v6, v7, v8, v9, v10, v2, rfl⟩, S1⟩
      exact q H1

end
theorem all_mk {w : World} {K : PySem.W.Frag} {h : Heap} {mg : Str → Option Value} {fa : Addr} (X : K.In h) (G : h.Ns mainGlobals mg) (hfa : mg "law" = some (.ref fa))
    {C_InvalidNumber i_InvalidNumber N_InvalidNumber cda_InvalidNumber cc_InvalidNumber : Addr} {nm_InvalidNumber q_InvalidNumber qu_InvalidNumber ms_InvalidNumber fl_InvalidNumber : Str} {bs_InvalidNumber bm_InvalidNumber sub_InvalidNumber : List Value} {sn_InvalidNumber : List Str} {ab_InvalidNumber : Bool} {col_InvalidNumber : Option Bool} {dd_InvalidNumber od_InvalidNumber an_InvalidNumber e1_InvalidNumber e2_InvalidNumber : Option Addr} {m0_InvalidNumber m1_InvalidNumber m2_InvalidNumber m3_InvalidNumber m5_InvalidNumber : Option Value} {oc_InvalidNumber dc_InvalidNumber pm_InvalidNumber ct_InvalidNumber f1_InvalidNumber f2_InvalidNumber : Value} {sl_InvalidNumber s1_InvalidNumber s2_InvalidNumber : Array (Option Value)} {vs_InvalidNumber : Array Value} {tf_InvalidNumber : Tok} {p1_InvalidNumber p2_InvalidNumber q1_InvalidNumber q2_InvalidNumber q3_InvalidNumber q4_InvalidNumber q5_InvalidNumber q6_InvalidNumber q7_InvalidNumber q8_InvalidNumber q9_InvalidNumber q10_InvalidNumber : Pos}
    {C_InvalidName i_InvalidName N_InvalidName cda_InvalidName cc_InvalidName : Addr} {nm_InvalidName q_InvalidName qu_InvalidName ms_InvalidName fl_InvalidName : Str} {bs_InvalidName bm_InvalidName sub_InvalidName : List Value} {sn_InvalidName : List Str} {ab_InvalidName : Bool} {col_InvalidName : Option Bool} {dd_InvalidName od_InvalidName an_InvalidName e1_InvalidName e2_InvalidName : Option Addr} {m0_InvalidName m1_InvalidName m2_InvalidName m3_InvalidName m5_InvalidName : Option Value} {oc_InvalidName dc_InvalidName pm_InvalidName ct_InvalidName f1_InvalidName f2_InvalidName : Value} {sl_InvalidName s1_InvalidName s2_InvalidName : Array (Option Value)} {vs_InvalidName : Array Value} {tf_InvalidName : Tok} {p1_InvalidName p2_InvalidName q1_InvalidName q2_InvalidName q3_InvalidName q4_InvalidName q5_InvalidName q6_InvalidName q7_InvalidName q8_InvalidName q9_InvalidName q10_InvalidName : Pos}
    {C_Line : Addr}
    {fo_Line___mul__ ro_Line___mul__ : Option Value}
    {f_is_integer : Addr} {od_is_integer an_is_integer : Option Addr} {sl_is_integer : Array (Option Value)} {oc_is_integer kV_is_integer dc_is_integer pm_is_integer cd_is_integer ct_is_integer : Value}
    {f_is_between : Addr} {od_is_between an_is_between : Option Addr} {sl_is_between : Array (Option Value)} {oc_is_between kV_is_between dc_is_between pm_is_between cd_is_between ct_is_between : Value}
    {f_is_count : Addr} {od_is_count an_is_count : Option Addr} {sl_is_count : Array (Option Value)} {oc_is_count kV_is_count dc_is_count pm_is_count cd_is_count ct_is_count : Value}
    {f_is_name : Addr} {od_is_name an_is_name : Option Addr} {sl_is_name : Array (Option Value)} {oc_is_name kV_is_name dc_is_name pm_is_name cd_is_name ct_is_name : Value}
    {f_is_offset : Addr} {od_is_offset an_is_offset : Option Addr} {sl_is_offset : Array (Option Value)} {oc_is_offset kV_is_offset dc_is_offset pm_is_offset cd_is_offset ct_is_offset : Value}
    {f_Line___init__ : Addr} {od_Line___init__ an_Line___init__ : Option Addr} {sl_Line___init__ : Array (Option Value)} {oc_Line___init__ kV_Line___init__ dc_Line___init__ pm_Line___init__ cd_Line___init__ ct_Line___init__ : Value}
    {T_Line___init__ : Addr} {do_Line___init__ : Obj} {dn_Line___init__ : Nat}
    {dt0_Line___init__ : Tok}
    {f_Line_stride : Addr} {od_Line_stride an_Line_stride : Option Addr} {sl_Line_stride : Array (Option Value)} {oc_Line_stride kV_Line_stride dc_Line_stride pm_Line_stride cd_Line_stride ct_Line_stride : Value}
    {p_Line_stride : Addr} {rs_Line_stride : List Value}
    {f_Line___mul__ : Addr} {od_Line___mul__ an_Line___mul__ : Option Addr} {sl_Line___mul__ : Array (Option Value)} {oc_Line___mul__ kV_Line___mul__ dc_Line___mul__ pm_Line___mul__ cd_Line___mul__ ct_Line___mul__ : Value}
    {f_Line_cell : Addr} {od_Line_cell an_Line_cell : Option Addr} {sl_Line_cell : Array (Option Value)} {oc_Line_cell kV_Line_cell dc_Line_cell pm_Line_cell cd_Line_cell ct_Line_cell : Value}
    {f_Line_distance : Addr} {od_Line_distance an_Line_distance : Option Addr} {sl_Line_distance : Array (Option Value)} {oc_Line_distance kV_Line_distance dc_Line_distance pm_Line_distance cd_Line_distance ct_Line_distance : Value}
    {f__law_begin : Addr} {od__law_begin an__law_begin : Option Addr} {sl__law_begin : Array (Option Value)} {oc__law_begin kV__law_begin dc__law_begin pm__law_begin cd__law_begin ct__law_begin : Value}
    {f__law_draw : Addr} {od__law_draw an__law_draw : Option Addr} {sl__law_draw : Array (Option Value)} {oc__law_draw kV__law_draw dc__law_draw pm__law_draw cd__law_draw ct__law_draw : Value}
    {f__law_pick : Addr} {od__law_pick an__law_pick : Option Addr} {sl__law_pick : Array (Option Value)} {oc__law_pick kV__law_pick dc__law_pick pm__law_pick cd__law_pick ct__law_pick : Value}
    {f__law_mixed : Addr} {od__law_mixed an__law_mixed : Option Addr} {sl__law_mixed : Array (Option Value)} {oc__law_mixed kV__law_mixed dc__law_mixed pm__law_mixed cd__law_mixed ct__law_mixed : Value}
    {f__law_stem : Addr} {od__law_stem an__law_stem : Option Addr} {sl__law_stem : Array (Option Value)} {oc__law_stem kV__law_stem dc__law_stem pm__law_stem cd__law_stem ct__law_stem : Value}
    {f__law_names : Addr} {od__law_names an__law_names : Option Addr} {sl__law_names : Array (Option Value)} {oc__law_names kV__law_names dc__law_names pm__law_names cd__law_names ct__law_names : Value}
    {f__law_tried : Addr} {od__law_tried an__law_tried : Option Addr} {sl__law_tried : Array (Option Value)} {oc__law_tried kV__law_tried dc__law_tried pm__law_tried cd__law_tried ct__law_tried : Value}
    {f__law_refused : Addr} {od__law_refused an__law_refused : Option Addr} {sl__law_refused : Array (Option Value)} {oc__law_refused kV__law_refused dc__law_refused pm__law_refused cd__law_refused ct__law_refused : Value}
    {f_law : Addr} {od_law an_law : Option Addr} {sl_law : Array (Option Value)} {oc_law kV_law dc_law pm_law cd_law ct_law : Value}
    {t_LETTERS : Tok}
    {t_MOST_LETTERS : Tok}
    {t_MOST_STRIDE : Tok}
    {t_MOST_OFFSET : Tok}
    (opq0 : PySem.W.nsIn K cStatics "thirdparty.any" = some none)
    (sup0 : PySem.W.nsIn K mainGlobals "super" = some none)
    (nsup0 : (PRG.main.scope.names.lookup ("super" : Str)).isSome = false)
    (aC_InvalidNumber : PySem.W.nsIn K mainGlobals "InvalidNumber" = some (some (.ref C_InvalidNumber)))
    (xL_InvalidNumber : K.lookup C_InvalidNumber = some (excClassObj nm_InvalidNumber q_InvalidNumber C_InvalidNumber N_InvalidNumber bs_InvalidNumber bm_InvalidNumber true sn_InvalidNumber sub_InvalidNumber ab_InvalidNumber col_InvalidNumber dd_InvalidNumber m0_InvalidNumber m1_InvalidNumber m2_InvalidNumber m3_InvalidNumber m5_InvalidNumber "ValueError.__new__"))
    (rf_InvalidNumber : PySem.HandSPX.refsVE bm_InvalidNumber = true)
    (sa_InvalidNumber : PySem.W.findIn K (.ref C_InvalidNumber) "__setattr__" = some (some (.builtin "object.__setattr__")))
    (ga_InvalidNumber : PySem.W.findIn K (.ref C_InvalidNumber) "__getattribute__" = some (some (.builtin "BaseException.__getattribute__")))
    (gg_InvalidNumber : PySem.W.findIn K (.ref C_InvalidNumber) "__getattr__" = some none)
    (nb_InvalidNumber : PySem.W.findIn K (.ref C_InvalidNumber) "value" = some none)
    (ai_InvalidNumber : PySem.W.findIn K (.ref C_InvalidNumber) "__init__" = some (some (.ref i_InvalidNumber)))
    (ti_InvalidNumber : PySem.W.typeIn K (.ref i_InvalidNumber) = some (.type "function"))
    (li_InvalidNumber : K.lookup i_InvalidNumber = some ⟨oc_InvalidNumber, od_InvalidNumber, .func (PySem.W.ksFn "__init__" qu_InvalidNumber (PySem.ErX.iA "value" p1_InvalidNumber p2_InvalidNumber) (PySem.ErX.iB "value" ms_InvalidNumber q1_InvalidNumber q2_InvalidNumber q3_InvalidNumber q4_InvalidNumber q5_InvalidNumber q6_InvalidNumber q7_InvalidNumber q8_InvalidNumber q9_InvalidNumber q10_InvalidNumber) (PySem.ErX.iS "value") .none .none dc_InvalidNumber pm_InvalidNumber an_InvalidNumber (.ref cda_InvalidNumber) ct_InvalidNumber cc_InvalidNumber), sl_InvalidNumber⟩)
    (ci_InvalidNumber : PySem.W.codeIn K (.ref cda_InvalidNumber) qu_InvalidNumber = true)
    (ld_InvalidNumber : K.lookup cda_InvalidNumber = some ⟨f1_InvalidNumber, e1_InvalidNumber, .fields vs_InvalidNumber, s1_InvalidNumber⟩)
    (vs2_InvalidNumber : vs_InvalidNumber[2]? = some (.str fl_InvalidNumber tf_InvalidNumber))
    (hf_InvalidNumber : ((PRG.main.file : Str) == fl_InvalidNumber) = true)
    (lc_InvalidNumber : K.lookup cc_InvalidNumber = some ⟨f2_InvalidNumber, e2_InvalidNumber, .cell (some (.ref C_InvalidNumber)), s2_InvalidNumber⟩)
    (ev_InvalidNumber : PySem.ErX.SupEv ms_InvalidNumber q1_InvalidNumber q2_InvalidNumber q3_InvalidNumber q4_InvalidNumber q5_InvalidNumber)
    (kC_InvalidNumber : PySem.W.keepIn K (.ref C_InvalidNumber) = true)
    (eC_InvalidNumber : PySem.W.subIn K (.ref C_InvalidNumber) (.type "BaseException") = some true)
    (vC_InvalidNumber : PySem.W.subIn K (.ref C_InvalidNumber) (.type "ValueError") = some true)
    (tC_InvalidNumber : PySem.W.typeIn K (.ref C_InvalidNumber) = some (.type "type"))
    (hC_InvalidNumber : PySem.W.hasDictIn K C_InvalidNumber = true)
    (iC_InvalidNumber : PySem.W.isClsIn K C_InvalidNumber = true)
    (sC_InvalidNumber : PySem.W.subIn K (.ref C_InvalidNumber) (.ref C_InvalidNumber) = some true)
    (me_InvalidNumber : PySem.W.mroIn K C_InvalidNumber (.ref C_InvalidNumber) = some true)
    (al_InvalidNumber : PySem.W.ks_superIn K C_InvalidNumber C_InvalidNumber "__init__" = some (some (.builtin "ValueError.__init__")))
    (aC_InvalidName : PySem.W.nsIn K mainGlobals "InvalidName" = some (some (.ref C_InvalidName)))
    (xL_InvalidName : K.lookup C_InvalidName = some (excClassObj nm_InvalidName q_InvalidName C_InvalidName N_InvalidName bs_InvalidName bm_InvalidName true sn_InvalidName sub_InvalidName ab_InvalidName col_InvalidName dd_InvalidName m0_InvalidName m1_InvalidName m2_InvalidName m3_InvalidName m5_InvalidName "ValueError.__new__"))
    (rf_InvalidName : PySem.HandSPX.refsVE bm_InvalidName = true)
    (sa_InvalidName : PySem.W.findIn K (.ref C_InvalidName) "__setattr__" = some (some (.builtin "object.__setattr__")))
    (ga_InvalidName : PySem.W.findIn K (.ref C_InvalidName) "__getattribute__" = some (some (.builtin "BaseException.__getattribute__")))
    (gg_InvalidName : PySem.W.findIn K (.ref C_InvalidName) "__getattr__" = some none)
    (nb_InvalidName : PySem.W.findIn K (.ref C_InvalidName) "value" = some none)
    (ai_InvalidName : PySem.W.findIn K (.ref C_InvalidName) "__init__" = some (some (.ref i_InvalidName)))
    (ti_InvalidName : PySem.W.typeIn K (.ref i_InvalidName) = some (.type "function"))
    (li_InvalidName : K.lookup i_InvalidName = some ⟨oc_InvalidName, od_InvalidName, .func (PySem.W.ksFn "__init__" qu_InvalidName (PySem.ErX.iA "value" p1_InvalidName p2_InvalidName) (PySem.ErX.iB "value" ms_InvalidName q1_InvalidName q2_InvalidName q3_InvalidName q4_InvalidName q5_InvalidName q6_InvalidName q7_InvalidName q8_InvalidName q9_InvalidName q10_InvalidName) (PySem.ErX.iS "value") .none .none dc_InvalidName pm_InvalidName an_InvalidName (.ref cda_InvalidName) ct_InvalidName cc_InvalidName), sl_InvalidName⟩)
    (ci_InvalidName : PySem.W.codeIn K (.ref cda_InvalidName) qu_InvalidName = true)
    (ld_InvalidName : K.lookup cda_InvalidName = some ⟨f1_InvalidName, e1_InvalidName, .fields vs_InvalidName, s1_InvalidName⟩)
    (vs2_InvalidName : vs_InvalidName[2]? = some (.str fl_InvalidName tf_InvalidName))
    (hf_InvalidName : ((PRG.main.file : Str) == fl_InvalidName) = true)
    (lc_InvalidName : K.lookup cc_InvalidName = some ⟨f2_InvalidName, e2_InvalidName, .cell (some (.ref C_InvalidName)), s2_InvalidName⟩)
    (ev_InvalidName : PySem.ErX.SupEv ms_InvalidName q1_InvalidName q2_InvalidName q3_InvalidName q4_InvalidName q5_InvalidName)
    (kC_InvalidName : PySem.W.keepIn K (.ref C_InvalidName) = true)
    (eC_InvalidName : PySem.W.subIn K (.ref C_InvalidName) (.type "BaseException") = some true)
    (vC_InvalidName : PySem.W.subIn K (.ref C_InvalidName) (.type "ValueError") = some true)
    (tC_InvalidName : PySem.W.typeIn K (.ref C_InvalidName) = some (.type "type"))
    (hC_InvalidName : PySem.W.hasDictIn K C_InvalidName = true)
    (iC_InvalidName : PySem.W.isClsIn K C_InvalidName = true)
    (sC_InvalidName : PySem.W.subIn K (.ref C_InvalidName) (.ref C_InvalidName) = some true)
    (me_InvalidName : PySem.W.mroIn K C_InvalidName (.ref C_InvalidName) = some true)
    (al_InvalidName : PySem.W.ks_superIn K C_InvalidName C_InvalidName "__init__" = some (some (.builtin "ValueError.__init__")))
    (aC_Line : PySem.W.nsIn K mainGlobals "Line" = some (some (.ref C_Line)))
    (pg_Line : PySem.W.plainGet K C_Line Str.empty = true)
    (hd_Line : PySem.W.hasDictIn K C_Line = true)
    (po_Line : PySem.W.plainOver K C_Line = true)
    (sa_Line : PySem.W.findIn K (.ref C_Line) "__setattr__" = some (some (.builtin "object.__setattr__")))
    (nf_Line_kept_name : PySem.W.findIn K (.ref C_Line) "kept_name" = some none)
    (nf_Line_kept_stride : PySem.W.findIn K (.ref C_Line) "kept_stride" = some none)
    (mk_Line : PySem.W.makesIn K C_Line = true)
    (kc_Line : PySem.W.keepIn K (.ref C_Line) = true)
    (sf_Line___mul__ : PySem.W.selfFirst K C_Line = true)
    (rv_Line___mul__ : PySem.W.findIn K (.ref C_Line) "__rmul__" = some none)
    (t1_Line___mul__ : PySem.W.findIn K (.type "int") "__mul__" = some fo_Line___mul__)
    (t2_Line___mul__ : PySem.W.findIn K (.type "int") "__rmul__" = some ro_Line___mul__)
    (sb_Line___mul__ : PySem.W.subIn K (.type "int") (.ref C_Line) = some false)
    (a_is_integer : PySem.W.nsIn K mainGlobals "is_integer" = some (some (.ref f_is_integer)))
    (l_is_integer : K.lookup f_is_integer = some ⟨oc_is_integer, od_is_integer, .func (PySem.W.fnOf "is_integer" "is_integer" (defArgs s_is_integer) (defBody s_is_integer) (defScope s_is_integer) .none kV_is_integer dc_is_integer pm_is_integer an_is_integer cd_is_integer ct_is_integer), sl_is_integer⟩)
    (c_is_integer : PySem.W.codeIn K cd_is_integer "is_integer" = true)
    (k_is_integer : PySem.W.keepIn K (.ref f_is_integer) = true)
    (a_is_between : PySem.W.nsIn K mainGlobals "is_between" = some (some (.ref f_is_between)))
    (l_is_between : K.lookup f_is_between = some ⟨oc_is_between, od_is_between, .func (PySem.W.fnOf "is_between" "is_between" (defArgs s_is_between) (defBody s_is_between) (defScope s_is_between) .none kV_is_between dc_is_between pm_is_between an_is_between cd_is_between ct_is_between), sl_is_between⟩)
    (c_is_between : PySem.W.codeIn K cd_is_between "is_between" = true)
    (k_is_between : PySem.W.keepIn K (.ref f_is_between) = true)
    (a_is_count : PySem.W.nsIn K mainGlobals "is_count" = some (some (.ref f_is_count)))
    (l_is_count : K.lookup f_is_count = some ⟨oc_is_count, od_is_count, .func (PySem.W.fnOf "is_count" "is_count" (defArgs s_is_count) (defBody s_is_count) (defScope s_is_count) .none kV_is_count dc_is_count pm_is_count an_is_count cd_is_count ct_is_count), sl_is_count⟩)
    (c_is_count : PySem.W.codeIn K cd_is_count "is_count" = true)
    (k_is_count : PySem.W.keepIn K (.ref f_is_count) = true)
    (a_is_name : PySem.W.nsIn K mainGlobals "is_name" = some (some (.ref f_is_name)))
    (l_is_name : K.lookup f_is_name = some ⟨oc_is_name, od_is_name, .func (PySem.W.fnOf "is_name" "is_name" (defArgs s_is_name) (defBody s_is_name) (defScope s_is_name) .none kV_is_name dc_is_name pm_is_name an_is_name cd_is_name ct_is_name), sl_is_name⟩)
    (c_is_name : PySem.W.codeIn K cd_is_name "is_name" = true)
    (k_is_name : PySem.W.keepIn K (.ref f_is_name) = true)
    (a_is_offset : PySem.W.nsIn K mainGlobals "is_offset" = some (some (.ref f_is_offset)))
    (l_is_offset : K.lookup f_is_offset = some ⟨oc_is_offset, od_is_offset, .func (PySem.W.fnOf "is_offset" "is_offset" (defArgs s_is_offset) (defBody s_is_offset) (defScope s_is_offset) .none kV_is_offset dc_is_offset pm_is_offset an_is_offset cd_is_offset ct_is_offset), sl_is_offset⟩)
    (c_is_offset : PySem.W.codeIn K cd_is_offset "is_offset" = true)
    (k_is_offset : PySem.W.keepIn K (.ref f_is_offset) = true)
    (a_Line___init__ : PySem.W.findIn K (.ref C_Line) "__init__" = some (some (.ref f_Line___init__)))
    (i_Line___init__ : PySem.W.isFn K (.ref f_Line___init__) = true)
    (l_Line___init__ : K.lookup f_Line___init__ = some ⟨oc_Line___init__, od_Line___init__, .func (PySem.W.fnOf "__init__" "Line.__init__" (defArgs s_Line___init__) (defBody s_Line___init__) (defScope s_Line___init__) (.ref T_Line___init__) kV_Line___init__ dc_Line___init__ pm_Line___init__ an_Line___init__ cd_Line___init__ ct_Line___init__), sl_Line___init__⟩)
    (c_Line___init__ : PySem.W.codeIn K cd_Line___init__ "Line.__init__" = true)
    (k_Line___init__ : PySem.W.keepIn K (.ref f_Line___init__) = true)
    (ld_Line___init__ : K.lookup T_Line___init__ = some do_Line___init__)
    (lv_Line___init__ : do_Line___init__.data = .seq #[.int 1 dt0_Line___init__] dn_Line___init__)
    (ap_Line_stride : PySem.W.findIn K (.ref C_Line) "stride" = some (some (.ref p_Line_stride)))
    (gp_Line_stride : PySem.W.specialIn K (.ref p_Line_stride) "__get__" = some (some (.builtin "property.__get__")))
    (tp_Line_stride : PySem.W.takesIn K (.ref p_Line_stride) = some true)
    (rp_Line_stride : PySem.W.recIn K p_Line_stride "property" = some (.ref f_Line_stride :: rs_Line_stride))
    (l_Line_stride : K.lookup f_Line_stride = some ⟨oc_Line_stride, od_Line_stride, .func (PySem.W.fnOf "stride" "Line.stride" (defArgs s_Line_stride) (defBody s_Line_stride) (defScope s_Line_stride) .none kV_Line_stride dc_Line_stride pm_Line_stride an_Line_stride cd_Line_stride ct_Line_stride), sl_Line_stride⟩)
    (c_Line_stride : PySem.W.codeIn K cd_Line_stride "Line.stride" = true)
    (k_Line_stride : PySem.W.keepIn K (.ref f_Line_stride) = true)
    (a_Line___mul__ : PySem.W.findIn K (.ref C_Line) "__mul__" = some (some (.ref f_Line___mul__)))
    (i_Line___mul__ : PySem.W.isFn K (.ref f_Line___mul__) = true)
    (l_Line___mul__ : K.lookup f_Line___mul__ = some ⟨oc_Line___mul__, od_Line___mul__, .func (PySem.W.fnOf "__mul__" "Line.__mul__" (defArgs s_Line___mul__) (defBody s_Line___mul__) (defScope s_Line___mul__) .none kV_Line___mul__ dc_Line___mul__ pm_Line___mul__ an_Line___mul__ cd_Line___mul__ ct_Line___mul__), sl_Line___mul__⟩)
    (c_Line___mul__ : PySem.W.codeIn K cd_Line___mul__ "Line.__mul__" = true)
    (k_Line___mul__ : PySem.W.keepIn K (.ref f_Line___mul__) = true)
    (a_Line_cell : PySem.W.findIn K (.ref C_Line) "cell" = some (some (.ref f_Line_cell)))
    (i_Line_cell : PySem.W.isFn K (.ref f_Line_cell) = true)
    (l_Line_cell : K.lookup f_Line_cell = some ⟨oc_Line_cell, od_Line_cell, .func (PySem.W.fnOf "cell" "Line.cell" (defArgs s_Line_cell) (defBody s_Line_cell) (defScope s_Line_cell) .none kV_Line_cell dc_Line_cell pm_Line_cell an_Line_cell cd_Line_cell ct_Line_cell), sl_Line_cell⟩)
    (c_Line_cell : PySem.W.codeIn K cd_Line_cell "Line.cell" = true)
    (k_Line_cell : PySem.W.keepIn K (.ref f_Line_cell) = true)
    (a_Line_distance : PySem.W.findIn K (.ref C_Line) "distance" = some (some (.ref f_Line_distance)))
    (i_Line_distance : PySem.W.isFn K (.ref f_Line_distance) = true)
    (l_Line_distance : K.lookup f_Line_distance = some ⟨oc_Line_distance, od_Line_distance, .func (PySem.W.fnOf "distance" "Line.distance" (defArgs s_Line_distance) (defBody s_Line_distance) (defScope s_Line_distance) .none kV_Line_distance dc_Line_distance pm_Line_distance an_Line_distance cd_Line_distance ct_Line_distance), sl_Line_distance⟩)
    (c_Line_distance : PySem.W.codeIn K cd_Line_distance "Line.distance" = true)
    (k_Line_distance : PySem.W.keepIn K (.ref f_Line_distance) = true)
    (a__law_begin : PySem.W.nsIn K mainGlobals "_law_begin" = some (some (.ref f__law_begin)))
    (l__law_begin : K.lookup f__law_begin = some ⟨oc__law_begin, od__law_begin, .func (PySem.W.fnOf "_law_begin" "_law_begin" (defArgs s__law_begin) (defBody s__law_begin) (defScope s__law_begin) .none kV__law_begin dc__law_begin pm__law_begin an__law_begin cd__law_begin ct__law_begin), sl__law_begin⟩)
    (c__law_begin : PySem.W.codeIn K cd__law_begin "_law_begin" = true)
    (k__law_begin : PySem.W.keepIn K (.ref f__law_begin) = true)
    (a__law_draw : PySem.W.nsIn K mainGlobals "_law_draw" = some (some (.ref f__law_draw)))
    (l__law_draw : K.lookup f__law_draw = some ⟨oc__law_draw, od__law_draw, .func (PySem.W.fnOf "_law_draw" "_law_draw" (defArgs s__law_draw) (defBody s__law_draw) (defScope s__law_draw) .none kV__law_draw dc__law_draw pm__law_draw an__law_draw cd__law_draw ct__law_draw), sl__law_draw⟩)
    (c__law_draw : PySem.W.codeIn K cd__law_draw "_law_draw" = true)
    (k__law_draw : PySem.W.keepIn K (.ref f__law_draw) = true)
    (a__law_pick : PySem.W.nsIn K mainGlobals "_law_pick" = some (some (.ref f__law_pick)))
    (l__law_pick : K.lookup f__law_pick = some ⟨oc__law_pick, od__law_pick, .func (PySem.W.fnOf "_law_pick" "_law_pick" (defArgs s__law_pick) (defBody s__law_pick) (defScope s__law_pick) .none kV__law_pick dc__law_pick pm__law_pick an__law_pick cd__law_pick ct__law_pick), sl__law_pick⟩)
    (c__law_pick : PySem.W.codeIn K cd__law_pick "_law_pick" = true)
    (k__law_pick : PySem.W.keepIn K (.ref f__law_pick) = true)
    (a__law_mixed : PySem.W.nsIn K mainGlobals "_law_mixed" = some (some (.ref f__law_mixed)))
    (l__law_mixed : K.lookup f__law_mixed = some ⟨oc__law_mixed, od__law_mixed, .func (PySem.W.fnOf "_law_mixed" "_law_mixed" (defArgs s__law_mixed) (defBody s__law_mixed) (defScope s__law_mixed) .none kV__law_mixed dc__law_mixed pm__law_mixed an__law_mixed cd__law_mixed ct__law_mixed), sl__law_mixed⟩)
    (c__law_mixed : PySem.W.codeIn K cd__law_mixed "_law_mixed" = true)
    (k__law_mixed : PySem.W.keepIn K (.ref f__law_mixed) = true)
    (a__law_stem : PySem.W.nsIn K mainGlobals "_law_stem" = some (some (.ref f__law_stem)))
    (l__law_stem : K.lookup f__law_stem = some ⟨oc__law_stem, od__law_stem, .func (PySem.W.fnOf "_law_stem" "_law_stem" (defArgs s__law_stem) (defBody s__law_stem) (defScope s__law_stem) .none kV__law_stem dc__law_stem pm__law_stem an__law_stem cd__law_stem ct__law_stem), sl__law_stem⟩)
    (c__law_stem : PySem.W.codeIn K cd__law_stem "_law_stem" = true)
    (k__law_stem : PySem.W.keepIn K (.ref f__law_stem) = true)
    (a__law_names : PySem.W.nsIn K mainGlobals "_law_names" = some (some (.ref f__law_names)))
    (l__law_names : K.lookup f__law_names = some ⟨oc__law_names, od__law_names, .func (PySem.W.fnOf "_law_names" "_law_names" (defArgs s__law_names) (defBody s__law_names) (defScope s__law_names) .none kV__law_names dc__law_names pm__law_names an__law_names cd__law_names ct__law_names), sl__law_names⟩)
    (c__law_names : PySem.W.codeIn K cd__law_names "_law_names" = true)
    (k__law_names : PySem.W.keepIn K (.ref f__law_names) = true)
    (a__law_tried : PySem.W.nsIn K mainGlobals "_law_tried" = some (some (.ref f__law_tried)))
    (l__law_tried : K.lookup f__law_tried = some ⟨oc__law_tried, od__law_tried, .func (PySem.W.fnOf "_law_tried" "_law_tried" (defArgs s__law_tried) (defBody s__law_tried) (defScope s__law_tried) .none kV__law_tried dc__law_tried pm__law_tried an__law_tried cd__law_tried ct__law_tried), sl__law_tried⟩)
    (c__law_tried : PySem.W.codeIn K cd__law_tried "_law_tried" = true)
    (k__law_tried : PySem.W.keepIn K (.ref f__law_tried) = true)
    (a__law_refused : PySem.W.nsIn K mainGlobals "_law_refused" = some (some (.ref f__law_refused)))
    (l__law_refused : K.lookup f__law_refused = some ⟨oc__law_refused, od__law_refused, .func (PySem.W.fnOf "_law_refused" "_law_refused" (defArgs s__law_refused) (defBody s__law_refused) (defScope s__law_refused) .none kV__law_refused dc__law_refused pm__law_refused an__law_refused cd__law_refused ct__law_refused), sl__law_refused⟩)
    (c__law_refused : PySem.W.codeIn K cd__law_refused "_law_refused" = true)
    (k__law_refused : PySem.W.keepIn K (.ref f__law_refused) = true)
    (a_law : PySem.W.nsIn K mainGlobals "law" = some (some (.ref f_law)))
    (l_law : K.lookup f_law = some ⟨oc_law, od_law, .func (PySem.W.fnOf "law" "law" (defArgs s_law) (defBody s_law) (defScope s_law) .none kV_law dc_law pm_law an_law cd_law ct_law), sl_law⟩)
    (c_law : PySem.W.codeIn K cd_law "law" = true)
    (k_law : PySem.W.keepIn K (.ref f_law) = true)
    (mm_all : PySem.W.nsIn K mainGlobals "all" = some none)
    (mm_bool : PySem.W.nsIn K mainGlobals "bool" = some none)
    (mm_int : PySem.W.nsIn K mainGlobals "int" = some none)
    (mm_isinstance : PySem.W.nsIn K mainGlobals "isinstance" = some none)
    (mm_len : PySem.W.nsIn K mainGlobals "len" = some none)
    (mm_list : PySem.W.nsIn K mainGlobals "list" = some none)
    (mm_range : PySem.W.nsIn K mainGlobals "range" = some none)
    (mm_repr : PySem.W.nsIn K mainGlobals "repr" = some none)
    (mm_str : PySem.W.nsIn K mainGlobals "str" = some none)
    (q_LETTERS : PySem.W.nsIn K mainGlobals "LETTERS" = some (some (.str "abcdefghijklmnopqrstuvwxyz" t_LETTERS)))
    (q_MOST_LETTERS : PySem.W.nsIn K mainGlobals "MOST_LETTERS" = some (some (.int 8 t_MOST_LETTERS)))
    (q_MOST_STRIDE : PySem.W.nsIn K mainGlobals "MOST_STRIDE" = some (some (.int 6 t_MOST_STRIDE)))
    (q_MOST_OFFSET : PySem.W.nsIn K mainGlobals "MOST_OFFSET" = some (some (.int 9 t_MOST_OFFSET)))
    : ∃ fd : FuncData, (∀ (s : Shared) (v : Value), BindsTo s fd ⟨[v], []⟩ [("script", v)]) ∧ ∀ base : Heap, K.In base → base.Ns mainGlobals mg → FnOk PRG w K mg base CX0 9 fa fd ["script"] (sp_law K) := by
  have e := hfa.symm.trans (PySem.W.mg_of X G a_law)
  cases e
  let A : Ad := { C_InvalidNumber := C_InvalidNumber, i_InvalidNumber := i_InvalidNumber, C_InvalidName := C_InvalidName, i_InvalidName := i_InvalidName, C_Line := C_Line, a_is_integer := f_is_integer, fd_is_integer := (PySem.W.fnOf "is_integer" "is_integer" (defArgs s_is_integer) (defBody s_is_integer) (defScope s_is_integer) .none kV_is_integer dc_is_integer pm_is_integer an_is_integer cd_is_integer ct_is_integer), a_is_between := f_is_between, fd_is_between := (PySem.W.fnOf "is_between" "is_between" (defArgs s_is_between) (defBody s_is_between) (defScope s_is_between) .none kV_is_between dc_is_between pm_is_between an_is_between cd_is_between ct_is_between), a_is_count := f_is_count, fd_is_count := (PySem.W.fnOf "is_count" "is_count" (defArgs s_is_count) (defBody s_is_count) (defScope s_is_count) .none kV_is_count dc_is_count pm_is_count an_is_count cd_is_count ct_is_count), a_is_name := f_is_name, fd_is_name := (PySem.W.fnOf "is_name" "is_name" (defArgs s_is_name) (defBody s_is_name) (defScope s_is_name) .none kV_is_name dc_is_name pm_is_name an_is_name cd_is_name ct_is_name), a_is_offset := f_is_offset, fd_is_offset := (PySem.W.fnOf "is_offset" "is_offset" (defArgs s_is_offset) (defBody s_is_offset) (defScope s_is_offset) .none kV_is_offset dc_is_offset pm_is_offset an_is_offset cd_is_offset ct_is_offset), a_Line___init__ := f_Line___init__, fd_Line___init__ := (PySem.W.fnOf "__init__" "Line.__init__" (defArgs s_Line___init__) (defBody s_Line___init__) (defScope s_Line___init__) (.ref T_Line___init__) kV_Line___init__ dc_Line___init__ pm_Line___init__ an_Line___init__ cd_Line___init__ ct_Line___init__), a_Line_stride := f_Line_stride, fd_Line_stride := (PySem.W.fnOf "stride" "Line.stride" (defArgs s_Line_stride) (defBody s_Line_stride) (defScope s_Line_stride) .none kV_Line_stride dc_Line_stride pm_Line_stride an_Line_stride cd_Line_stride ct_Line_stride), p_Line_stride := p_Line_stride, a_Line___mul__ := f_Line___mul__, fd_Line___mul__ := (PySem.W.fnOf "__mul__" "Line.__mul__" (defArgs s_Line___mul__) (defBody s_Line___mul__) (defScope s_Line___mul__) .none kV_Line___mul__ dc_Line___mul__ pm_Line___mul__ an_Line___mul__ cd_Line___mul__ ct_Line___mul__), a_Line_cell := f_Line_cell, fd_Line_cell := (PySem.W.fnOf "cell" "Line.cell" (defArgs s_Line_cell) (defBody s_Line_cell) (defScope s_Line_cell) .none kV_Line_cell dc_Line_cell pm_Line_cell an_Line_cell cd_Line_cell ct_Line_cell), a_Line_distance := f_Line_distance, fd_Line_distance := (PySem.W.fnOf "distance" "Line.distance" (defArgs s_Line_distance) (defBody s_Line_distance) (defScope s_Line_distance) .none kV_Line_distance dc_Line_distance pm_Line_distance an_Line_distance cd_Line_distance ct_Line_distance), a__law_begin := f__law_begin, fd__law_begin := (PySem.W.fnOf "_law_begin" "_law_begin" (defArgs s__law_begin) (defBody s__law_begin) (defScope s__law_begin) .none kV__law_begin dc__law_begin pm__law_begin an__law_begin cd__law_begin ct__law_begin), a__law_draw := f__law_draw, fd__law_draw := (PySem.W.fnOf "_law_draw" "_law_draw" (defArgs s__law_draw) (defBody s__law_draw) (defScope s__law_draw) .none kV__law_draw dc__law_draw pm__law_draw an__law_draw cd__law_draw ct__law_draw), a__law_pick := f__law_pick, fd__law_pick := (PySem.W.fnOf "_law_pick" "_law_pick" (defArgs s__law_pick) (defBody s__law_pick) (defScope s__law_pick) .none kV__law_pick dc__law_pick pm__law_pick an__law_pick cd__law_pick ct__law_pick), a__law_mixed := f__law_mixed, fd__law_mixed := (PySem.W.fnOf "_law_mixed" "_law_mixed" (defArgs s__law_mixed) (defBody s__law_mixed) (defScope s__law_mixed) .none kV__law_mixed dc__law_mixed pm__law_mixed an__law_mixed cd__law_mixed ct__law_mixed), a__law_stem := f__law_stem, fd__law_stem := (PySem.W.fnOf "_law_stem" "_law_stem" (defArgs s__law_stem) (defBody s__law_stem) (defScope s__law_stem) .none kV__law_stem dc__law_stem pm__law_stem an__law_stem cd__law_stem ct__law_stem), a__law_names := f__law_names, fd__law_names := (PySem.W.fnOf "_law_names" "_law_names" (defArgs s__law_names) (defBody s__law_names) (defScope s__law_names) .none kV__law_names dc__law_names pm__law_names an__law_names cd__law_names ct__law_names), a__law_tried := f__law_tried, fd__law_tried := (PySem.W.fnOf "_law_tried" "_law_tried" (defArgs s__law_tried) (defBody s__law_tried) (defScope s__law_tried) .none kV__law_tried dc__law_tried pm__law_tried an__law_tried cd__law_tried ct__law_tried), a__law_refused := f__law_refused, fd__law_refused := (PySem.W.fnOf "_law_refused" "_law_refused" (defArgs s__law_refused) (defBody s__law_refused) (defScope s__law_refused) .none kV__law_refused dc__law_refused pm__law_refused an__law_refused cd__law_refused ct__law_refused), a_law := fa, fd_law := (PySem.W.fnOf "law" "law" (defArgs s_law) (defBody s_law) (defScope s_law) .none kV_law dc_law pm_law an_law cd_law ct_law) }
  have F_is_integer' := fun_mk (st := s_is_integer) l_is_integer c_is_integer k_is_integer
  have F_is_between' := fun_mk (st := s_is_between) l_is_between c_is_between k_is_between
  have F_is_count' := fun_mk (st := s_is_count) l_is_count c_is_count k_is_count
  have F_is_name' := fun_mk (st := s_is_name) l_is_name c_is_name k_is_name
  have F_is_offset' := fun_mk (st := s_is_offset) l_is_offset c_is_offset k_is_offset
  have F_Line___init__' : FunD K "__init__" "Line.__init__" (defArgs s_Line___init__) (defBody s_Line___init__) (defScope s_Line___init__) [.int 1] [] f_Line___init__ (PySem.W.fnOf "__init__" "Line.__init__" (defArgs s_Line___init__) (defBody s_Line___init__) (defScope s_Line___init__) (.ref T_Line___init__) kV_Line___init__ dc_Line___init__ pm_Line___init__ an_Line___init__ cd_Line___init__ ct_Line___init__) := ⟨⟨_, _, _, _, _, _, _, _, _, _, rfl, l_Line___init__, c_Line___init__, .inr ⟨by simp, T_Line___init__, do_Line___init__, [.int 1 dt0_Line___init__], dn_Line___init__, rfl, ld_Line___init__, lv_Line___init__, (.cons ⟨_, rfl⟩ .nil)⟩, .inl rfl⟩, k_Line___init__⟩
  have F_Line_stride' := fun_mk (st := s_Line_stride) l_Line_stride c_Line_stride k_Line_stride
  have F_Line___mul__' := fun_mk (st := s_Line___mul__) l_Line___mul__ c_Line___mul__ k_Line___mul__
  have F_Line_cell' := fun_mk (st := s_Line_cell) l_Line_cell c_Line_cell k_Line_cell
  have F_Line_distance' := fun_mk (st := s_Line_distance) l_Line_distance c_Line_distance k_Line_distance
  have F__law_begin' := fun_mk (st := s__law_begin) l__law_begin c__law_begin k__law_begin
  have F__law_draw' := fun_mk (st := s__law_draw) l__law_draw c__law_draw k__law_draw
  have F__law_pick' := fun_mk (st := s__law_pick) l__law_pick c__law_pick k__law_pick
  have F__law_mixed' := fun_mk (st := s__law_mixed) l__law_mixed c__law_mixed k__law_mixed
  have F__law_stem' := fun_mk (st := s__law_stem) l__law_stem c__law_stem k__law_stem
  have F__law_names' := fun_mk (st := s__law_names) l__law_names c__law_names k__law_names
  have F__law_tried' := fun_mk (st := s__law_tried) l__law_tried c__law_tried k__law_tried
  have F__law_refused' := fun_mk (st := s__law_refused) l__law_refused c__law_refused k__law_refused
  have F_law' := fun_mk (st := s_law) l_law c_law k_law
  have x_er_InvalidNumber : ErTxt PRG K mg "InvalidNumber" "value" A.C_InvalidNumber A.i_InvalidNumber := { gC := PySem.W.mg_of X G aC_InvalidNumber, cls := ⟨nm_InvalidNumber, q_InvalidNumber, N_InvalidNumber, bs_InvalidNumber, _, sn_InvalidNumber, sub_InvalidNumber, ab_InvalidNumber, col_InvalidNumber, dd_InvalidNumber, m0_InvalidNumber, m1_InvalidNumber, m2_InvalidNumber, m3_InvalidNumber, m5_InvalidNumber, xL_InvalidNumber, rf_InvalidNumber⟩, sa := sa_InvalidNumber, ga := ga_InvalidNumber, gg := gg_InvalidNumber, noN := nb_InvalidNumber, iC := ai_InvalidNumber, tC := ti_InvalidNumber, kC := kC_InvalidNumber, exC := eC_InvalidNumber, veC := vC_InvalidNumber, tyC := tC_InvalidNumber, hdC := hC_InvalidNumber, te := VW.exm_self eC_InvalidNumber iC_InvalidNumber tC_InvalidNumber sC_InvalidNumber, meC := me_InvalidNumber, alC := al_InvalidNumber, opq := opq0, sup := sup0, nsup := nsup0, fn := ⟨oc_InvalidNumber, od_InvalidNumber, dc_InvalidNumber, pm_InvalidNumber, an_InvalidNumber, cda_InvalidNumber, cc_InvalidNumber, ct_InvalidNumber, sl_InvalidNumber, qu_InvalidNumber, ms_InvalidNumber, p1_InvalidNumber, p2_InvalidNumber, q1_InvalidNumber, q2_InvalidNumber, q3_InvalidNumber, q4_InvalidNumber, q5_InvalidNumber, q6_InvalidNumber, q7_InvalidNumber, q8_InvalidNumber, q9_InvalidNumber, q10_InvalidNumber, f1_InvalidNumber, f2_InvalidNumber, e1_InvalidNumber, e2_InvalidNumber, vs_InvalidNumber, s1_InvalidNumber, s2_InvalidNumber, fl_InvalidNumber, tf_InvalidNumber, li_InvalidNumber, ci_InvalidNumber, ld_InvalidNumber, vs2_InvalidNumber, hf_InvalidNumber, lc_InvalidNumber, ev_InvalidNumber⟩ }
  have x_er_InvalidName : ErTxt PRG K mg "InvalidName" "value" A.C_InvalidName A.i_InvalidName := { gC := PySem.W.mg_of X G aC_InvalidName, cls := ⟨nm_InvalidName, q_InvalidName, N_InvalidName, bs_InvalidName, _, sn_InvalidName, sub_InvalidName, ab_InvalidName, col_InvalidName, dd_InvalidName, m0_InvalidName, m1_InvalidName, m2_InvalidName, m3_InvalidName, m5_InvalidName, xL_InvalidName, rf_InvalidName⟩, sa := sa_InvalidName, ga := ga_InvalidName, gg := gg_InvalidName, noN := nb_InvalidName, iC := ai_InvalidName, tC := ti_InvalidName, kC := kC_InvalidName, exC := eC_InvalidName, veC := vC_InvalidName, tyC := tC_InvalidName, hdC := hC_InvalidName, te := VW.exm_self eC_InvalidName iC_InvalidName tC_InvalidName sC_InvalidName, meC := me_InvalidName, alC := al_InvalidName, opq := opq0, sup := sup0, nsup := nsup0, fn := ⟨oc_InvalidName, od_InvalidName, dc_InvalidName, pm_InvalidName, an_InvalidName, cda_InvalidName, cc_InvalidName, ct_InvalidName, sl_InvalidName, qu_InvalidName, ms_InvalidName, p1_InvalidName, p2_InvalidName, q1_InvalidName, q2_InvalidName, q3_InvalidName, q4_InvalidName, q5_InvalidName, q6_InvalidName, q7_InvalidName, q8_InvalidName, q9_InvalidName, q10_InvalidName, f1_InvalidName, f2_InvalidName, e1_InvalidName, e2_InvalidName, vs_InvalidName, s1_InvalidName, s2_InvalidName, fl_InvalidName, tf_InvalidName, li_InvalidName, ci_InvalidName, ld_InvalidName, vs2_InvalidName, hf_InvalidName, lc_InvalidName, ev_InvalidName⟩ }
  have x_g_Line : mg "Line" = some (.ref A.C_Line) := PySem.W.mg_of X G aC_Line
  have x_cl_Line : Cls K A.C_Line := ⟨pg_Line, hd_Line, po_Line, sa_Line⟩
  have x_n_Line_kept_name : NoAttr K A.C_Line "kept_name" := nf_Line_kept_name
  have x_n_Line_kept_stride : NoAttr K A.C_Line "kept_stride" := nf_Line_kept_stride
  have x_M_Line : Mk K A.C_Line A.a_Line___init__ := ⟨mk_Line, a_Line___init__, i_Line___init__, kc_Line⟩
  have x_bin_Line___mul__ : BinC K A.C_Line A.a_Line___mul__ .Mult "int" := ⟨sf_Line___mul__, a_Line___mul__, i_Line___mul__, rv_Line___mul__, ⟨_, t1_Line___mul__⟩, ⟨_, t2_Line___mul__⟩, sb_Line___mul__⟩
  have x_F_is_integer : Fun K "is_integer" "is_integer" s_is_integer A.a_is_integer A.fd_is_integer := F_is_integer'
  have x_b_is_integer : Binds K A.fd_is_integer ["value"] [] := (F_is_integer'.binds (ps := ["value"]) fun _ _ _ _ _ _ us hl => match us, hl with | [_], _ => rfl)
  have x_g_is_integer : mg "is_integer" = some (.ref A.a_is_integer) := PySem.W.mg_of X G a_is_integer
  have x_F_is_between : Fun K "is_between" "is_between" s_is_between A.a_is_between A.fd_is_between := F_is_between'
  have x_b_is_between : Binds K A.fd_is_between ["value", "low", "high"] [] := (F_is_between'.binds (ps := ["value", "low", "high"]) fun _ _ _ _ _ _ us hl => match us, hl with | [_, _, _], _ => rfl)
  have x_g_is_between : mg "is_between" = some (.ref A.a_is_between) := PySem.W.mg_of X G a_is_between
  have x_F_is_count : Fun K "is_count" "is_count" s_is_count A.a_is_count A.fd_is_count := F_is_count'
  have x_b_is_count : Binds K A.fd_is_count ["value"] [] := (F_is_count'.binds (ps := ["value"]) fun _ _ _ _ _ _ us hl => match us, hl with | [_], _ => rfl)
  have x_g_is_count : mg "is_count" = some (.ref A.a_is_count) := PySem.W.mg_of X G a_is_count
  have x_F_is_name : Fun K "is_name" "is_name" s_is_name A.a_is_name A.fd_is_name := F_is_name'
  have x_b_is_name : Binds K A.fd_is_name ["value"] [] := (F_is_name'.binds (ps := ["value"]) fun _ _ _ _ _ _ us hl => match us, hl with | [_], _ => rfl)
  have x_g_is_name : mg "is_name" = some (.ref A.a_is_name) := PySem.W.mg_of X G a_is_name
  have x_F_is_offset : Fun K "is_offset" "is_offset" s_is_offset A.a_is_offset A.fd_is_offset := F_is_offset'
  have x_b_is_offset : Binds K A.fd_is_offset ["value"] [] := (F_is_offset'.binds (ps := ["value"]) fun _ _ _ _ _ _ us hl => match us, hl with | [_], _ => rfl)
  have x_g_is_offset : mg "is_offset" = some (.ref A.a_is_offset) := PySem.W.mg_of X G a_is_offset
  have x_F_Line___init__ : FunD K "__init__" "Line.__init__" (defArgs s_Line___init__) (defBody s_Line___init__) (defScope s_Line___init__) [.int 1] [] A.a_Line___init__ A.fd_Line___init__ := ⟨⟨_, _, _, _, _, _, _, _, _, _, rfl, l_Line___init__, c_Line___init__, .inr ⟨by simp, T_Line___init__, do_Line___init__, [.int 1 dt0_Line___init__], dn_Line___init__, rfl, ld_Line___init__, lv_Line___init__, (.cons ⟨_, rfl⟩ .nil)⟩, .inl rfl⟩, k_Line___init__⟩
  have x_b_Line___init__ : Binds K A.fd_Line___init__ ["self", "name", "stride"] [] := VW.binds_all F_Line___init__' (by simp) (fun T kV doc pm an cdv ct us its hu hi => match us, hu, its, hi with | [_, _, _], _, [_], _ => ⟨_, rfl, rfl⟩)
  have x_me_Line___init__ : Meth K A.C_Line "__init__" A.a_Line___init__ := ⟨a_Line___init__, i_Line___init__, k_Line___init__⟩
  have x_F_Line_stride : Fun K "stride" "Line.stride" s_Line_stride A.a_Line_stride A.fd_Line_stride := F_Line_stride'
  have x_b_Line_stride : Binds K A.fd_Line_stride ["self"] [] := (F_Line_stride'.binds (ps := ["self"]) fun _ _ _ _ _ _ us hl => match us, hl with | [_], _ => rfl)
  have x_pr_Line_stride : PropOf K A.C_Line "stride" A.p_Line_stride A.a_Line_stride := ⟨ap_Line_stride, gp_Line_stride, tp_Line_stride, ⟨_, rp_Line_stride⟩⟩
  have x_F_Line___mul__ : Fun K "__mul__" "Line.__mul__" s_Line___mul__ A.a_Line___mul__ A.fd_Line___mul__ := F_Line___mul__'
  have x_b_Line___mul__ : Binds K A.fd_Line___mul__ ["self", "times"] [] := (F_Line___mul__'.binds (ps := ["self", "times"]) fun _ _ _ _ _ _ us hl => match us, hl with | [_, _], _ => rfl)
  have x_me_Line___mul__ : Meth K A.C_Line "__mul__" A.a_Line___mul__ := ⟨a_Line___mul__, i_Line___mul__, k_Line___mul__⟩
  have x_F_Line_cell : Fun K "cell" "Line.cell" s_Line_cell A.a_Line_cell A.fd_Line_cell := F_Line_cell'
  have x_b_Line_cell : Binds K A.fd_Line_cell ["self", "offset", "at"] [] := (F_Line_cell'.binds (ps := ["self", "offset", "at"]) fun _ _ _ _ _ _ us hl => match us, hl with | [_, _, _], _ => rfl)
  have x_me_Line_cell : Meth K A.C_Line "cell" A.a_Line_cell := ⟨a_Line_cell, i_Line_cell, k_Line_cell⟩
  have x_F_Line_distance : Fun K "distance" "Line.distance" s_Line_distance A.a_Line_distance A.fd_Line_distance := F_Line_distance'
  have x_b_Line_distance : Binds K A.fd_Line_distance ["self", "first", "second"] [] := (F_Line_distance'.binds (ps := ["self", "first", "second"]) fun _ _ _ _ _ _ us hl => match us, hl with | [_, _, _], _ => rfl)
  have x_me_Line_distance : Meth K A.C_Line "distance" A.a_Line_distance := ⟨a_Line_distance, i_Line_distance, k_Line_distance⟩
  have x_F__law_begin : Fun K "_law_begin" "_law_begin" s__law_begin A.a__law_begin A.fd__law_begin := F__law_begin'
  have x_b__law_begin : Binds K A.fd__law_begin ["script"] [] := (F__law_begin'.binds (ps := ["script"]) fun _ _ _ _ _ _ us hl => match us, hl with | [_], _ => rfl)
  have x_g__law_begin : mg "_law_begin" = some (.ref A.a__law_begin) := PySem.W.mg_of X G a__law_begin
  have x_F__law_draw : Fun K "_law_draw" "_law_draw" s__law_draw A.a__law_draw A.fd__law_draw := F__law_draw'
  have x_b__law_draw : Binds K A.fd__law_draw ["source", "limit"] [] := (F__law_draw'.binds (ps := ["source", "limit"]) fun _ _ _ _ _ _ us hl => match us, hl with | [_, _], _ => rfl)
  have x_g__law_draw : mg "_law_draw" = some (.ref A.a__law_draw) := PySem.W.mg_of X G a__law_draw
  have x_F__law_pick : Fun K "_law_pick" "_law_pick" s__law_pick A.a__law_pick A.fd__law_pick := F__law_pick'
  have x_b__law_pick : Binds K A.fd__law_pick ["source", "items"] [] := (F__law_pick'.binds (ps := ["source", "items"]) fun _ _ _ _ _ _ us hl => match us, hl with | [_, _], _ => rfl)
  have x_g__law_pick : mg "_law_pick" = some (.ref A.a__law_pick) := PySem.W.mg_of X G a__law_pick
  have x_F__law_mixed : Fun K "_law_mixed" "_law_mixed" s__law_mixed A.a__law_mixed A.fd__law_mixed := F__law_mixed'
  have x_b__law_mixed : Binds K A.fd__law_mixed ["source", "items"] [] := (F__law_mixed'.binds (ps := ["source", "items"]) fun _ _ _ _ _ _ us hl => match us, hl with | [_, _], _ => rfl)
  have x_g__law_mixed : mg "_law_mixed" = some (.ref A.a__law_mixed) := PySem.W.mg_of X G a__law_mixed
  have x_F__law_stem : Fun K "_law_stem" "_law_stem" s__law_stem A.a__law_stem A.fd__law_stem := F__law_stem'
  have x_b__law_stem : Binds K A.fd__law_stem ["source"] [] := (F__law_stem'.binds (ps := ["source"]) fun _ _ _ _ _ _ us hl => match us, hl with | [_], _ => rfl)
  have x_g__law_stem : mg "_law_stem" = some (.ref A.a__law_stem) := PySem.W.mg_of X G a__law_stem
  have x_F__law_names : Fun K "_law_names" "_law_names" s__law_names A.a__law_names A.fd__law_names := F__law_names'
  have x_b__law_names : Binds K A.fd__law_names ["source", "many"] [] := (F__law_names'.binds (ps := ["source", "many"]) fun _ _ _ _ _ _ us hl => match us, hl with | [_, _], _ => rfl)
  have x_g__law_names : mg "_law_names" = some (.ref A.a__law_names) := PySem.W.mg_of X G a__law_names
  have x_F__law_tried : Fun K "_law_tried" "_law_tried" s__law_tried A.a__law_tried A.fd__law_tried := F__law_tried'
  have x_b__law_tried : Binds K A.fd__law_tried ["line", "first", "second"] [] := (F__law_tried'.binds (ps := ["line", "first", "second"]) fun _ _ _ _ _ _ us hl => match us, hl with | [_, _, _], _ => rfl)
  have x_g__law_tried : mg "_law_tried" = some (.ref A.a__law_tried) := PySem.W.mg_of X G a__law_tried
  have x_F__law_refused : Fun K "_law_refused" "_law_refused" s__law_refused A.a__law_refused A.fd__law_refused := F__law_refused'
  have x_b__law_refused : Binds K A.fd__law_refused ["line", "first", "second"] [] := (F__law_refused'.binds (ps := ["line", "first", "second"]) fun _ _ _ _ _ _ us hl => match us, hl with | [_, _, _], _ => rfl)
  have x_g__law_refused : mg "_law_refused" = some (.ref A.a__law_refused) := PySem.W.mg_of X G a__law_refused
  have x_F_law : Fun K "law" "law" s_law A.a_law A.fd_law := F_law'
  have x_b_law : Binds K A.fd_law ["script"] [] := (F_law'.binds (ps := ["script"]) fun _ _ _ _ _ _ us hl => match us, hl with | [_], _ => rfl)
  have x_g_law : mg "law" = some (.ref A.a_law) := PySem.W.mg_of X G a_law
  have x_m_all : mg "all" = none := PySem.W.mg_none_of X G mm_all
  have x_m_bool : mg "bool" = none := PySem.W.mg_none_of X G mm_bool
  have x_m_int : mg "int" = none := PySem.W.mg_none_of X G mm_int
  have x_m_isinstance : mg "isinstance" = none := PySem.W.mg_none_of X G mm_isinstance
  have x_m_len : mg "len" = none := PySem.W.mg_none_of X G mm_len
  have x_m_list : mg "list" = none := PySem.W.mg_none_of X G mm_list
  have x_m_range : mg "range" = none := PySem.W.mg_none_of X G mm_range
  have x_m_repr : mg "repr" = none := PySem.W.mg_none_of X G mm_repr
  have x_m_str : mg "str" = none := PySem.W.mg_none_of X G mm_str
  have x_c_LETTERS : ∃ t, mg "LETTERS" = some (.str "abcdefghijklmnopqrstuvwxyz" t) := ⟨_, PySem.W.mg_of X G q_LETTERS⟩
  have x_c_MOST_LETTERS : ∃ t, mg "MOST_LETTERS" = some (.int 8 t) := ⟨_, PySem.W.mg_of X G q_MOST_LETTERS⟩
  have x_c_MOST_STRIDE : ∃ t, mg "MOST_STRIDE" = some (.int 6 t) := ⟨_, PySem.W.mg_of X G q_MOST_STRIDE⟩
  have x_c_MOST_OFFSET : ∃ t, mg "MOST_OFFSET" = some (.int 9 t) := ⟨_, PySem.W.mg_of X G q_MOST_OFFSET⟩
  have T : Tx PRG A K mg := { er_InvalidNumber := x_er_InvalidNumber, er_InvalidName := x_er_InvalidName, g_Line := x_g_Line, cl_Line := x_cl_Line, n_Line_kept_name := x_n_Line_kept_name, n_Line_kept_stride := x_n_Line_kept_stride, M_Line := x_M_Line, bin_Line___mul__ := x_bin_Line___mul__, F_is_integer := x_F_is_integer, b_is_integer := x_b_is_integer, g_is_integer := x_g_is_integer, F_is_between := x_F_is_between, b_is_between := x_b_is_between, g_is_between := x_g_is_between, F_is_count := x_F_is_count, b_is_count := x_b_is_count, g_is_count := x_g_is_count, F_is_name := x_F_is_name, b_is_name := x_b_is_name, g_is_name := x_g_is_name, F_is_offset := x_F_is_offset, b_is_offset := x_b_is_offset, g_is_offset := x_g_is_offset, F_Line___init__ := x_F_Line___init__, b_Line___init__ := x_b_Line___init__, me_Line___init__ := x_me_Line___init__, F_Line_stride := x_F_Line_stride, b_Line_stride := x_b_Line_stride, pr_Line_stride := x_pr_Line_stride, F_Line___mul__ := x_F_Line___mul__, b_Line___mul__ := x_b_Line___mul__, me_Line___mul__ := x_me_Line___mul__, F_Line_cell := x_F_Line_cell, b_Line_cell := x_b_Line_cell, me_Line_cell := x_me_Line_cell, F_Line_distance := x_F_Line_distance, b_Line_distance := x_b_Line_distance, me_Line_distance := x_me_Line_distance, F__law_begin := x_F__law_begin, b__law_begin := x_b__law_begin, g__law_begin := x_g__law_begin, F__law_draw := x_F__law_draw, b__law_draw := x_b__law_draw, g__law_draw := x_g__law_draw, F__law_pick := x_F__law_pick, b__law_pick := x_b__law_pick, g__law_pick := x_g__law_pick, F__law_mixed := x_F__law_mixed, b__law_mixed := x_b__law_mixed, g__law_mixed := x_g__law_mixed, F__law_stem := x_F__law_stem, b__law_stem := x_b__law_stem, g__law_stem := x_g__law_stem, F__law_names := x_F__law_names, b__law_names := x_b__law_names, g__law_names := x_g__law_names, F__law_tried := x_F__law_tried, b__law_tried := x_b__law_tried, g__law_tried := x_g__law_tried, F__law_refused := x_F__law_refused, b__law_refused := x_b__law_refused, g__law_refused := x_g__law_refused, F_law := x_F_law, b_law := x_b_law, g_law := x_g_law, m_all := x_m_all, m_bool := x_m_bool, m_int := x_m_int, m_isinstance := x_m_isinstance, m_len := x_m_len, m_list := x_m_list, m_range := x_m_range, m_repr := x_m_repr, m_str := x_m_str, c_LETTERS := x_c_LETTERS, c_MOST_LETTERS := x_c_MOST_LETTERS, c_MOST_STRIDE := x_c_MOST_STRIDE, c_MOST_OFFSET := x_c_MOST_OFFSET }
  exact ⟨A.fd_law, fun s v => .of_eq rfl, fun base _ _ => ok_law T⟩
theorem walk {q : Program} {loose : List Str} {XP : (Str → Option Value) → Heap → Prop} {YP : World → Heap → Prop} {d : DefRec} {K : Params → PySem.W.Frag} (hdf : d.params.defaults = [])
    (hY : ∀ (w : World) (h : Heap), YP w h → (K w.params).In h)
    (F : ∀ (w : World) (mg : Str → Option Value) (fa : Addr) (h : Heap), (K w.params).In h → h.Ns mainGlobals mg → mg d.name = some (.ref fa) →
      ∃ fd : FuncData, (∀ (s : Shared) (u : Value), BindsTo s fd ⟨[u], []⟩ [("script", u)]) ∧ ∀ base : Heap, (K w.params).In base → base.Ns mainGlobals mg → FnOk PRG w (K w.params) mg base CX0 9 fa fd ["script"] (sp_law (K w.params))) :
    PySem.W.WalkO q loose XP YP PySem.Challenge.rw_vectorwidths_k03_whole_distances.row.toRowW d [] (fun f vs => PySem.call f vs) :=
  L2.walk_of (l := PySem.Challenge.rw_vectorwidths_k03_whole_distances) (n := 63) (k := 9) (x := "script") (CX := fun _ => CX0) (sp := fun w => sp_law (K w.params)) rfl (by decide) hdf ⟨rfl, by decide, by decide⟩ hY F (fun _ _ a ns hl _ hS => ⟨a, ns, rfl, hS, hl, fun _ => rfl⟩) fun _ _ _ _ _ z => z
end Law
open PySem PySem.W PyProof.Rows in
set_option maxRecDepth 100000 in
set_option maxHeartbeats 0 in
theorem PySem.Challenge.cw_vectorwidths_k03_whole_distances_holds : PySem.Challenge.rw_vectorwidths_k03_whole_distances.Holds := by
  w_on; o_law; k_head; (case hw => w_witness2)
  k_fill
  refine Law.walk rfl (fun w h Y => PySem.W.kIn_of Y) ?F
  case F =>
    intro w mg fa h KX G hmg
    refine' Law.all_mk KX G hmg ?opq0 ?sup0 ?nsup0 ?aC_InvalidNumber ?xL_InvalidNumber ?rf_InvalidNumber ?sa_InvalidNumber ?ga_InvalidNumber ?gg_InvalidNumber ?nb_InvalidNumber ?ai_InvalidNumber ?ti_InvalidNumber ?li_InvalidNumber ?ci_InvalidNumber ?ld_InvalidNumber ?vs2_InvalidNumber ?hf_InvalidNumber ?lc_InvalidNumber ?ev_InvalidNumber ?kC_InvalidNumber ?eC_InvalidNumber ?vC_InvalidNumber ?tC_InvalidNumber ?hC_InvalidNumber ?iC_InvalidNumber ?sC_InvalidNumber ?me_InvalidNumber ?al_InvalidNumber ?aC_InvalidName ?xL_InvalidName ?rf_InvalidName ?sa_InvalidName ?ga_InvalidName ?gg_InvalidName ?nb_InvalidName ?ai_InvalidName ?ti_InvalidName ?li_InvalidName ?ci_InvalidName ?ld_InvalidName ?vs2_InvalidName ?hf_InvalidName ?lc_InvalidName ?ev_InvalidName ?kC_InvalidName ?eC_InvalidName ?vC_InvalidName ?tC_InvalidName ?hC_InvalidName ?iC_InvalidName ?sC_InvalidName ?me_InvalidName ?al_InvalidName ?aC_Line ?pg_Line ?hd_Line ?po_Line ?sa_Line ?nf_Line_kept_name ?nf_Line_kept_stride ?mk_Line ?kc_Line ?sf_Line___mul__ ?rv_Line___mul__ ?t1_Line___mul__ ?t2_Line___mul__ ?sb_Line___mul__ ?a_is_integer ?l_is_integer ?c_is_integer ?k_is_integer ?a_is_between ?l_is_between ?c_is_between ?k_is_between ?a_is_count ?l_is_count ?c_is_count ?k_is_count ?a_is_name ?l_is_name ?c_is_name ?k_is_name ?a_is_offset ?l_is_offset ?c_is_offset ?k_is_offset ?a_Line___init__ ?i_Line___init__ ?l_Line___init__ ?c_Line___init__ ?k_Line___init__ ?ld_Line___init__ ?lv_Line___init__ ?ap_Line_stride ?gp_Line_stride ?tp_Line_stride ?rp_Line_stride ?l_Line_stride ?c_Line_stride ?k_Line_stride ?a_Line___mul__ ?i_Line___mul__ ?l_Line___mul__ ?c_Line___mul__ ?k_Line___mul__ ?a_Line_cell ?i_Line_cell ?l_Line_cell ?c_Line_cell ?k_Line_cell ?a_Line_distance ?i_Line_distance ?l_Line_distance ?c_Line_distance ?k_Line_distance ?a__law_begin ?l__law_begin ?c__law_begin ?k__law_begin ?a__law_draw ?l__law_draw ?c__law_draw ?k__law_draw ?a__law_pick ?l__law_pick ?c__law_pick ?k__law_pick ?a__law_mixed ?l__law_mixed ?c__law_mixed ?k__law_mixed ?a__law_stem ?l__law_stem ?c__law_stem ?k__law_stem ?a__law_names ?l__law_names ?c__law_names ?k__law_names ?a__law_tried ?l__law_tried ?c__law_tried ?k__law_tried ?a__law_refused ?l__law_refused ?c__law_refused ?k__law_refused ?a_law ?l_law ?c_law ?k_law ?mm_all ?mm_bool ?mm_int ?mm_isinstance ?mm_len ?mm_list ?mm_range ?mm_repr ?mm_str ?q_LETTERS ?q_MOST_LETTERS ?q_MOST_STRIDE ?q_MOST_OFFSET
    (case opq0 => k_is)
    (case sup0 => k_is)
    (case nsup0 => first | rfl | decide +kernel)
    (case aC_InvalidNumber => k_is)
    (case xL_InvalidNumber => k_is)
    (case rf_InvalidNumber => decide +kernel)
    (case sa_InvalidNumber => k_is)
    (case ga_InvalidNumber => k_is)
    (case gg_InvalidNumber => k_is)
    (case nb_InvalidNumber => k_is)
    (case ai_InvalidNumber => k_is)
    (case ti_InvalidNumber => k_is)
    (case li_InvalidNumber => k_is)
    (case ci_InvalidNumber => k_is)
    (case ld_InvalidNumber => k_is)
    (case vs2_InvalidNumber => rfl)
    (case hf_InvalidNumber => first | rfl | decide +kernel)
    (case lc_InvalidNumber => k_is)
    (case ev_InvalidNumber => exact fun env => ⟨_, rfl⟩)
    (case kC_InvalidNumber => k_is)
    (case eC_InvalidNumber => k_is)
    (case vC_InvalidNumber => k_is)
    (case tC_InvalidNumber => k_is)
    (case hC_InvalidNumber => k_is)
    (case iC_InvalidNumber => k_is)
    (case sC_InvalidNumber => first | rfl | k_is)
    (case me_InvalidNumber => first | k_is | rfl)
    (case al_InvalidNumber => ks_is)
    (case aC_InvalidName => k_is)
    (case xL_InvalidName => k_is)
    (case rf_InvalidName => decide +kernel)
    (case sa_InvalidName => k_is)
    (case ga_InvalidName => k_is)
    (case gg_InvalidName => k_is)
    (case nb_InvalidName => k_is)
    (case ai_InvalidName => k_is)
    (case ti_InvalidName => k_is)
    (case li_InvalidName => k_is)
    (case ci_InvalidName => k_is)
    (case ld_InvalidName => k_is)
    (case vs2_InvalidName => rfl)
    (case hf_InvalidName => first | rfl | decide +kernel)
    (case lc_InvalidName => k_is)
    (case ev_InvalidName => exact fun env => ⟨_, rfl⟩)
    (case kC_InvalidName => k_is)
    (case eC_InvalidName => k_is)
    (case vC_InvalidName => k_is)
    (case tC_InvalidName => k_is)
    (case hC_InvalidName => k_is)
    (case iC_InvalidName => k_is)
    (case sC_InvalidName => first | rfl | k_is)
    (case me_InvalidName => first | k_is | rfl)
    (case al_InvalidName => ks_is)
    (case aC_Line => k_is)
    (case pg_Line => k_is)
    (case hd_Line => k_is)
    (case po_Line => k_is)
    (case sa_Line => k_is)
    (case nf_Line_kept_name => k_is)
    (case nf_Line_kept_stride => k_is)
    (case mk_Line => k_is)
    (case kc_Line => k_is)
    (case sf_Line___mul__ => k_is)
    (case rv_Line___mul__ => k_is)
    (case t1_Line___mul__ => k_is)
    (case t2_Line___mul__ => k_is)
    (case sb_Line___mul__ => k_is)
    (case a_is_integer => k_is)
    (case l_is_integer => k_is)
    (case c_is_integer => k_is)
    (case k_is_integer => k_is)
    (case a_is_between => k_is)
    (case l_is_between => k_is)
    (case c_is_between => k_is)
    (case k_is_between => k_is)
    (case a_is_count => k_is)
    (case l_is_count => k_is)
    (case c_is_count => k_is)
    (case k_is_count => k_is)
    (case a_is_name => k_is)
    (case l_is_name => k_is)
    (case c_is_name => k_is)
    (case k_is_name => k_is)
    (case a_is_offset => k_is)
    (case l_is_offset => k_is)
    (case c_is_offset => k_is)
    (case k_is_offset => k_is)
    (case a_Line___init__ => k_is)
    (case i_Line___init__ => k_is)
    (case l_Line___init__ => k_is)
    (case c_Line___init__ => k_is)
    (case k_Line___init__ => k_is)
    (case ld_Line___init__ => k_is)
    (case lv_Line___init__ => rfl)
    (case ap_Line_stride => k_is)
    (case gp_Line_stride => k_is)
    (case tp_Line_stride => k_is)
    (case rp_Line_stride => k_is)
    (case l_Line_stride => k_is)
    (case c_Line_stride => k_is)
    (case k_Line_stride => k_is)
    (case a_Line___mul__ => k_is)
    (case i_Line___mul__ => k_is)
    (case l_Line___mul__ => k_is)
    (case c_Line___mul__ => k_is)
    (case k_Line___mul__ => k_is)
    (case a_Line_cell => k_is)
    (case i_Line_cell => k_is)
    (case l_Line_cell => k_is)
    (case c_Line_cell => k_is)
    (case k_Line_cell => k_is)
    (case a_Line_distance => k_is)
    (case i_Line_distance => k_is)
    (case l_Line_distance => k_is)
    (case c_Line_distance => k_is)
    (case k_Line_distance => k_is)
    (case a__law_begin => k_is)
    (case l__law_begin => k_is)
    (case c__law_begin => k_is)
    (case k__law_begin => k_is)
    (case a__law_draw => k_is)
    (case l__law_draw => k_is)
    (case c__law_draw => k_is)
    (case k__law_draw => k_is)
    (case a__law_pick => k_is)
    (case l__law_pick => k_is)
    (case c__law_pick => k_is)
    (case k__law_pick => k_is)
    (case a__law_mixed => k_is)
    (case l__law_mixed => k_is)
    (case c__law_mixed => k_is)
    (case k__law_mixed => k_is)
    (case a__law_stem => k_is)
    (case l__law_stem => k_is)
    (case c__law_stem => k_is)
    (case k__law_stem => k_is)
    (case a__law_names => k_is)
    (case l__law_names => k_is)
    (case c__law_names => k_is)
    (case k__law_names => k_is)
    (case a__law_tried => k_is)
    (case l__law_tried => k_is)
    (case c__law_tried => k_is)
    (case k__law_tried => k_is)
    (case a__law_refused => k_is)
    (case l__law_refused => k_is)
    (case c__law_refused => k_is)
    (case k__law_refused => k_is)
    (case a_law => k_is)
    (case l_law => k_is)
    (case c_law => k_is)
    (case k_law => k_is)
    (case mm_all => k_is)
    (case mm_bool => k_is)
    (case mm_int => k_is)
    (case mm_isinstance => k_is)
    (case mm_len => k_is)
    (case mm_list => k_is)
    (case mm_range => k_is)
    (case mm_repr => k_is)
    (case mm_str => k_is)
    (case q_LETTERS => k_is)
    (case q_MOST_LETTERS => k_is)
    (case q_MOST_STRIDE => k_is)
    (case q_MOST_OFFSET => k_is)
