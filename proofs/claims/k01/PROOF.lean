import PyProof.Rows.All
import Wide.All
import OpenK.AllK
import Wide.FinOn
import HandS.ForMost
import HandS.IsInst
import HandS.Style
import HandS.Wide
import HandS.Walk
import HandS.RaiseMore
import HandS.Codes
import PySem.Challenge.RW_vectorwidths_k01_names_and_refs
set_option Elab.async false
set_option linter.all false
set_option maxRecDepth 100000
set_option maxHeartbeats 4000000
/-! what all laws share: kinds of values, the drawn source, the frame of it -/
namespace VW
open PySem PySem.Spec PyProof.Rows L2
theorem bb_len : bootBuiltins "len" = some (.builtin "len") := by decide +kernel
theorem bb_isinstance : bootBuiltins "isinstance" = some (.builtin "isinstance") := by decide +kernel
theorem bb_all : bootBuiltins "all" = some (.builtin "all") := by decide +kernel
theorem bb_any : bootBuiltins "any" = some (.builtin "any") := by decide +kernel
theorem bb_repr : bootBuiltins "repr" = some (.builtin "repr") := by decide +kernel
theorem bb_abs : bootBuiltins "abs" = some (.builtin "abs") := by decide +kernel
theorem bb_min : bootBuiltins "min" = some (.builtin "min") := by decide +kernel
theorem bb_max : bootBuiltins "max" = some (.builtin "max") := by decide +kernel
theorem bb_sorted : bootBuiltins "sorted" = some (.builtin "sorted") := by decide +kernel
theorem bb_sum : bootBuiltins "sum" = some (.builtin "sum") := by decide +kernel
theorem bb_int : bootBuiltins "int" = some (.type "int") := by decide +kernel
theorem bb_str : bootBuiltins "str" = some (.type "str") := by decide +kernel
theorem bb_bool : bootBuiltins "bool" = some (.type "bool") := by decide +kernel
theorem bb_tuple : bootBuiltins "tuple" = some (.type "tuple") := by decide +kernel
theorem bb_list : bootBuiltins "list" = some (.type "list") := by decide +kernel
theorem bb_dict : bootBuiltins "dict" = some (.type "dict") := by decide +kernel
theorem bb_ValueError : bootBuiltins "ValueError" = some (.type "ValueError") := by decide +kernel

/-! ### kinds -/
inductive Kd where
  | non | bl | int | str | lst | tup | dct | own
  deriving DecidableEq
def Kd.ty : Kd → String
  | .non => "NoneType" | .bl => "bool" | .int => "int" | .str => "str" | .lst => "list" | .tup => "tuple" | .dct => "dict" | .own => "?"
def isk (k : Kd) (T : String) : Bool := decide (k.ty = T) || (decide (k = .bl) && decide (T = "int"))
abbrev TS6 : List String := ["int", "bool", "str", "tuple", "list", "dict"]
/-- an own class whose instances are told apart from the built-in ones -/
structure OwnC (K : PySem.W.Frag) (C : Addr) : Prop where
  cl : Cls K C
  ha : PySem.W.findIn K (.ref C) "__class__" = some (some (.builtin "object.__class__"))
  hn : PySem.W.specialIn K (.builtin "object.__class__") "__get__" = some (some (.builtin "getset_descriptor.__get__"))
  htk : PySem.W.takesIn K (.builtin "object.__class__") = some true
  hm : PySem.W.mroIn K C (.type "object") = some true
  k1 : PySem.W.kitOne K (.ref C) (.type "int") = some false
  k2 : PySem.W.kitOne K (.ref C) (.type "bool") = some false
  k3 : PySem.W.kitOne K (.ref C) (.type "str") = some false
  k4 : PySem.W.kitOne K (.ref C) (.type "tuple") = some false
  k5 : PySem.W.kitOne K (.ref C) (.type "list") = some false
  k6 : PySem.W.kitOne K (.ref C) (.type "dict") = some false
inductive Kn (K : PySem.W.Frag) (H : Hp) : V → Kd → Prop
  | non : Kn K H .non .non
  | bl (b : Bool) : Kn K H (.bl b) .bl
  | int (i : Int) : Kn K H (.int i) .int
  | str {z : Str} (h : z.length ≤ sizeLine) : Kn K H (.str z) .str
  | lst {a : Addr} {xs : List V} (h : SqL K H a xs) : Kn K H (.ref a) .lst
  | tup {a : Addr} {xs : List V} (h : SqT K H a xs) : Kn K H (.ref a) .tup
  | dct {a : Addr} {kvs : List (L2.Key × V)} (h : H a = some (.dK kvs)) : Kn K H (.ref a) .dct
  | own {a C dx : Addr} {fs : List (Str × V)} (h : H a = some (.ins C dx fs)) (c : OwnC K C) : Kn K H (.ref a) .own
theorem same_t {K : PySem.W.Frag} {H H' : Hp} {a : Addr} {xs : List V} (e : Same H H') (h : SqT K H a xs) : SqT K H' a xs := by
  rcases h with (h | ⟨o, h⟩) | h
  · exact .inl (.inl (e _ _ h))
  · exact .inl (.inr ⟨o, e _ _ h⟩)
  · exact .inr h
theorem Kn.same {K : PySem.W.Frag} {H H' : Hp} {v : V} {k : Kd} (e : Same H H') (h : Kn K H v k) : Kn K H' v k := by
  cases h with
  | non => exact .non
  | bl b => exact .bl b
  | int i => exact .int i
  | str h => exact .str h
  | lst h => exact .lst (e.seq h)
  | tup h => exact .tup (same_t e h)
  | dct h => exact .dct (e _ _ h)
  | own h c => exact .own (e _ _ h) c
theorem Kn.ty {K : PySem.W.Frag} {H : Hp} {v : V} {k : Kd} (h : Kn K H v k) : ∃ t, TyX K H v t ∧ ∀ T ∈ TS6, PySem.W.kitOne K t (.type T) = some (isk k T) := by
  have kb : ∀ (k : Kd), k ≠ .own → ∀ T ∈ TS6, PySem.W.kitOne K (.type k.ty) (.type T) = some (isk k T) := by
    intro k hk T hT
    refine kit_ty ?_
    simp only [TS6, List.mem_cons, List.not_mem_nil, or_false] at hT
    cases k with
    | own => exact absurd rfl hk
    | _ => rcases hT with rfl | rfl | rfl | rfl | rfl | rfl <;> decide +kernel
  cases h with
  | non => exact ⟨_, .base .non, kb .non (by decide)⟩
  | bl b => exact ⟨_, .base (.bl b), kb .bl (by decide)⟩
  | int i => exact ⟨_, .base (.int i), kb .int (by decide)⟩
  | str h => exact ⟨_, .base (.str _), kb .str (by decide)⟩
  | lst h =>
    rcases h with (h | ⟨o, h⟩) | ⟨o, _, _, h, c, _⟩
    · exact ⟨_, .base (.lst h), kb .lst (by decide)⟩
    · exact ⟨_, .base (.frz h), kb .lst (by decide)⟩
    · exact ⟨_, .kList h c, kb .lst (by decide)⟩
  | tup h =>
    rcases h with (h | ⟨o, h⟩) | ⟨o, _, _, h, c, _⟩
    · exact ⟨_, .base (.tup h), kb .tup (by decide)⟩
    · exact ⟨_, .fTuple h, kb .tup (by decide)⟩
    · exact ⟨_, .kTuple h c, kb .tup (by decide)⟩
  | dct h => exact ⟨_, .base (.dK h), kb .dct (by decide)⟩
  | own h c =>
    refine ⟨_, .base (.ins h c.cl c.ha c.hn c.htk c.hm), fun T hT => ?_⟩
    simp only [TS6, List.mem_cons, List.not_mem_nil, or_false] at hT
    rcases hT with rfl | rfl | rfl | rfl | rfl | rfl
    · exact c.k1
    · exact c.k2
    · exact c.k3
    · exact c.k4
    · exact c.k5
    · exact c.k6
/-- isinstance(v, T) -/
theorem rd_isi {K : PySem.W.Frag} {H : Hp} {v : V} {k : Kd} {T : String} {Q : VK} (h : Kn K H v k) (q : Q (.bl (isk k T)) H) (hT : T ∈ TS6 := by decide) : rIsi K [v, .ty T] H Q := by
  obtain ⟨t, h1, h2⟩ := h.ty
  exact ⟨v, .ty T, t, .type T, _, rfl, .ty T, h1, h2 T hT, q⟩

/-! ### names, refs -/
abbrev LET : Str := "abcdefghijklmnopqrstuvwxyz"
def isLet (c : Nat) : Bool := decide (c ∈ LET.cps.toList)
def isNm (z : Str) : Bool := decide (1 ≤ z.length) && decide (z.length ≤ 8) && z.cps.toList.all isLet
def nmV : V → Bool
  | .str z => isNm z
  | _ => false
def btw (v : V) (lo hi : Int) : Bool := match v with
  | .int i => decide (lo ≤ i) && decide (i ≤ hi)
  | _ => false
theorem Kn.notInt {K : PySem.W.Frag} {H : Hp} {v : V} {k : Kd} (h : Kn K H v k) (n : k ≠ .int) (lo hi : Int) : btw v lo hi = false := by
  cases h <;> first | rfl | exact absurd rfl n
theorem Kn.notStr {K : PySem.W.Frag} {H : Hp} {v : V} {k : Kd} (h : Kn K H v k) (n : k ≠ .str) : nmV v = false := by
  cases h <;> first | rfl | exact absurd rfl n
/-- whether it is a ref -/
inductive RefIs (K : PySem.W.Frag) (H : Hp) : V → Bool → Prop
  | not {v : V} {k : Kd} (h : Kn K H v k) (n : k ≠ .tup) : RefIs K H v false
  | len {a : Addr} {xs : List V} (h : SqT K H a xs) (n : xs.length ≠ 2) : RefIs K H (.ref a) false
  | two {a : Addr} {x y : V} {kx ky : Kd} (h : SqT K H a [x, y]) (hx : Kn K H x kx) (hy : Kn K H y ky) : RefIs K H (.ref a) (nmV x && btw y (-9) 9)
theorem RefIs.same {K : PySem.W.Frag} {H H' : Hp} {v : V} {b : Bool} (e : Same H H') (h : RefIs K H v b) : RefIs K H' v b := by
  cases h with
  | not h n => exact .not (h.same e) n
  | len h n => exact .len (same_t e h) n
  | two h hx hy => exact .two (same_t e h) (hx.same e) (hy.same e)

/-! ### the source of draws: a list of four at s -/
def Kp (s : Addr) (H H' : Hp) : Prop := ∀ b o, H b = some o → b ≠ s → H' b = some o
theorem Kp.refl (s : Addr) (H : Hp) : Kp s H H := fun _ _ h _ => h
theorem Kp.trans {s : Addr} {H H1 H2 : Hp} (a : Kp s H H1) (b : Kp s H1 H2) : Kp s H H2 := fun c o h n => b c o (a c o h n) n
theorem Kp.of {s : Addr} {H H1 : Hp} (a : Same H H1) : Kp s H H1 := fun c o h _ => a c o h
theorem _root_.L2.Same.new {H : Hp} {p : Addr} {o : HO} (h : H p = none) : Same H (upd H p o) := fun b u e => by
  rw [upd_ne (ne_of_none e h)]
  exact e
theorem _root_.L2.Same.mut {H H' : Hp} {p : Addr} {o : HO} (e : Same H H') (h : H p = none) : Same H (upd H' p o) := fun a u ha => by
  rw [upd_ne (ne_of_none ha h)]
  exact e a u ha
theorem Kp.new {s : Addr} {H : Hp} {p : Addr} {o : HO} (h : H p = none) : Kp s H (upd H p o) := Kp.of (Same.new h)
theorem Kp.mut {s : Addr} {H H' : Hp} {p : Addr} {o : HO} (e : Kp s H H') (h : H p = none) : Kp s H (upd H' p o) := fun a u ha n => by
  rw [upd_ne (ne_of_none ha h)]
  exact e a u ha n
theorem Kp.self {s : Addr} {H : Hp} {o : HO} : Kp s H (upd H s o) := fun a u ha n => by
  rw [upd_ne n]
  exact ha
def Src (H : Hp) (s L : Addr) : Prop := ∃ (i q z : Int) (ns : List Int), H s = some (.lst [.ref L, .int i, .int q, .int z]) ∧ H L = some (.lst (ns.map V.int)) ∧ 0 ≤ i ∧ i ≤ (ns.length : Int) ∧ ns.length ≤ 63 ∧ 0 ≤ q ∧ 0 ≤ z ∧ z < 2147483647
theorem Src.at {H : Hp} {s L : Addr} (h : Src H s L) : ∃ xs, H s = some (.lst xs) := by
  obtain ⟨i, q, z, ns, h, _⟩ := h
  exact ⟨_, h⟩
theorem Src.same {H H' : Hp} {s L : Addr} (e : Same H H') (h : Src H s L) : Src H' s L := by
  obtain ⟨i, q, z, ns, h1, h2, r⟩ := h
  exact ⟨i, q, z, ns, e _ _ h1, e _ _ h2, r⟩
theorem Src.fresh {H : Hp} {s L p : Addr} (h : Src H s L) (n : H p = none) : p ≠ s ∧ p ≠ L := by
  obtain ⟨i, q, z, ns, h1, h2, r⟩ := h
  exact ⟨(ne_of_none h1 n).symm, (ne_of_none h2 n).symm⟩
theorem Src.mut {H : Hp} {s L p : Addr} {o : HO} (h : Src H s L) (n : p ≠ s ∧ p ≠ L) : Src (upd H p o) s L := by
  obtain ⟨i, q, z, ns, h1, h2, r⟩ := h
  exact ⟨i, q, z, ns, by rw [upd_ne n.1.symm]; exact h1, by rw [upd_ne n.2.symm]; exact h2, r⟩
theorem Src.new {H : Hp} {s L p : Addr} {o : HO} (h : Src H s L) (n : H p = none) : Src (upd H p o) s L := h.mut (h.fresh n)
theorem ifT {c : Bool} {A B : Prop} (hc : c = true) (h : A) : if c = true then A else B := by
  rw [if_pos hc]
  exact h
theorem ifF {c : Bool} {A B : Prop} (hc : c = false) (h : B) : if c = true then A else B := by
  rw [hc, if_neg Bool.false_ne_true]
  exact h
/-- a tuple, a text's tuple .. is not the source -/
theorem Kp.t {K : PySem.W.Frag} {s : Addr} {H H' : Hp} {a L : Addr} {xs : List V} (e : Kp s H H') (S : Src H s L) (h : SqT K H a xs) : SqT K H' a xs := by
  obtain ⟨ys, hs⟩ := S.at
  rcases h with (h | ⟨o, h⟩) | h
  · exact .inl (.inl (e _ _ h (ne_of h hs (by intro z; cases z))))
  · exact .inl (.inr ⟨o, e _ _ h (ne_of h hs (by intro z; cases z))⟩)
  · exact .inr h
theorem Kp.l {K : PySem.W.Frag} {s : Addr} {H H' : Hp} {a : Addr} {xs : List V} (e : Kp s H H') (n : a ≠ s) (h : SqL K H a xs) : SqL K H' a xs := by
  rcases h with (h | ⟨o, h⟩) | h
  · exact .inl (.inl (e _ _ h n))
  · exact .inl (.inr ⟨o, e _ _ h n⟩)
  · exact .inr h
theorem sz_of {n : Nat} (h : n ≤ 100000) : n ≤ sizeLine := Nat.le_trans h (by decide)
theorem sz_lt {n : Nat} (h : n < 100000) : n < sizeLine := Nat.lt_of_lt_of_le h (by decide)
theorem big_of {n : Nat} (h : n ≤ 100000) : (n : Int) < 2 ^ 200 := by
  have : (2 : Int) ^ 200 > 100000 := by decide
  omega
theorem e18 : (10 : Int) ^ (18 : Int).toNat = 1000000000000000000 := by decide
/-- repr of a truth value -/
theorem call_repr_bl {X : Cx} : CallR X (.builtin "repr") (fun xs H Q => ∃ b, xs = [.bl b] ∧ Q (.str (if b then "True" else "False")) H) := by
  intro pins s σ H xs us Q I r h
  obtain ⟨b, rfl, q⟩ := h
  obtain ⟨u, rfl, r1⟩ := vals1 r
  cases (show u = Value.bool b from r1)
  exact PySem.P.repr_of_bool ⟨.str _, H, I.tok _, ⟨_, rfl⟩, q⟩
end VW
namespace VW
open PySem PySem.Spec PyProof.Rows L2
def cntV : V → Bool
  | .int i => decide (0 ≤ i)
  | _ => false
theorem Kn.notCnt {K : PySem.W.Frag} {H : Hp} {v : V} {k : Kd} (h : Kn K H v k) (n : k ≠ .int) : cntV v = false := by
  cases h <;> first | rfl | exact absurd rfl n
theorem take_succ_of {α : Type} {l : List α} {i : Nat} {x : α} (h : l[i]? = some x) : l.take (i + 1) = l.take i ++ [x] := by
  rw [List.take_succ, h]
  rfl
theorem src_ne (ns : List Int) (L : Addr) (i q z : Int) : HO.lst (ns.map V.int) ≠ HO.lst [V.ref L, .int i, .int q, .int z] := by
  intro e
  injection e with e
  cases ns with
  | nil => cases e
  | cons n r =>
    rw [List.map_cons] at e
    injection e with e1 _
    cases e1
end VW
namespace VW
open PySem PySem.Spec PyProof.Rows L2
theorem dp_signs {K : PySem.W.Frag} {H : Hp} : ∀ cs : List Nat, DpAll K H (cs.map fun c => V.str ⟨#[c]⟩) (cs.map fun c => PyData.str ⟨#[c]⟩)
  | [] => .nil
  | _ :: r => .cons (.str _) (dp_signs r)
theorem shaped_signs (cs : List Nat) (h : ∀ c ∈ cs, c < 128) : SeqAt.shaped (.list (cs.map fun c => PyData.str ⟨#[c]⟩)) = true := by
  have e1 : ∀ cs : List Nat, (∀ c ∈ cs, c < 128) → PyData.canLayAll0 (cs.map fun c => PyData.str ⟨#[c]⟩) = true := by
    intro cs
    induction cs with
    | nil => intro _; rfl
    | cons c r ih =>
      intro h
      have hc := h c (List.mem_cons_self ..)
      have hr := ih fun x hx => h x (List.mem_cons_of_mem _ hx)
      have hs : PyData.strOk ⟨#[c]⟩ = true := by
        simp [PyData.strOk]
        omega
      simp only [List.map_cons, PyData.canLayAll0, PyData.canLay0, hs, hr, Bool.and_self]
  have e2 : ∀ cs : List Nat, PyData.depthAll (cs.map fun c => PyData.str ⟨#[c]⟩) = 0 := by
    intro cs
    induction cs with
    | nil => rfl
    | cons c r ih => simpa [PyData.depthAll, PyData.depth] using ih
  unfold SeqAt.shaped
  simp [PyData.canLay0, PyData.depth, e1 cs h, e2]
end VW

namespace Law
open PySem L2 VW
def top (i : Nat) : Stmt := PySem.Challenge.pw_vectorwidths_k01_names_and_refs.main.body.getD i (.Pass ⟨0, 0, 0, 0⟩)
abbrev s_is_integer : Stmt := top 4
abbrev N_is_integer : List Str := ["value"]
theorem sc_is_integer : FnScope N_is_integer ["value"] (defScope s_is_integer) := ⟨rfl, rfl, rfl, by decide +kernel, rfl, by decide +kernel, by decide +kernel⟩
abbrev s_is_between : Stmt := top 5
abbrev N_is_between : List Str := ["value", "low", "high"]
theorem sc_is_between : FnScope N_is_between ["value", "low", "high"] (defScope s_is_between) := ⟨rfl, rfl, rfl, by decide +kernel, rfl, by decide +kernel, by decide +kernel⟩
abbrev s_is_name : Stmt := top 6
abbrev N_is_name : List Str := ["value", "sign"]
theorem sc_is_name : FnScope N_is_name ["value"] (defScope s_is_name) := ⟨rfl, rfl, rfl, by decide +kernel, rfl, by decide +kernel, by decide +kernel⟩
abbrev s_is_offset : Stmt := top 7
abbrev N_is_offset : List Str := ["value"]
theorem sc_is_offset : FnScope N_is_offset ["value"] (defScope s_is_offset) := ⟨rfl, rfl, rfl, by decide +kernel, rfl, by decide +kernel, by decide +kernel⟩
abbrev s_is_ref : Stmt := top 8
abbrev N_is_ref : List Str := ["value"]
theorem sc_is_ref : FnScope N_is_ref ["value"] (defScope s_is_ref) := ⟨rfl, rfl, rfl, by decide +kernel, rfl, by decide +kernel, by decide +kernel⟩
abbrev s__law_begin : Stmt := top 10
abbrev N__law_begin : List Str := ["script"]
theorem sc__law_begin : FnScope N__law_begin ["script"] (defScope s__law_begin) := ⟨rfl, rfl, rfl, by decide +kernel, rfl, by decide +kernel, by decide +kernel⟩
abbrev s__law_draw : Stmt := top 11
abbrev N__law_draw : List Str := ["source", "limit", "cell", "digit"]
theorem sc__law_draw : FnScope N__law_draw ["source", "limit"] (defScope s__law_draw) := ⟨rfl, rfl, rfl, by decide +kernel, rfl, by decide +kernel, by decide +kernel⟩
abbrev s__law_pick : Stmt := top 12
abbrev N__law_pick : List Str := ["source", "items"]
theorem sc__law_pick : FnScope N__law_pick ["source", "items"] (defScope s__law_pick) := ⟨rfl, rfl, rfl, by decide +kernel, rfl, by decide +kernel, by decide +kernel⟩
abbrev s__law_word : Stmt := top 13
abbrev N__law_word : List Str := ["source", "signs", "turn"]
theorem sc__law_word : FnScope N__law_word ["source"] (defScope s__law_word) := ⟨rfl, rfl, rfl, by decide +kernel, rfl, by decide +kernel, by decide +kernel⟩
abbrev s__law_right : Stmt := top 14
abbrev N__law_right : List Str := ["word", "letters", "sign"]
theorem sc__law_right : FnScope N__law_right ["word"] (defScope s__law_right) := ⟨rfl, rfl, rfl, by decide +kernel, rfl, by decide +kernel, by decide +kernel⟩
abbrev s_law : Stmt := top 15
abbrev N_law : List Str := ["script", "source", "turn", "word", "by", "odd"]
theorem sc_law : FnScope N_law ["script"] (defScope s_law) := ⟨rfl, rfl, rfl, by decide +kernel, rfl, by decide +kernel, by decide +kernel⟩
structure Ad where
  a_is_integer : Addr
  fd_is_integer : FuncData
  a_is_between : Addr
  fd_is_between : FuncData
  a_is_name : Addr
  fd_is_name : FuncData
  a_is_offset : Addr
  fd_is_offset : FuncData
  a_is_ref : Addr
  fd_is_ref : FuncData
  a__law_begin : Addr
  fd__law_begin : FuncData
  a__law_draw : Addr
  fd__law_draw : FuncData
  a__law_pick : Addr
  fd__law_pick : FuncData
  a__law_word : Addr
  fd__law_word : FuncData
  a__law_right : Addr
  fd__law_right : FuncData
  a_law : Addr
  fd_law : FuncData
structure Tx (A : Ad) (K : PySem.W.Frag) (mg : Str → Option Value) : Prop where
  g_is_integer : mg "is_integer" = some (.ref A.a_is_integer)
  F_is_integer : Fun K "is_integer" "is_integer" s_is_integer A.a_is_integer A.fd_is_integer
  b_is_integer : Binds K A.fd_is_integer ["value"] []
  g_is_between : mg "is_between" = some (.ref A.a_is_between)
  F_is_between : Fun K "is_between" "is_between" s_is_between A.a_is_between A.fd_is_between
  b_is_between : Binds K A.fd_is_between ["value", "low", "high"] []
  g_is_name : mg "is_name" = some (.ref A.a_is_name)
  F_is_name : Fun K "is_name" "is_name" s_is_name A.a_is_name A.fd_is_name
  b_is_name : Binds K A.fd_is_name ["value"] []
  g_is_offset : mg "is_offset" = some (.ref A.a_is_offset)
  F_is_offset : Fun K "is_offset" "is_offset" s_is_offset A.a_is_offset A.fd_is_offset
  b_is_offset : Binds K A.fd_is_offset ["value"] []
  g_is_ref : mg "is_ref" = some (.ref A.a_is_ref)
  F_is_ref : Fun K "is_ref" "is_ref" s_is_ref A.a_is_ref A.fd_is_ref
  b_is_ref : Binds K A.fd_is_ref ["value"] []
  g__law_begin : mg "_law_begin" = some (.ref A.a__law_begin)
  F__law_begin : Fun K "_law_begin" "_law_begin" s__law_begin A.a__law_begin A.fd__law_begin
  b__law_begin : Binds K A.fd__law_begin ["script"] []
  g__law_draw : mg "_law_draw" = some (.ref A.a__law_draw)
  F__law_draw : Fun K "_law_draw" "_law_draw" s__law_draw A.a__law_draw A.fd__law_draw
  b__law_draw : Binds K A.fd__law_draw ["source", "limit"] []
  g__law_pick : mg "_law_pick" = some (.ref A.a__law_pick)
  F__law_pick : Fun K "_law_pick" "_law_pick" s__law_pick A.a__law_pick A.fd__law_pick
  b__law_pick : Binds K A.fd__law_pick ["source", "items"] []
  g__law_word : mg "_law_word" = some (.ref A.a__law_word)
  F__law_word : Fun K "_law_word" "_law_word" s__law_word A.a__law_word A.fd__law_word
  b__law_word : Binds K A.fd__law_word ["source"] []
  g__law_right : mg "_law_right" = some (.ref A.a__law_right)
  F__law_right : Fun K "_law_right" "_law_right" s__law_right A.a__law_right A.fd__law_right
  b__law_right : Binds K A.fd__law_right ["word"] []
  g_law : mg "law" = some (.ref A.a_law)
  F_law : Fun K "law" "law" s_law A.a_law A.fd_law
  b_law : Binds K A.fd_law ["script"] []
  m_all : mg "all" = none
  m_bool : mg "bool" = none
  m_int : mg "int" = none
  m_isinstance : mg "isinstance" = none
  m_len : mg "len" = none
  m_list : mg "list" = none
  m_range : mg "range" = none
  m_repr : mg "repr" = none
  m_str : mg "str" = none
  m_tuple : mg "tuple" = none
  c_LETTERS : ∃ t, mg "LETTERS" = some (.str "abcdefghijklmnopqrstuvwxyz" t)
  c_MOST_LETTERS : ∃ t, mg "MOST_LETTERS" = some (.int 8 t)
  c_MOST_OFFSET : ∃ t, mg "MOST_OFFSET" = some (.int 9 t)
section
variable {P : Program} {w : World} {K : PySem.W.Frag} {mg : Str → Option Value} {base : Heap} {A : Ad}
def sp_is_integer (K : PySem.W.Frag) : Sp := fun vs H Q _ => ∃ (v : V) (k : Kd), vs = [v] ∧ Kn K H v k ∧ Q (.bl (decide (k = .int))) H
theorem ok_is_integer (T : Tx A K mg) : FnOk P w K mg base CX0 1 A.a_is_integer A.fd_is_integer ["value"] (sp_is_integer K) := by
  refine T.F_is_integer.ok sc_is_integer (fun vs H Q E h => ?_) (fun cdv A' outer s H vs Q E hr h => ?_)
  · obtain ⟨v, k, rfl, _⟩ := h
    rfl
  · obtain ⟨v, k, rfl, hk, q⟩ := h
    refine ⟨_, (pss_one (ps_ret (pe_and (pe_callB call_isi (by rfl) T.m_isinstance bb_isinstance (pa_cons (pv 0) (pa_cons (pe_bltn (v := .ty "int") (by rfl) T.m_int bb_int rfl) pa_nil))) (pe_one (pe_not (pe_callB call_isi (by rfl) T.m_isinstance bb_isinstance (pa_cons (pv 0) (pa_cons (pe_bltn (v := .ty "bool") (by rfl) T.m_bool bb_bool rfl) pa_nil)))))))), ?_⟩
    obtain ⟨t, h1, h2⟩ := hk.ty
    refine ⟨_, rfl, _, _, t, _, _, rfl, .ty _, h1, h2 "int" (by decide), _, rfl, ?_⟩
    cases k with
    | int => exact iteT ⟨_, rfl, _, _, t, _, _, rfl, .ty _, h1, h2 "bool" (by decide), _, rfl, q⟩
    | bl => exact iteT ⟨_, rfl, _, _, t, _, _, rfl, .ty _, h1, h2 "bool" (by decide), _, rfl, q⟩
    | _ => exact iteF q

def sp_is_between (K : PySem.W.Frag) : Sp := fun vs H Q _ => ∃ (v : V) (k : Kd) (lo hi : Int), vs = [v, .int lo, .int hi] ∧ Kn K H v k ∧ Q (.bl (btw v lo hi)) H
theorem ok_is_between (T : Tx A K mg) : FnOk P w K mg base CX0 2 A.a_is_between A.fd_is_between ["value", "low", "high"] (sp_is_between K) := by
  refine T.F_is_between.ok sc_is_between (fun vs H Q E h => ?_) (fun cdv A' outer s H vs Q E hr h => ?_)
  · obtain ⟨v, k, lo, hi, rfl, _⟩ := h
    rfl
  · obtain ⟨v, k, lo, hi, rfl, hk, q⟩ := h
    refine ⟨_, (pss_one (ps_ret (pe_and (pe_call (ok_is_integer T) (hr.mono (by decide)) (by rfl) T.g_is_integer T.F_is_integer.kp T.b_is_integer .nil pass0 (pa_cons (pv 0) pa_nil)) (pe_one (pe_chain op_le op_le (pv 1) (pv 0) (pv 2)))))), ?_⟩
    refine ⟨_, rfl, v, k, rfl, hk, _, rfl, ?_⟩
    by_cases hi' : k = .int
    · subst hi'
      cases hk with
      | int i =>
        refine iteT ⟨_, rfl, _, rfl, _, _, rfl, rfl, _, rfl, ?_⟩
        by_cases c : lo ≤ i
        · rw [if_pos (decide_eq_true c)]
          refine ⟨_, rfl, _, _, rfl, rfl, ?_⟩
          have e : btw (.int i) lo hi = decide (i ≤ hi) := by
            show (decide (lo ≤ i) && decide (i ≤ hi)) = _
            rw [decide_eq_true c, Bool.true_and]
          rw [e] at q
          exact q
        · rw [decide_eq_false c]
          refine iteF ?_
          have e : btw (.int i) lo hi = false := by
            show (decide (lo ≤ i) && decide (i ≤ hi)) = _
            rw [decide_eq_false c, Bool.false_and]
          rw [e] at q
          exact q
    · rw [decide_eq_false hi']
      refine iteF ?_
      rw [hk.notInt hi'] at q
      exact q

def sp_is_name (K : PySem.W.Frag) : Sp := fun vs H Q _ => ∃ (v : V) (k : Kd), vs = [v] ∧ Kn K H v k ∧ ∀ H', Same H H' → Q (.bl (nmV v)) H'
theorem ok_is_name (T : Tx A K mg) : FnOk P w K mg base CX0 1 A.a_is_name A.fd_is_name ["value"] (sp_is_name K) := by
  refine T.F_is_name.ok sc_is_name (fun vs H Q E h => ?_) (fun cdv A' outer s H vs Q E hr h => ?_)
  · obtain ⟨v, k, rfl, _⟩ := h
    rfl
  · obtain ⟨v, k, rfl, hk, q⟩ := h
    refine ⟨_, (pss_cons (ps_if (PW.pt (pw_or (pt_not (pt_val (pe_callB call_isi (by rfl) T.m_isinstance bb_isinstance (pa_cons (pv 0) (pa_cons (pe_bltn (v := .ty "str") (by rfl) T.m_str bb_str rfl) pa_nil))))) (pw_or1 (pt_not (pt_chain op_le op_le pe_int (pe_callB call_len_str (by rfl) T.m_len bb_len (pa_cons (pv 0) pa_nil)) (pe_glob (v := .int 8) (by rfl) T.c_MOST_LETTERS.choose_spec ⟨_, rfl⟩)))))) (pss_one (ps_ret pe_bl)) pss_nil)
      (pss_one (ps_ret (pe_callB (cr_all rfl) (by rfl) T.m_all bb_all (pa_cons (pe_lc (own := [("sign", 1)]) (g := gName 1) (tt := tYes) (by rfl) sc_is_name.nd (pi_str (pv 0)) (blkOk_by (own := [("sign", 1)]) (N := N_is_name) (sc := defScope s_is_name) (by decide +kernel)) (fun _ _ _ _ _ => (pg_name (i := 1) sc_is_name.nd rfl (.inl rfl))) (fun _ _ _ _ _ => pts_nil) (fun _ _ _ _ _ => (pe_cmpR op_in_sign (pv 1) (pe_glob (v := .str "abcdefghijklmnopqrstuvwxyz") (by rfl) T.c_LETTERS.choose_spec ⟨_, rfl⟩) (by rfl)))) pa_nil))))), ?_⟩
    obtain ⟨t, h1, h2⟩ := hk.ty
    refine ⟨_, rfl, _, _, t, _, _, rfl, .ty _, h1, h2 "str" (by decide), _, rfl, ?_⟩
    by_cases hs : k = .str
    · subst hs
      cases hk with
      | @str z hz =>
        have e0 : (!isk .str "str") = false := by decide
        rw [e0]
        refine iteF ?_
        refine ⟨_, rfl, z, rfl, hz, _, _, rfl, rfl, _, rfl, ?_⟩
        by_cases c1 : (1 : Int) ≤ (z.length : Int)
        · rw [if_pos (decide_eq_true c1)]
          refine ⟨_, _, rfl, rfl, _, rfl, ?_⟩
          by_cases c2 : (z.length : Int) ≤ 8
          · rw [decide_eq_true c2]
            refine iteF ?_
            refine ⟨_, rfl, z, rfl, fun D hD => ?_⟩
            refine lc_it (walk_str (z := z)) (fun i H' => Same H H' ∧ H' D = some (.lst ((((z.cps.toList).take i).map isLet).map V.bl))) ⟨Same.new hD, upd_same⟩ (fun _ _ _ _ => trivial) ?_ ?_
            · rintro i x H1 H2 hi ⟨s1, d1⟩ ⟨rfl, c, hc, rfl⟩
              refine ⟨rfl, _, rfl, c, LET, rfl, rfl, _, d1, ?_, s1.mut hD, ?_⟩
              · rw [List.length_map, List.length_map, List.length_take]
                have : z.cps.toList.length = z.length := by simp [PySem.Str.length]
                exact sz_lt (by omega)
              · rw [upd_same, take_succ_of (by rw [Array.getElem?_toList]; exact hc), List.map_append, List.map_append]
                rfl
            · rintro H1 ⟨s1, d1⟩
              refine ⟨D, _, rfl, SqL.of d1, ?_⟩
              have e : isNm z = List.all (((z.cps.toList).take z.cps.size).map isLet) id := by
                unfold isNm
                rw [decide_eq_true (show 1 ≤ z.length by omega), decide_eq_true (show z.length ≤ 8 by omega), show z.cps.size = z.cps.toList.length by simp, List.take_length, List.all_map]
                rfl
              have q1 : Q (.bl (isNm z)) H1 := q H1 s1
              rw [e] at q1
              exact q1
          · rw [decide_eq_false c2]
            refine iteT ?_
            have e : isNm z = false := by
              unfold isNm
              rw [decide_eq_false (show ¬ z.length ≤ 8 by omega), Bool.and_false, Bool.false_and]
            have q1 : Q (.bl (isNm z)) H := q H (Same.refl H)
            rw [e] at q1
            exact q1
        · rw [decide_eq_false c1]
          refine iteF ⟨_, rfl, iteT ?_⟩
          have e : isNm z = false := by
            unfold isNm
            rw [decide_eq_false (show ¬ 1 ≤ z.length by omega), Bool.false_and, Bool.false_and]
          have q1 : Q (.bl (isNm z)) H := q H (Same.refl H)
          rw [e] at q1
          exact q1
    · have e0 : (!isk k "str") = true := by cases k <;> first | decide | exact absurd rfl hs
      refine ifT e0 ?_
      have q1 := q H (Same.refl H)
      rw [hk.notStr hs] at q1
      exact q1

def sp_is_offset (K : PySem.W.Frag) : Sp := fun vs H Q _ => ∃ (v : V) (k : Kd), vs = [v] ∧ Kn K H v k ∧ Q (.bl (btw v (-9) 9)) H
theorem ok_is_offset (T : Tx A K mg) : FnOk P w K mg base CX0 3 A.a_is_offset A.fd_is_offset ["value"] (sp_is_offset K) := by
  refine T.F_is_offset.ok sc_is_offset (fun vs H Q E h => ?_) (fun cdv A' outer s H vs Q E hr h => ?_)
  · obtain ⟨v, k, rfl, _⟩ := h
    rfl
  · obtain ⟨v, k, rfl, hk, q⟩ := h
    refine ⟨_, (pss_one (ps_ret (pe_call (ok_is_between T) (hr.mono (by decide)) (by rfl) T.g_is_between T.F_is_between.kp T.b_is_between .nil pass0 (pa_cons (pv 0) (pa_cons (pe_un un_neg (pe_glob (v := .int 9) (by rfl) T.c_MOST_OFFSET.choose_spec ⟨_, rfl⟩)) (pa_cons (pe_glob (v := .int 9) (by rfl) T.c_MOST_OFFSET.choose_spec ⟨_, rfl⟩) pa_nil)))))), ?_⟩
    exact ⟨_, rfl, _, rfl, v, k, -9, 9, rfl, hk, q⟩

def sp_is_ref (K : PySem.W.Frag) : Sp := fun vs H Q _ => ∃ (v : V) (b : Bool), vs = [v] ∧ RefIs K H v b ∧ ∀ H', Same H H' → Q (.bl b) H'
theorem ok_is_ref (T : Tx A K mg) : FnOk P w K mg base CX0 4 A.a_is_ref A.fd_is_ref ["value"] (sp_is_ref K) := by
  refine T.F_is_ref.ok sc_is_ref (fun vs H Q E h => ?_) (fun cdv A' outer s H vs Q E hr h => ?_)
  · obtain ⟨v, b, rfl, _⟩ := h
    rfl
  · obtain ⟨v, b, rfl, hk, q⟩ := h
    refine ⟨_, (pss_one (ps_ret (pe_and (pe_callB call_isi (by rfl) T.m_isinstance bb_isinstance (pa_cons (pv 0) (pa_cons (pe_bltn (v := .ty "tuple") (by rfl) T.m_tuple bb_tuple rfl) pa_nil))) (pe_and (pe_cmpR op_eq (pe_callB call_len_seq (by rfl) T.m_len bb_len (pa_cons (pv 0) pa_nil)) pe_int (nomark _)) (pe_and (pe_call (ok_is_name T) (hr.mono (by decide)) (by rfl) T.g_is_name T.F_is_name.kp T.b_is_name .nil pass0 (pa_cons (pe_ix ix_tup (pv 0) pe_int (fun _ _ => rfl)) pa_nil)) (pe_one (pe_call (ok_is_offset T) (hr.mono (by decide)) (by rfl) T.g_is_offset T.F_is_offset.kp T.b_is_offset .nil pass0 (pa_cons (pe_ix ix_tup (pv 0) pe_int (fun _ _ => rfl)) pa_nil)))))))), ?_⟩
    cases hk with
    | @not v k hk n =>
      obtain ⟨t, h1, h2⟩ := hk.ty
      refine ⟨_, rfl, _, _, t, _, _, rfl, .ty _, h1, h2 "tuple" (by decide), _, rfl, ?_⟩
      have e0 : isk k "tuple" = false := by cases k <;> first | decide | exact absurd rfl n
      rw [e0]
      exact iteF (q H (Same.refl H))
    | @len a xs h n =>
      obtain ⟨t, h1, h2⟩ := (Kn.tup h).ty
      refine ⟨_, rfl, _, _, t, _, _, rfl, .ty _, h1, h2 "tuple" (by decide), _, rfl, iteT ⟨_, rfl, a, xs, rfl, .inr h, rfl, _, rfl, ?_⟩⟩
      have e0 : decide (V.int (xs.length : Int) = V.int 2) = false := decide_eq_false fun z => n (by have z' := V.int.inj z; omega)
      rw [e0]
      exact iteF (q H (Same.refl H))
    | @two a x y kx ky h hx hy =>
      obtain ⟨t, h1, h2⟩ := (Kn.tup h).ty
      refine ⟨_, rfl, _, _, t, _, _, rfl, .ty _, h1, h2 "tuple" (by decide), _, rfl, iteT ⟨_, rfl, a, [x, y], rfl, .inr h, rfl, _, rfl, ?_⟩⟩
      have e0 : decide (V.int (([x, y] : List V).length : Int) = V.int 2) = true := decide_eq_true rfl
      rw [e0]
      refine iteT ⟨_, rfl, a, [x, y], 0, x, rfl, rfl, h, rfl, x, kx, rfl, hx, fun H1 s1 => ⟨_, rfl, ?_⟩⟩
      cases e1 : nmV x with
      | false =>
        refine iteF ?_
        rw [e1, Bool.false_and] at q
        exact q H1 s1
      | true =>
        refine iteT ⟨_, rfl, a, [x, y], 1, y, rfl, rfl, same_t s1 h, rfl, y, ky, rfl, hy.same s1, ?_⟩
        rw [e1, Bool.true_and] at q
        exact q H1 s1

def sp__law_begin (K : PySem.W.Frag) : Sp := fun vs H Q _ => ∃ (a : Addr) (ns : List Int), vs = [.ref a] ∧ SqL K H a (ns.map V.int) ∧ ns.length ≤ 63 ∧ ∀ s L H', H s = none → Same H H' → Src H' s L → Q (.ref s) H'
theorem ok__law_begin (T : Tx A K mg) : FnOk P w K mg base CX0 1 A.a__law_begin A.fd__law_begin ["script"] (sp__law_begin K) := by
  refine T.F__law_begin.ok sc__law_begin (fun vs H Q E h => ?_) (fun cdv A' outer s H vs Q E hr h => ?_)
  · obtain ⟨a, ns, rfl, _⟩ := h
    rfl
  · obtain ⟨a, ns, rfl, hS, hl, q⟩ := h
    refine ⟨_, (pss_one (ps_ret (pe_lst (pa_cons (pe_callTy call_list_of (by rfl) T.m_list bb_list (pa_cons (pe_slice sl_list (pv 0) po_none (po_some pe_int)) pa_nil)) (pa_cons pe_int (pa_cons pe_int (pa_cons pe_int pa_nil))))))), ?_⟩
    refine ⟨_, rfl, _, rfl, a, _, rfl, hS, fun p hp => ⟨p, _, rfl, .inl (SqL.of upd_same), fun l hl' => ⟨by show 4 ≤ sizeLine; decide, fun s' hs' => ?_⟩⟩⟩
    have nlp : l ≠ p := fun z => by rw [z, upd_same] at hl'; cases hl'
    have nsl : s' ≠ l := fun z => by rw [z, upd_same] at hs'; cases hs'
    have nsp : s' ≠ p := fun z => by rw [z, upd_ne nlp.symm, upd_same] at hs'; cases hs'
    have h1 : H s' = none := by rw [upd_ne nsl, upd_ne nsp] at hs'; exact hs'
    have hl0 : H l = none := by rw [upd_ne nlp] at hl'; exact hl'
    refine q s' l _ h1 (((Same.new hp).trans (Same.new hl')).trans (Same.new hs')) ⟨0, 0, 7, ns, upd_same, ?_, by omega, by omega, hl, by omega, by omega, by omega⟩
    rw [upd_ne nsl.symm, upd_same]
    congr 2
    have e : cutV (ns.map V.int) none (some 63) = (ns.map V.int).take 63 := by
      unfold cutV
      have e1 : HT.sIx (ns.map V.int).length (ns.map V.int).length (some 63) = min 63 (ns.map V.int).length := HT.sIx_nat _ _ 63
      rw [HT.sIx_none, e1, List.drop_zero, Nat.sub_zero]
      rw [List.take_eq_take_iff]
      simp
    rw [e]
    exact List.take_of_length_le (by rw [List.length_map]; exact hl)

def sp__law_draw : Sp := fun vs H Q _ => ∃ (s L : Addr) (n : Int), vs = [.ref s, .int n] ∧ Src H s L ∧ 0 < n ∧ n < 2 ^ 200 ∧ ∀ (d : Int) H', 0 ≤ d → d < n → Kp s H H' → Src H' s L → Q (.int d) H'
theorem ok__law_draw (T : Tx A K mg) : FnOk P w K mg base CX0 1 A.a__law_draw A.fd__law_draw ["source", "limit"] sp__law_draw := by
  refine T.F__law_draw.ok sc__law_draw (fun vs H Q E h => ?_) (fun cdv A' outer s H vs Q E hr h => ?_)
  · obtain ⟨s, L, n, rfl, _⟩ := h
    rfl
  · obtain ⟨s, L, n, rfl, S, n0, n1, q⟩ := h
    refine ⟨_, (C8.pss_cut (ps_if (PW.pt (pw_and (pt_cmpR op_lt (pe_ix ix_list (pv 0) pe_int (fun _ _ => rfl)) (pe_op op_pow pe_int pe_int) (nomark _)) (pw_and1 (pt_cmpR op_lt (pe_ix ix_list (pv 0) pe_int (fun _ _ => rfl)) (pe_callB call_len_seq (by rfl) T.m_len bb_len (pa_cons (pe_ix ix_list (pv 0) pe_int (fun _ _ => rfl)) pa_nil)) (nomark _))))) (pss_cons (ps_set (i := 2) sc__law_draw.nd rfl (.inl rfl) (pe_callTy call_int1 (by rfl) T.m_int bb_int (pa_cons (pe_ix ix_list (pe_ix ix_list (pv 0) pe_int (fun _ _ => rfl)) (pe_ix ix_list (pv 0) pe_int (fun _ _ => rfl)) (fun _ _ => rfl)) pa_nil)))
      (pss_cons (ps_asg (pe_op op_add (pe_ix ix_list (pv 0) pe_int (fun _ _ => rfl)) pe_int) (pg_sub (pv 0) pe_int set_list))
      (pss_cons (ps_asg pe_int (pg_sub (pv 0) pe_int set_list))
      (C8.pss_cut (ps_if (pt_cmpR op_ge (pv 2) (pe_op op_pow pe_int pe_int) (nomark _)) (pss_one (ps_asg (pv 2) (pg_sub (pv 0) pe_int set_list))) pss_nil)
      (pss_one (ps_asg (pe_op op_mod (pe_callTy call_int1 (by rfl) T.m_int bb_int (pa_cons (pe_op op_add (pe_op op_add (pe_op op_mul (pe_ix ix_list (pv 0) pe_int (fun _ _ => rfl)) pe_int) (pe_op op_mod (pv 2) pe_int)) pe_int) pa_nil)) pe_int) (pg_sub (pv 0) pe_int set_list))))))) pss_nil)
      (pss_cons (ps_if (pt_cmpR op_ge (pe_ix ix_list (pv 0) pe_int (fun _ _ => rfl)) (pe_op op_pow pe_int pe_int) (nomark _)) (pss_cons (ps_set (i := 3) sc__law_draw.nd rfl (.inl rfl) (pe_op op_mod (pe_callTy call_int1 (by rfl) T.m_int bb_int (pa_cons (pe_ix ix_list (pv 0) pe_int (fun _ _ => rfl)) pa_nil)) (pv 1)))
      (pss_cons (ps_asg (pe_op op_fdivW (pe_ix ix_list (pv 0) pe_int (fun _ _ => rfl)) (pv 1)) (pg_sub (pv 0) pe_int set_list))
      (pss_one (ps_ret (pv 3))))) pss_nil)
      (pss_cons (ps_asg (pe_op op_mod (pe_callTy call_int1 (by rfl) T.m_int bb_int (pa_cons (pe_op op_add (pe_op op_mul (pe_ix ix_list (pv 0) pe_int (fun _ _ => rfl)) pe_int) pe_int) pa_nil)) pe_int) (pg_sub (pv 0) pe_int set_list))
      (pss_one (ps_ret (pe_op op_mod (pe_callTy call_int1 (by rfl) T.m_int bb_int (pa_cons (pe_op op_fdiv (pe_ix ix_list (pv 0) pe_int (fun _ _ => rfl)) pe_int) pa_nil)) (pv 1))))))), ?_⟩
    obtain ⟨i, qq, z, ns, hs, hL, i0, i1, hn, q0, z0, z1⟩ := id S
    have nLs : L ≠ s := ne_of hL hs (src_ne _ _ _ _ _)
    refine ⟨fun σ' H1 => ∃ v, σ' = [some (.ref s), some (.int n), v, none] ∧ Kp s H H1 ∧ Src H1 s L, ?_, ?_⟩
    · refine ⟨_, rfl, s, _, 2, _, rfl, rfl, SqL.of hs, rfl, _, _, rfl, rfl, ⟨by decide, by decide, by decide⟩, _, _, rfl, rfl, _, rfl, ?_⟩
      refine ite2 (fun c => ?_) (fun c => iteF ⟨_, rfl, Kp.refl s H, S⟩)
      refine ⟨_, rfl, s, _, 1, _, rfl, rfl, SqL.of hs, rfl, _, rfl, s, _, 0, _, rfl, rfl, SqL.of hs, rfl, L, _, rfl, .inl (SqL.of hL), _, _, rfl, rfl, _, rfl, ?_⟩
      refine ite2 (fun c2 => ?_) (fun c2 => ⟨_, rfl, Kp.refl s H, S⟩)
      have c3 : i < (ns.length : Int) := by
        have := of_decide_eq_true c2
        rw [List.length_map] at this
        exact this
      obtain ⟨j, rfl⟩ := Int.eq_ofNat_of_zero_le i0
      have hj : j < ns.length := by omega
      have ej : (ns.map V.int)[j]? = some (.int ns[j]) := by simp [hj]
      -- cell = int(source[0][source[1]])
      refine ⟨_, rfl, s, _, 0, _, rfl, rfl, SqL.of hs, rfl, _, rfl, s, _, 1, _, rfl, rfl, SqL.of hs, rfl, L, _, _, _, rfl, rfl, SqL.of hL, atI_nat ej, .inl ⟨_, rfl, ?_⟩⟩
      -- source[1] = source[1] + 1; source[2] = 0
      refine ⟨_, rfl, s, _, 1, _, rfl, rfl, SqL.of hs, rfl, _, _, rfl, rfl, _, rfl, s, _, 1, 1, rfl, rfl, hs, rfl, ?_⟩
      refine ⟨_, rfl, s, _, 2, 2, rfl, rfl, upd_same, rfl, ?_⟩
      refine ⟨fun σ' H1 => ∃ q', σ' = [some (.ref s), some (.int n), some (.int ns[j]), none] ∧ 0 ≤ q' ∧ Kp s H H1 ∧ H1 s = some (.lst [.ref L, .int ((j : Int) + 1), .int q', .int z]), ?_, ?_⟩
      · refine ⟨_, rfl, _, _, rfl, rfl, ⟨by decide, by decide, by decide⟩, _, _, rfl, rfl, _, rfl, ?_⟩
        refine ite2 (fun c4 => ?_) (fun c4 => ?_)
        · refine ⟨_, rfl, _, rfl, s, _, 2, 2, rfl, rfl, upd_same, rfl, ?_⟩
          have c5 := of_decide_eq_true c4
          rw [e18] at c5
          exact ⟨ns[j], rfl, by omega, (Kp.self.trans Kp.self).trans Kp.self, upd_same⟩
        · exact ⟨0, rfl, by omega, Kp.self.trans Kp.self, upd_same⟩
      · rintro σ' H1 ⟨q', rfl, hq', k1, h1⟩
        refine ⟨_, rfl, s, _, 3, _, rfl, rfl, SqL.of h1, rfl, _, _, rfl, rfl, .inr ⟨by decide, by decide⟩, _, rfl, _, _, rfl, rfl, by show (0 : Int) < 2147483629; decide, _, _, rfl, rfl, _, _, rfl, rfl, .inl ⟨_, rfl, _, _, rfl, rfl, by show (0 : Int) < 2147483647; decide, _, rfl, s, _, 3, 3, rfl, rfl, h1, rfl, ?_⟩⟩
        refine ⟨_, rfl, k1.trans Kp.self, (j : Int) + 1, q', _, ns, upd_same, ?_, by omega, by omega, hn, hq', Int.emod_nonneg _ (by decide), Int.emod_lt_of_pos _ (by decide)⟩
        rw [upd_ne nLs]
        exact k1 L _ hL nLs
    · rintro σ' H1 ⟨v, rfl, k1, S1⟩
      obtain ⟨i, qq, z, ns, hs, hL, i0, i1, hn, q0, z0, z1⟩ := S1
      refine ⟨_, rfl, s, _, 2, _, rfl, rfl, SqL.of hs, rfl, _, _, rfl, rfl, ⟨by decide, by decide, by decide⟩, _, _, rfl, rfl, _, rfl, ?_⟩
      refine ite2 (fun c => ?_) (fun c => ?_)
      · refine ⟨_, rfl, s, _, 2, _, rfl, rfl, SqL.of hs, rfl, .inl ⟨_, rfl, _, rfl, _, _, rfl, rfl, n0, ?_⟩⟩
        refine ⟨_, rfl, s, _, 2, _, rfl, rfl, SqL.of hs, rfl, _, rfl, _, _, rfl, rfl, wide_div n0 (b := 200) (by omega) (by decide) (by decide), _, rfl, s, _, 2, 2, rfl, rfl, hs, rfl, ?_⟩
        refine ⟨_, rfl, q _ _ (Int.emod_nonneg _ (by omega)) (Int.emod_lt_of_pos _ n0) (k1.trans Kp.self) ?_⟩
        refine ⟨i, qq / n, z, ns, upd_same, ?_, i0, i1, hn, Int.ediv_nonneg q0 (by omega), z0, z1⟩
        rw [upd_ne (ne_of hL hs (src_ne _ _ _ _ _))]
        exact hL
      · refine ⟨_, rfl, s, _, 3, _, rfl, rfl, SqL.of hs, rfl, _, _, rfl, rfl, .inr ⟨by decide, by decide⟩, _, _, rfl, rfl, .inl ⟨_, rfl, _, _, rfl, rfl, by show (0 : Int) < 2147483647; decide, _, rfl, s, _, 3, 3, rfl, rfl, hs, rfl, ?_⟩⟩
        refine ⟨_, rfl, s, _, 3, _, rfl, rfl, SqL.of upd_same, rfl, _, _, rfl, rfl, ⟨by decide, by decide⟩, .inl ⟨_, rfl, _, rfl, _, _, rfl, rfl, n0, ?_⟩⟩
        refine q _ _ (Int.emod_nonneg _ (by omega)) (Int.emod_lt_of_pos _ n0) (k1.trans Kp.self) ?_
        refine ⟨i, qq, _, ns, upd_same, ?_, i0, i1, hn, q0, Int.emod_nonneg _ (by decide), Int.emod_lt_of_pos _ (by decide)⟩
        rw [upd_ne (ne_of hL hs (src_ne _ _ _ _ _))]
        exact hL

def sp__law_pick (K : PySem.W.Frag) : Sp := fun vs H Q _ => ∃ (s L : Addr) (v : V), vs = [.ref s, v] ∧ Src H s L ∧
  ((∃ (p : Addr) (xs : List V), v = .ref p ∧ p ≠ s ∧ SqL K H p xs ∧ 0 < xs.length ∧ xs.length ≤ 100000 ∧ ∀ x ∈ xs, ∀ H', Kp s H H' → Src H' s L → Q x H') ∨
   (∃ z : Str, v = .str z ∧ 0 < z.length ∧ z.length ≤ 100000 ∧ ∀ c ∈ z.cps.toList, ∀ H', Kp s H H' → Src H' s L → Q (.str ⟨#[c]⟩) H'))
theorem ok__law_pick (T : Tx A K mg) : FnOk P w K mg base CX0 2 A.a__law_pick A.fd__law_pick ["source", "items"] (sp__law_pick K) := by
  refine T.F__law_pick.ok sc__law_pick (fun vs H Q E h => ?_) (fun cdv A' outer s H vs Q E hr h => ?_)
  · obtain ⟨s, L, v, rfl, _⟩ := h
    rfl
  · obtain ⟨s, L, v, rfl, S, h⟩ := h
    refine ⟨_, (pss_one (ps_ret (pe_ix ix_seq (pv 1) (pe_call (ok__law_draw T) (hr.mono (by decide)) (by rfl) T.g__law_draw T.F__law_draw.kp T.b__law_draw .nil pass0 (pa_cons (pv 0) (pa_cons (pe_callB call_len (by rfl) T.m_len bb_len (pa_cons (pv 1) pa_nil)) pa_nil))) (fun _ _ => rfl)))), ?_⟩
    rcases h with ⟨p, xs, rfl, nps, hp, l0, l1, q⟩ | ⟨z, rfl, l0, l1, q⟩
    · refine ⟨_, rfl, _, rfl, _, rfl, _, _, rfl, .inl ⟨xs, hp, rfl⟩, s, L, _, rfl, S, by omega, big_of l1, fun d H' d0 d1 k1 S1 => .inl ?_⟩
      obtain ⟨j, rfl⟩ := Int.eq_ofNat_of_zero_le d0
      have hj : j < xs.length := by omega
      exact ⟨p, xs, _, xs[j], rfl, rfl, k1.l nps hp, atI_nat (by simp [hj]), q _ (List.getElem_mem hj) _ k1 S1⟩
    · refine ⟨_, rfl, _, rfl, _, rfl, _, _, rfl, ⟨sz_of l1, rfl⟩, s, L, _, rfl, S, by omega, big_of l1, fun d H' d0 d1 k1 S1 => .inr (.inr ?_)⟩
      obtain ⟨j, rfl⟩ := Int.eq_ofNat_of_zero_le d0
      have hj : j < z.cps.toList.length := by
        have e : z.length = z.cps.toList.length := by simp [PySem.Str.length]
        omega
      exact ⟨z, _, z.cps.toList[j], rfl, rfl, sz_of l1, atI_nat (by simp only [List.getElem?_eq_getElem hj]), q _ (List.getElem_mem hj) _ k1 S1⟩

theorem join_len : ∀ (ys : List Str), (∀ y ∈ ys, y.length = 1) → (Txt.join "" ys).length = ys.length := by
  intro ys h
  have e : ∀ ps : List (List Nat), (∀ p ∈ ps, p.length = 1) → (TL.joinL [] ps).length = ps.length := by
    intro ps
    induction ps with
    | nil => intro _; rfl
    | cons p r ih =>
      intro h
      cases r with
      | nil => exact h p (List.mem_cons_self ..)
      | cons q r =>
        show (p ++ ([] ++ TL.joinL [] (q :: r))).length = _
        rw [List.nil_append, List.length_append, ih (fun x hx => h x (List.mem_cons_of_mem _ hx)), h p (List.mem_cons_self ..)]
        simp only [List.length_cons]
        omega
  have e2 := TL.tl_join "" ys
  have e3 : ∀ z : Str, z.length = (TL.tl z).length := fun z => by simp [PySem.Str.length, TL.tl]
  rw [TL.join_eq, e3, e2]
  have e4 : TL.tl "" = [] := by decide
  rw [e4, e, List.length_map]
  intro p hp
  obtain ⟨y, hy, rfl⟩ := List.mem_map.mp hp
  rw [← e3]
  exact h y hy
theorem join_cp : ∀ (ys : List Str), (∀ y ∈ ys, ∀ c ∈ y.cps.toList, c < 128) → ∀ c ∈ (Txt.join "" ys).cps.toList, c < 128 := by
  intro ys h
  have e : ∀ ps : List (List Nat), (∀ p ∈ ps, ∀ c ∈ p, c < 128) → ∀ c ∈ TL.joinL [] ps, c < 128 := by
    intro ps
    induction ps with
    | nil => intro _ c hc; cases hc
    | cons p r ih =>
      intro h
      cases r with
      | nil => exact h p (List.mem_cons_self ..)
      | cons q r =>
        show ∀ c ∈ p ++ ([] ++ TL.joinL [] (q :: r)), c < 128
        rw [List.nil_append]
        intro c hc
        rcases List.mem_append.mp hc with h1 | h1
        · exact h p (List.mem_cons_self ..) c h1
        · exact ih (fun x hx => h x (List.mem_cons_of_mem _ hx)) c h1
  have e2 := TL.tl_join "" ys
  rw [TL.join_eq]
  show ∀ c ∈ TL.tl (PySem.Str.join "" ys), c < 128
  rw [e2]
  have e4 : TL.tl "" = [] := by decide
  rw [e4]
  refine e _ ?_
  intro p hp
  obtain ⟨y, hy, rfl⟩ := List.mem_map.mp hp
  exact h y hy
def sp__law_word : Sp := fun vs H Q _ => ∃ (s L : Addr), vs = [.ref s] ∧ Src H s L ∧ ∀ (z : Str) H', z.length ≤ 10 → (∀ c ∈ z.cps.toList, c < 128) → Kp s H H' → Src H' s L → Q (.str z) H'
theorem ok__law_word (T : Tx A K mg) : FnOk P w K mg base CX0 3 A.a__law_word A.fd__law_word ["source"] sp__law_word := by
  refine T.F__law_word.ok sc__law_word (fun vs H Q E h => ?_) (fun cdv A' outer s H vs Q E hr h => ?_)
  · obtain ⟨s, L, rfl, _⟩ := h
    rfl
  · obtain ⟨s, L, rfl, S, q⟩ := h
    refine ⟨_, (pss_cons (ps_set (i := 1) sc__law_word.nd rfl (.inr rfl) (pe_op op_add_str pe_str (pe_call (ok__law_pick T) (hr.mono (by decide)) (by rfl) T.g__law_pick T.F__law_pick.kp T.b__law_pick .nil pass0 (pa_cons (pv 0) (pa_cons (pe_lst (pa_cons pe_str (pa_cons pe_str (pa_cons pe_str (pa_cons pe_str (pa_cons pe_str (pa_cons pe_str (pa_cons pe_str pa_nil)))))))) pa_nil)))))
      (pss_one (ps_ret (pe_join pe_str (pe_lc (own := [("turn", 2)]) (g := gName 2) (tt := tYes) (by rfl) sc__law_word.nd (pi_range1 (by rfl) T.m_range (pa_cons (pe_call (ok__law_draw T) (hr.mono (by decide)) (by rfl) T.g__law_draw T.F__law_draw.kp T.b__law_draw .nil pass0 (pa_cons (pv 0) (pa_cons pe_int pa_nil))) pa_nil)) (blkOk_by (own := [("turn", 2)]) (N := N__law_word) (sc := defScope s__law_word) (by decide +kernel)) (fun _ _ _ _ _ => (pg_name (i := 2) sc__law_word.nd rfl (.inl rfl))) (fun _ _ _ _ _ => pts_nil) (fun _ _ _ _ _ => (pe_call (ok__law_pick T) (hr.mono (by decide)) (by rfl) T.g__law_pick T.F__law_pick.kp T.b__law_pick .nil pass0 (pa_cons (pv 0) (pa_cons (pv 1) pa_nil))))))))), ?_⟩
    refine ⟨_, rfl, by show 7 ≤ sizeLine; decide, fun p hp => ?_⟩
    refine ⟨s, L, _, rfl, S.new hp, .inl ⟨p, _, rfl, (S.fresh hp).1, SqL.of upd_same, by decide, by decide, fun x hx H1 k1 S1 => ?_⟩⟩
    obtain ⟨x, rfl, hx1, hx2⟩ : ∃ y : Str, x = .str y ∧ y.length ≤ 1 ∧ ∀ c ∈ y.cps.toList, c < 128 := by
      simp only [List.mem_cons, List.not_mem_nil, or_false] at hx
      rcases hx with rfl | rfl | rfl | rfl | rfl | rfl | rfl <;> exact ⟨_, rfl, by decide, by decide⟩
    have k0 : Kp s H H1 := (Kp.new hp).trans k1
    have e6 : ("abcxyz" : Str).length = 6 := by decide
    have es : (("abcxyz" : Str) ++ x).length = 6 + x.length := by
      rw [PySem.Str.length_append, e6]
    refine ⟨_, _, rfl, rfl, sz_of (by omega), ?_⟩
    have ec : ∀ c ∈ (("abcxyz" : Str) ++ x).cps.toList, c < 128 := by
      rw [PySem.Str.cps_append, Array.toList_append]
      intro c hc
      rcases List.mem_append.mp hc with h | h
      · exact (by decide : ∀ c ∈ ("abcxyz" : Str).cps.toList, c < 128) c h
      · exact hx2 c h
    generalize hy : (("abcxyz" : Str) ++ x) = y at es ec ⊢
    refine ⟨⟨_, rfl⟩, ?_⟩
    refine ⟨_, rfl, s, L, 11, rfl, S1, by decide, by decide, fun d H2 d0 d1 k2 S2 => ?_⟩
    obtain ⟨n, rfl⟩ := Int.eq_ofNat_of_zero_le d0
    refine ⟨_, rfl, by omega, by omega, fun D hD => ?_⟩
    have nDs := S2.fresh hD
    have k02 : Kp s H H2 := k0.trans k2
    refine lc_range (lo := 0) (n := n) (fun i H' => Kp s H2 H' ∧ Src H' s L ∧ ∃ ys : List Str, ys.length = i ∧ (∀ y ∈ ys, y.length = 1 ∧ ∀ c ∈ y.cps.toList, c < 128) ∧ H' D = some (.lst (ys.map V.str))) ?_ ?_ ?_
    · exact ⟨Kp.new hD, S2.new hD, [], rfl, by simp, upd_same⟩
    · rintro i H' hi ⟨k3, S3, ys, hl, hy1, hd⟩
      refine ⟨rfl, _, rfl, _, rfl, s, L, _, rfl, S3, .inr ⟨y, rfl, by omega, by omega, fun c hc H3 k4 S4 => ?_⟩⟩
      refine ⟨_, k4 _ _ hd nDs.1, ?_, ?_, ?_, ys ++ [⟨#[c]⟩], ?_, ?_, ?_⟩
      · rw [List.length_map]
        exact sz_lt (by omega)
      · exact (k3.trans k4).mut hD
      · exact S4.mut nDs
      · rw [List.length_append, hl]
        rfl
      · intro y hy2
        rcases List.mem_append.mp hy2 with h | h
        · exact hy1 y h
        · rw [List.mem_singleton.mp h]
          refine ⟨rfl, fun c' hc' => ?_⟩
          have : c' = c := by simpa using hc'
          rw [this]
          exact ec c hc
      · rw [upd_same, List.map_append]
        rfl
    · rintro H' ⟨k3, S3, ys, hl, hy1, hd⟩
      refine ⟨_, D, ys, rfl, rfl, .inl (SqL.of hd), ?_, ?_⟩
      · have e : (ys.map (·.length)).sum = ys.length := by
          have : ∀ l : List Str, (∀ y ∈ l, y.length = 1) → (l.map (·.length)).sum = l.length := by
            intro l
            induction l with
            | nil => intro _; rfl
            | cons a r ih =>
              intro h
              rw [List.map_cons, List.sum_cons, ih (fun x hx => h x (List.mem_cons_of_mem _ hx)), h a (List.mem_cons_self ..), List.length_cons]
              omega
          exact this ys fun y hy => (hy1 y hy).1
        have e0 : ("" : Str).length = 0 := by decide
        rw [e, e0]
        omega
      · exact q _ _ (by rw [join_len ys fun y hy => (hy1 y hy).1]; omega) (join_cp ys fun y hy => (hy1 y hy).2) (k02.trans k3) S3

def sp__law_right : Sp := fun vs H Q _ => ∃ z : Str, vs = [.str z] ∧ z.length ≤ 100 ∧ (∀ c ∈ z.cps.toList, c < 128) ∧ ∀ H', Same H H' → Q (.bl (isNm z)) H'
theorem ok__law_right (T : Tx A K mg) : FnOk P w K mg base CX0 1 A.a__law_right A.fd__law_right ["word"] sp__law_right := by
  refine T.F__law_right.ok sc__law_right (fun vs H Q E h => ?_) (fun cdv A' outer s H vs Q E hr h => ?_)
  · obtain ⟨z, rfl, _⟩ := h
    rfl
  · obtain ⟨z, rfl, hz, hcz, q⟩ := h
    refine ⟨_, (pss_cons (ps_set (i := 1) sc__law_right.nd rfl (.inr rfl) pe_str)
      (pss_one (ps_ret (pe_and (pe_chain op_le op_le pe_int (pe_callB call_len_str (by rfl) T.m_len bb_len (pa_cons (pv 0) pa_nil)) pe_int) (pe_one (pe_cmpR (op_eqD hr.units) (pe_lc (own := [("sign", 2)]) (g := gName 2) (by rfl) sc__law_right.nd (pi_str (pv 0)) (blkOk_by (own := [("sign", 2)]) (N := N__law_right) (sc := defScope s__law_right) (by decide +kernel)) (fun _ _ _ _ _ => (pg_name (i := 2) sc__law_right.nd rfl (.inl rfl))) (fun _ _ _ _ _ => (pts_one (pt_cmpR op_notIn_sign (pv 2) (pv 1) (by rfl)))) (fun _ _ _ _ _ => (pv 2))) (pe_lst pa_nil) (nomark _))))))), ?_⟩
    refine ⟨_, rfl, z, rfl, sz_of (by omega), _, _, rfl, rfl, _, rfl, ?_⟩
    by_cases c1 : (1 : Int) ≤ (z.length : Int)
    · rw [if_pos (decide_eq_true c1)]
      refine ⟨_, _, rfl, rfl, _, rfl, ?_⟩
      by_cases c2 : (z.length : Int) ≤ 8
      · rw [decide_eq_true c2]
        refine iteT ?_
        refine ⟨_, rfl, z, rfl, fun D hD => ?_⟩
        refine lc_it (walk_str (z := z)) (fun i H' => Same H H' ∧ ∃ cs : List Nat, H' D = some (.lst (cs.map fun c => V.str ⟨#[c]⟩)) ∧ cs = ((z.cps.toList).take i).filter (fun c => !isLet c)) ⟨Same.new hD, [], upd_same, rfl⟩ (fun _ _ _ _ => trivial) ?_ ?_
        · rintro i x H1 H2 hi ⟨s1, cs, d1, rfl⟩ ⟨rfl, c, hc, rfl⟩
          have et : (z.cps.toList).take (i + 1) = (z.cps.toList).take i ++ [c] := take_succ_of (by rw [Array.getElem?_toList]; exact hc)
          refine ⟨rfl, _, rfl, _, rfl, c, LET, rfl, rfl, _, rfl, ?_⟩
          cases e : isLet c with
          | true =>
            have e' : decide (c ∈ LET.cps.toList) = true := e
            rw [e']
            refine iteF ⟨s1, _, d1, ?_⟩
            rw [et, List.filter_append]
            simp [e]
          | false =>
            have e' : decide (c ∈ LET.cps.toList) = false := e
            rw [e']
            refine ⟨_, rfl, _, d1, ?_, s1.mut hD, ((z.cps.toList).take i).filter (fun c => !isLet c) ++ [c], upd_same.trans ?_, ?_⟩
            · rw [List.length_map]
              refine sz_lt (Nat.lt_of_le_of_lt (List.length_filter_le _ _) ?_)
              rw [List.length_take]
              have : z.cps.toList.length = z.length := by simp [PySem.Str.length]
              omega
            · exact congrArg some (congrArg HO.lst (show _ = List.map (fun c => V.str ⟨#[c]⟩) (_ ++ [c]) by rw [List.map_append]; rfl))
            · rw [et, List.filter_append]
              simp [e]
        · rintro H1 ⟨s1, cs, d1, rfl⟩
          refine ⟨Nat.zero_le _, fun p hp => ?_⟩
          have ndp : D ≠ p := fun z => by rw [z, hp] at d1; cases d1
          generalize hcs : ((z.cps.toList).take z.cps.size).filter (fun c => !isLet c) = cs at d1
          have d2 : upd H1 p (.lst []) D = some (.lst (cs.map fun c => V.str ⟨#[c]⟩)) := by
            rw [upd_ne ndp]
            exact d1
          refine ⟨.list (cs.map fun c => PyData.str ⟨#[c]⟩), .list [], .lst (SqL.of d2) (dp_signs cs), .lst (SqL.of upd_same) .nil, shaped_signs cs (fun c hc => hcz c (List.mem_of_mem_take (List.mem_filter.mp (hcs ▸ hc)).1)), rfl, ?_⟩
          have e : PyData.eqv (.list (cs.map fun c => PyData.str ⟨#[c]⟩)) (.list []) = isNm z := by
            have e1 : isNm z = cs.isEmpty := by
              unfold isNm
              rw [decide_eq_true (show 1 ≤ z.length by omega), decide_eq_true (show z.length ≤ 8 by omega), ← hcs, show z.cps.size = z.cps.toList.length by simp, List.take_length]
              rw [Bool.true_and, Bool.true_and, Bool.eq_iff_iff, List.all_eq_true, List.isEmpty_iff, List.filter_eq_nil_iff]
              simp
            rw [e1]
            cases cs with
            | nil => rfl
            | cons c r => rfl
          rw [e]
          exact q _ (s1.trans (Same.new hp))
      · rw [decide_eq_false c2]
        refine iteF ?_
        have e : isNm z = false := by
          unfold isNm
          rw [decide_eq_false (show ¬ z.length ≤ 8 by omega), Bool.and_false, Bool.false_and]
        have q1 := q H (Same.refl H)
        rw [e] at q1
        exact q1
    · rw [decide_eq_false c1]
      refine iteF ⟨_, rfl, iteF ?_⟩
      have e : isNm z = false := by
        unfold isNm
        rw [decide_eq_false (show ¬ 1 ≤ z.length by omega), Bool.false_and, Bool.false_and]
      have q1 := q H (Same.refl H)
      rw [e] at q1
      exact q1

def sp_law (K : PySem.W.Frag) : Sp := fun vs H Q _ => ∃ (a : Addr) (ns : List Int), vs = [.ref a] ∧ SqL K H a (ns.map V.int) ∧ ns.length ≤ 63 ∧ ∀ H', Q (.bl true) H'
theorem refF {K : PySem.W.Frag} {H : Hp} {v : V} {b : Bool} (h : RefIs K H v b) (e : b = false) : RefIs K H v false := e ▸ h
theorem two_len : ∀ {x y : V}, ([x, y] : List V).length ≤ sizeLine := by intro x y; show 2 ≤ sizeLine; decide
theorem ok_law (T : Tx A K mg) : FnOk P w K mg base CX0 6 A.a_law A.fd_law ["script"] (sp_law K) := by
  refine T.F_law.ok sc_law (fun vs H Q E h => ?_) (fun cdv A' outer s H vs Q E hr h => ?_)
  · obtain ⟨a, ns, rfl, _⟩ := h
    rfl
  · obtain ⟨a, ns, rfl, hS, hl, q⟩ := h
    refine ⟨_, (pss_cons (ps_set (i := 1) sc_law.nd rfl (.inl rfl) (pe_call (ok__law_begin T) (hr.mono (by decide)) (by rfl) T.g__law_begin T.F__law_begin.kp T.b__law_begin .nil pass0 (pa_cons (pv 0) pa_nil)))
      (pss_cons (ps_for PassesOwn.never rfl (pi_range1 (by rfl) T.m_range (pa_cons pe_int pa_nil)) (pg_name (i := 2) sc_law.nd rfl (.inl rfl))
      (pss_cons (ps_par (i := 3) (j := 4) (by rfl) sc_law.nd rfl rfl (by decide) rfl rfl (pa_cons (pe_call (ok__law_word T) (hr.mono (by decide)) (by rfl) T.g__law_word T.F__law_word.kp T.b__law_word .nil pass0 (pa_cons (pv 1) pa_nil)) (pa_cons (pe_op op_sub (pe_call (ok__law_draw T) (hr.mono (by decide)) (by rfl) T.g__law_draw T.F__law_draw.kp T.b__law_draw .nil pass0 (pa_cons (pv 1) (pa_cons pe_int pa_nil))) pe_int) pa_nil)) (by rfl))
      (pss_cons (ps_if (pt_cmpR op_ne (pe_callB call_repr_bl (by rfl) T.m_repr bb_repr (pa_cons (pe_call (ok_is_name T) (hr.mono (by decide)) (by rfl) T.g_is_name T.F_is_name.kp T.b_is_name .nil pass0 (pa_cons (pv 3) pa_nil)) pa_nil)) (pe_callB call_repr_bl (by rfl) T.m_repr bb_repr (pa_cons (pe_call (ok__law_right T) (hr.mono (by decide)) (by rfl) T.g__law_right T.F__law_right.kp T.b__law_right .nil pass0 (pa_cons (pv 3) pa_nil)) pa_nil)) (nomark _)) (pss_one (ps_ret pe_bl)) pss_nil)
      (C8.pss_cut (ps_if (pt_cmpR op_ne (pe_callB call_repr_bl (by rfl) T.m_repr bb_repr (pa_cons (pe_call (ok_is_ref T) (hr.mono (by decide)) (by rfl) T.g_is_ref T.F_is_ref.kp T.b_is_ref .nil pass0 (pa_cons (pe_tup (pa_cons (pv 3) (pa_cons (pv 4) pa_nil))) pa_nil)) pa_nil)) (pe_callB call_repr_bl (by rfl) T.m_repr bb_repr (pa_cons (pe_and (pe_call (ok__law_right T) (hr.mono (by decide)) (by rfl) T.g__law_right T.F__law_right.kp T.b__law_right .nil pass0 (pa_cons (pv 3) pa_nil)) (pe_one (pe_chain op_le op_le (pe_un un_neg pe_int) (pv 4) pe_int))) pa_nil)) (nomark _)) (pss_one (ps_ret pe_bl)) pss_nil)
      (pss_one (ps_if (PW.pt (pw_or (pt_val (pe_call (ok_is_ref T) (hr.mono (by decide)) (by rfl) T.g_is_ref T.F_is_ref.kp T.b_is_ref .nil pass0 (pa_cons (pe_lst (pa_cons (pv 3) (pa_cons (pv 4) pa_nil))) pa_nil))) (pw_or (pt_val (pe_call (ok_is_ref T) (hr.mono (by decide)) (by rfl) T.g_is_ref T.F_is_ref.kp T.b_is_ref .nil pass0 (pa_cons (pe_tup (pa_cons (pv 3) (pa_cons (pv 4) (pa_cons (pv 4) pa_nil)))) pa_nil))) (pw_or (pt_val (pe_call (ok_is_ref T) (hr.mono (by decide)) (by rfl) T.g_is_ref T.F_is_ref.kp T.b_is_ref .nil pass0 (pa_cons (pe_tup (pa_cons (pv 3) pa_nil)) pa_nil))) (pw_or1 (pt_val (pe_call (ok_is_ref T) (hr.mono (by decide)) (by rfl) T.g_is_ref T.F_is_ref.kp T.b_is_ref .nil pass0 (pa_cons (pe_tup (pa_cons (pv 4) (pa_cons (pv 3) pa_nil))) pa_nil)))))))) (pss_one (ps_ret pe_bl)) pss_nil))))))
      (pss_cons (ps_for PassesOwn.never rfl (pi_list (pe_lst (pa_cons pe_non (pa_cons pe_int (pa_cons pe_bl (pa_cons (pe_lst pa_nil) (pa_cons (pe_lst (pa_cons pe_str pa_nil)) (pa_cons (pe_tup (pa_cons pe_str pa_nil)) (pa_cons pe_dnewK (pa_cons (pe_tup (pa_cons pe_str (pa_cons pe_bl pa_nil))) (pa_cons (pe_tup (pa_cons pe_str (pa_cons pe_str pa_nil))) (pa_cons (pe_tup (pa_cons pe_str (pa_cons pe_non pa_nil))) (pa_cons (pe_tup (pa_cons pe_bl (pa_cons pe_int pa_nil))) (pa_cons (pe_tup (pa_cons (pe_tup pa_nil) (pa_cons pe_int pa_nil))) (pa_cons pe_str pa_nil))))))))))))))) (pg_name (i := 5) sc_law.nd rfl (.inl rfl))
      (pss_one (ps_if (PW.pt (pw_or (pt_cmpR op_notBl (pe_call (ok_is_name T) (hr.mono (by decide)) (by rfl) T.g_is_name T.F_is_name.kp T.b_is_name .nil pass0 (pa_cons (pv 5) pa_nil)) pe_bl (nomark _)) (pw_or1 (pt_cmpR op_notBl (pe_call (ok_is_ref T) (hr.mono (by decide)) (by rfl) T.g_is_ref T.F_is_ref.kp T.b_is_ref .nil pass0 (pa_cons (pv 5) pa_nil)) pe_bl (nomark _))))) (pss_one (ps_ret pe_bl)) pss_nil)))
      (pss_one (ps_ret (pe_and (pe_call (ok_is_name T) (hr.mono (by decide)) (by rfl) T.g_is_name T.F_is_name.kp T.b_is_name .nil pass0 (pa_cons pe_str pa_nil)) (pe_and (pe_not (pe_call (ok_is_name T) (hr.mono (by decide)) (by rfl) T.g_is_name T.F_is_name.kp T.b_is_name .nil pass0 (pa_cons pe_str pa_nil))) (pe_and (pe_call (ok_is_ref T) (hr.mono (by decide)) (by rfl) T.g_is_ref T.F_is_ref.kp T.b_is_ref .nil pass0 (pa_cons (pe_tup (pa_cons pe_str (pa_cons (pe_un un_neg pe_int) pa_nil))) pa_nil)) (pe_one (pe_not (pe_call (ok_is_ref T) (hr.mono (by decide)) (by rfl) T.g_is_ref T.F_is_ref.kp T.b_is_ref .nil pass0 (pa_cons (pe_tup (pa_cons pe_str (pa_cons pe_int pa_nil))) pa_nil)))))))))))), ?_⟩
    refine ⟨_, rfl, a, ns, rfl, hS, hl, fun s L H1 hs s1 S1 => ?_⟩
    refine ⟨8, rfl, by decide, by decide, for_range (lo := 0) (n := 8) (fun i σ H' => ∃ v w b, σ = [some (.ref a), some (.ref s), v, w, b, none] ∧ Src H' s L) ⟨_, _, _, rfl, S1⟩ ?_ ?_⟩
    · rintro i σ H1 hi ⟨v, w', b, rfl, S1⟩
      -- word, by = ..
      refine ⟨_, rfl, s, L, rfl, S1, fun z H2 hz hc k2 S2 => ?_⟩
      refine ⟨_, rfl, s, L, 29, rfl, S2, by decide, by decide, fun d H3 d0 d1 k3 S3 => ⟨_, _, rfl, rfl, _, _, rfl, ?_⟩⟩
      have kz : ∀ H : Hp, Kn K H (.str z) .str := fun H => .str (sz_of (by omega))
      -- repr(is_name(word)) != repr(_law_right(word))
      refine ⟨_, rfl, .str z, .str, rfl, kz _, fun H4 s4 => ⟨_, rfl, _, rfl, z, rfl, by omega, hc, fun H5 s5 => ⟨_, rfl, rfl, _, rfl, iteNS rfl ?_⟩⟩⟩
      have S5 := S3.same (s4.trans s5)
      -- repr(is_ref((word, by))) != ..
      refine ⟨fun σ H7 => σ = [some (.ref a), some (.ref s), some (.int (0 + i)), some (.str z), some (.int (d - 14)), none] ∧ Src H7 s L, ?_, ?_⟩
      · refine ⟨_, rfl, _, rfl, two_len, fun t ht => ⟨.ref t, _, rfl, .two (SqT.of upd_same) (kz _) (.int _), fun H6 s6 => ⟨_, rfl, _, rfl, z, rfl, by omega, hc, fun H7 s7 => ⟨_, rfl, ?_⟩⟩⟩⟩
        have S7 := ((S5.new ht).same s6).same s7
        have e0 : nmV (.str z) = isNm z := rfl
        rw [e0]
        cases isNm z with
        | false => exact ⟨_, rfl, rfl, _, rfl, rfl, S7⟩
        | true =>
          refine ⟨_, rfl, _, rfl, _, _, rfl, rfl, _, rfl, ?_⟩
          by_cases c1 : (-9 : Int) ≤ d - 14
          · refine ifT (decide_eq_true c1) ?_
            refine ⟨_, _, rfl, rfl, _, rfl, rfl, _, rfl, ?_⟩
            have e1 : btw (.int (d - 14)) (-9) 9 = decide (d - 14 ≤ 9) := by
              show (decide ((-9 : Int) ≤ d - 14) && decide (d - 14 ≤ 9)) = _
              rw [decide_eq_true c1, Bool.true_and]
            rw [e1]
            exact iteNS rfl ⟨rfl, S7⟩
          · refine ifF (decide_eq_false c1) ?_
            have e1 : btw (.int (d - 14)) (-9) 9 = false := by
              show (decide ((-9 : Int) ≤ d - 14) && decide (d - 14 ≤ 9)) = _
              rw [decide_eq_false c1, Bool.false_and]
            rw [e1]
            exact ⟨_, rfl, rfl, _, rfl, rfl, S7⟩
      · rintro σ H7 ⟨rfl, S7⟩
        -- lists, tuples of other lengths, turned about
        refine ⟨_, rfl, _, rfl, two_len, fun l hl => ⟨.ref l, _, rfl, .not (.lst (SqL.of upd_same)) (by decide), fun H8 s8 => ⟨_, rfl, ?_⟩⟩⟩
        have S8 := (S7.new hl).same s8
        refine ⟨_, rfl, _, rfl, _, rfl, by show 3 ≤ sizeLine; decide, fun t ht => ⟨.ref t, _, rfl, .len (SqT.of upd_same) (by show 3 ≠ 2; decide), fun H9 s9 => ⟨_, rfl, ?_⟩⟩⟩
        have S9 := (S8.new ht).same s9
        refine ⟨_, rfl, by show 1 ≤ sizeLine; decide, fun t1 ht1 => ⟨.ref t1, _, rfl, .len (SqT.of upd_same) (by show 1 ≠ 2; decide), fun H10 s10 => ⟨_, rfl, ?_⟩⟩⟩
        have S10 := (S9.new ht1).same s10
        refine ⟨_, rfl, _, rfl, two_len, fun t2 ht2 => ⟨.ref t2, _, rfl, .two (SqT.of upd_same) (.int _) (kz _), fun H11 s11 => ⟨_, rfl, ?_⟩⟩⟩
        have S11 := (S10.new ht2).same s11
        exact ⟨_, _, _, rfl, S11⟩
    · rintro σ H1 ⟨v, w', b, rfl, S1⟩
      have l1 : ∀ x : V, ([x] : List V).length ≤ sizeLine := fun x => by show 1 ≤ sizeLine; decide
      refine ⟨Nat.zero_le _, fun p1 n1 => ⟨l1 _, fun p2 n2 => ⟨l1 _, fun p3 n3 p4 n4 => ⟨two_len, fun p5 n5 => ⟨two_len, fun p6 n6 => ⟨two_len, fun p7 n7 => ⟨two_len, fun p8 n8 => ⟨Nat.zero_le _, fun p9 n9 => ⟨two_len, fun p10 n10 => ⟨by show 13 ≤ sizeLine; decide, fun p11 n11 => ?_⟩⟩⟩⟩⟩⟩⟩⟩⟩⟩
      have g10 := Same.new (o := .lst [.non, .int 3, .bl true, .ref p1, .ref p2, .ref p3, .ref p4, .ref p5, .ref p6, .ref p7, .ref p8, .ref p10, .str ""]) n11
      have g9 := (Same.new (o := .tup [.ref p9, .int 0]) n10).trans g10
      have g8 := (Same.new (o := .tup []) n9).trans g9
      have g7 := (Same.new (o := .tup [.bl true, .int 1]) n8).trans g8
      have g6 := (Same.new (o := .tup [.str "a", .non]) n7).trans g7
      have g5 := (Same.new (o := .tup [.str "a", .str "1"]) n6).trans g6
      have g4 := (Same.new (o := .tup [.str "a", .bl true]) n5).trans g5
      have g3 := (Same.new (o := .dK []) n4).trans g4
      have g2 := (Same.new (o := .tup [.str "a"]) n3).trans g3
      have g1 := (Same.new (o := .lst [.str "a"]) n2).trans g2
      have ka : ∀ (H : Hp) (z : Str), z.length ≤ 100000 → Kn K H (.str z) .str := fun H z h => .str (sz_of h)
      have f1 := g1 p1 _ upd_same
      have f2 := g2 p2 _ upd_same
      have f3 := g3 p3 _ upd_same
      have f4 := g4 p4 _ upd_same
      have f5 := g5 p5 _ upd_same
      have f6 := g6 p6 _ upd_same
      have f7 := g7 p7 _ upd_same
      have f8 := g8 p8 _ upd_same
      have f9 := g9 p9 _ upd_same
      have f10 := g10 p10 _ upd_same
      generalize hH2 : upd _ p11 _ = H2 at f1 f2 f3 f4 f5 f6 f7 f8 f9 f10 ⊢
      have f11 : H2 p11 = some (.lst [.non, .int 3, .bl true, .ref p1, .ref p2, .ref p3, .ref p4, .ref p5, .ref p6, .ref p7, .ref p8, .ref p10, .str ""]) := by
        rw [← hH2]
        exact upd_same
      have all : ∀ x ∈ ([.non, .int 3, .bl true, .ref p1, .ref p2, .ref p3, .ref p4, .ref p5, .ref p6, .ref p7, .ref p8, .ref p10, .str ""] : List V), ∃ k, Kn K H2 x k ∧ nmV x = false ∧ RefIs K H2 x false := by
        intro x hx
        simp only [List.mem_cons, List.not_mem_nil, or_false] at hx
        rcases hx with rfl | rfl | rfl | rfl | rfl | rfl | rfl | rfl | rfl | rfl | rfl | rfl | rfl
        · exact ⟨_, .non, rfl, .not .non (by decide)⟩
        · exact ⟨_, .int _, rfl, .not (.int _) (by decide)⟩
        · exact ⟨_, .bl _, rfl, .not (.bl _) (by decide)⟩
        · exact ⟨_, .lst (SqL.of f1), rfl, .not (.lst (SqL.of f1)) (by decide)⟩
        · exact ⟨_, .lst (SqL.of f2), rfl, .not (.lst (SqL.of f2)) (by decide)⟩
        · exact ⟨_, .tup (SqT.of f3), rfl, .len (SqT.of f3) (by decide)⟩
        · exact ⟨_, .dct f4, rfl, .not (.dct f4) (by decide)⟩
        · exact ⟨_, .tup (SqT.of f5), rfl, refF (.two (SqT.of f5) (ka _ "a" (by decide)) (.bl _)) (by decide +kernel)⟩
        · exact ⟨_, .tup (SqT.of f6), rfl, refF (.two (SqT.of f6) (ka _ "a" (by decide)) (ka _ "1" (by decide))) (by decide +kernel)⟩
        · exact ⟨_, .tup (SqT.of f7), rfl, refF (.two (SqT.of f7) (ka _ "a" (by decide)) .non) (by decide +kernel)⟩
        · exact ⟨_, .tup (SqT.of f8), rfl, refF (.two (SqT.of f8) (.bl _) (.int _)) (by decide +kernel)⟩
        · exact ⟨_, .tup (SqT.of f10), rfl, refF (.two (SqT.of f10) (.tup (SqT.of f9)) (.int _)) rfl⟩
        · exact ⟨_, ka _ "" (by decide), by decide +kernel, .not (ka _ "" (by decide)) (by decide)⟩
      refine ⟨p11, rfl, ⟨_, SqL.of f11⟩, for_list (K := K) (a := p11) (xs := _) (fun i σ H' => Same H2 H' ∧ ∃ v w b o, σ = [some (.ref a), some (.ref s), v, w, b, o]) ⟨Same.refl H2, _, _, _, _, rfl⟩ (fun i σ H' _ ⟨s', _⟩ => s'.seq (SqL.of f11)) ?_ ?_⟩
      · rintro i x σ H' hi ⟨s', v, w', b, o, rfl⟩
        obtain ⟨k, hk, hn, hr'⟩ := all x (List.mem_of_getElem? hi)
        refine ⟨_, rfl, x, k, rfl, hk.same s', fun H3 s3 => ⟨_, _, rfl, rfl, _, rfl, ?_⟩⟩
        rw [hn]
        refine ⟨_, rfl, x, _, rfl, (hr'.same s').same s3, fun H4 s4 => ⟨_, _, rfl, rfl, _, rfl, ?_⟩⟩
        exact ⟨(s'.trans s3).trans s4, _, _, _, _, rfl⟩
      · rintro σ H' ⟨s', v, w', b, o, rfl⟩
        refine ⟨_, .str, rfl, ka _ _ (by decide), fun H3 s3 => ⟨_, rfl, ifT (by decide +kernel) ?_⟩⟩
        refine ⟨_, .str, rfl, ka _ _ (by decide), fun H4 s4 => ⟨_, rfl, _, rfl, ifT (by decide +kernel) ?_⟩⟩
        refine ⟨_, rfl, two_len, fun t ht => ⟨.ref t, _, rfl, .two (SqT.of upd_same) (ka _ _ (by decide)) (.int _), fun H5 s5 => ⟨_, rfl, ifT (by decide +kernel) ?_⟩⟩⟩
        refine ⟨two_len, fun t2 ht2 => ⟨.ref t2, _, rfl, .two (SqT.of upd_same) (ka _ _ (by decide)) (.int _), fun H6 s6 => ⟨_, rfl, ?_⟩⟩⟩
        have e : (!(nmV (.str "a") && btw (.int 10) (-9) 9)) = true := by decide +kernel
        have q1 := q H6
        rw [← e] at q1
        exact q1

end
theorem all_mk {P : Program} {w : World} {K : PySem.W.Frag} {h : Heap} {mg : Str → Option Value} {fa : Addr} (X : K.In h) (G : h.Ns mainGlobals mg) (hfa : mg "law" = some (.ref fa))
    {f_is_integer : Addr} {od_is_integer an_is_integer : Option Addr} {sl_is_integer : Array (Option Value)} {oc_is_integer kV_is_integer dc_is_integer pm_is_integer cd_is_integer ct_is_integer : Value}
    {f_is_between : Addr} {od_is_between an_is_between : Option Addr} {sl_is_between : Array (Option Value)} {oc_is_between kV_is_between dc_is_between pm_is_between cd_is_between ct_is_between : Value}
    {f_is_name : Addr} {od_is_name an_is_name : Option Addr} {sl_is_name : Array (Option Value)} {oc_is_name kV_is_name dc_is_name pm_is_name cd_is_name ct_is_name : Value}
    {f_is_offset : Addr} {od_is_offset an_is_offset : Option Addr} {sl_is_offset : Array (Option Value)} {oc_is_offset kV_is_offset dc_is_offset pm_is_offset cd_is_offset ct_is_offset : Value}
    {f_is_ref : Addr} {od_is_ref an_is_ref : Option Addr} {sl_is_ref : Array (Option Value)} {oc_is_ref kV_is_ref dc_is_ref pm_is_ref cd_is_ref ct_is_ref : Value}
    {f__law_begin : Addr} {od__law_begin an__law_begin : Option Addr} {sl__law_begin : Array (Option Value)} {oc__law_begin kV__law_begin dc__law_begin pm__law_begin cd__law_begin ct__law_begin : Value}
    {f__law_draw : Addr} {od__law_draw an__law_draw : Option Addr} {sl__law_draw : Array (Option Value)} {oc__law_draw kV__law_draw dc__law_draw pm__law_draw cd__law_draw ct__law_draw : Value}
    {f__law_pick : Addr} {od__law_pick an__law_pick : Option Addr} {sl__law_pick : Array (Option Value)} {oc__law_pick kV__law_pick dc__law_pick pm__law_pick cd__law_pick ct__law_pick : Value}
    {f__law_word : Addr} {od__law_word an__law_word : Option Addr} {sl__law_word : Array (Option Value)} {oc__law_word kV__law_word dc__law_word pm__law_word cd__law_word ct__law_word : Value}
    {f__law_right : Addr} {od__law_right an__law_right : Option Addr} {sl__law_right : Array (Option Value)} {oc__law_right kV__law_right dc__law_right pm__law_right cd__law_right ct__law_right : Value}
    {f_law : Addr} {od_law an_law : Option Addr} {sl_law : Array (Option Value)} {oc_law kV_law dc_law pm_law cd_law ct_law : Value}
    {t_LETTERS : Tok}
    {t_MOST_LETTERS : Tok}
    {t_MOST_OFFSET : Tok}
    (a_is_integer : PySem.W.nsIn K mainGlobals "is_integer" = some (some (.ref f_is_integer)))
    (l_is_integer : K.lookup f_is_integer = some ⟨oc_is_integer, od_is_integer, .func (PySem.W.fnOf "is_integer" "is_integer" (defArgs s_is_integer) (defBody s_is_integer) (defScope s_is_integer) .none kV_is_integer dc_is_integer pm_is_integer an_is_integer cd_is_integer ct_is_integer), sl_is_integer⟩)
    (c_is_integer : PySem.W.codeIn K cd_is_integer "is_integer" = true)
    (k_is_integer : PySem.W.keepIn K (.ref f_is_integer) = true)
    (a_is_between : PySem.W.nsIn K mainGlobals "is_between" = some (some (.ref f_is_between)))
    (l_is_between : K.lookup f_is_between = some ⟨oc_is_between, od_is_between, .func (PySem.W.fnOf "is_between" "is_between" (defArgs s_is_between) (defBody s_is_between) (defScope s_is_between) .none kV_is_between dc_is_between pm_is_between an_is_between cd_is_between ct_is_between), sl_is_between⟩)
    (c_is_between : PySem.W.codeIn K cd_is_between "is_between" = true)
    (k_is_between : PySem.W.keepIn K (.ref f_is_between) = true)
    (a_is_name : PySem.W.nsIn K mainGlobals "is_name" = some (some (.ref f_is_name)))
    (l_is_name : K.lookup f_is_name = some ⟨oc_is_name, od_is_name, .func (PySem.W.fnOf "is_name" "is_name" (defArgs s_is_name) (defBody s_is_name) (defScope s_is_name) .none kV_is_name dc_is_name pm_is_name an_is_name cd_is_name ct_is_name), sl_is_name⟩)
    (c_is_name : PySem.W.codeIn K cd_is_name "is_name" = true)
    (k_is_name : PySem.W.keepIn K (.ref f_is_name) = true)
    (a_is_offset : PySem.W.nsIn K mainGlobals "is_offset" = some (some (.ref f_is_offset)))
    (l_is_offset : K.lookup f_is_offset = some ⟨oc_is_offset, od_is_offset, .func (PySem.W.fnOf "is_offset" "is_offset" (defArgs s_is_offset) (defBody s_is_offset) (defScope s_is_offset) .none kV_is_offset dc_is_offset pm_is_offset an_is_offset cd_is_offset ct_is_offset), sl_is_offset⟩)
    (c_is_offset : PySem.W.codeIn K cd_is_offset "is_offset" = true)
    (k_is_offset : PySem.W.keepIn K (.ref f_is_offset) = true)
    (a_is_ref : PySem.W.nsIn K mainGlobals "is_ref" = some (some (.ref f_is_ref)))
    (l_is_ref : K.lookup f_is_ref = some ⟨oc_is_ref, od_is_ref, .func (PySem.W.fnOf "is_ref" "is_ref" (defArgs s_is_ref) (defBody s_is_ref) (defScope s_is_ref) .none kV_is_ref dc_is_ref pm_is_ref an_is_ref cd_is_ref ct_is_ref), sl_is_ref⟩)
    (c_is_ref : PySem.W.codeIn K cd_is_ref "is_ref" = true)
    (k_is_ref : PySem.W.keepIn K (.ref f_is_ref) = true)
    (a__law_begin : PySem.W.nsIn K mainGlobals "_law_begin" = some (some (.ref f__law_begin)))
    (l__law_begin : K.lookup f__law_begin = some ⟨oc__law_begin, od__law_begin, .func (PySem.W.fnOf "_law_begin" "_law_begin" (defArgs s__law_begin) (defBody s__law_begin) (defScope s__law_begin) .none kV__law_begin dc__law_begin pm__law_begin an__law_begin cd__law_begin ct__law_begin), sl__law_begin⟩)
    (c__law_begin : PySem.W.codeIn K cd__law_begin "_law_begin" = true)
    (k__law_begin : PySem.W.keepIn K (.ref f__law_begin) = true)
    (a__law_draw : PySem.W.nsIn K mainGlobals "_law_draw" = some (some (.ref f__law_draw)))
    (l__law_draw : K.lookup f__law_draw = some ⟨oc__law_draw, od__law_draw, .func (PySem.W.fnOf "_law_draw" "_law_draw" (defArgs s__law_draw) (defBody s__law_draw) (defScope s__law_draw) .none kV__law_draw dc__law_draw pm__law_draw an__law_draw cd__law_draw ct__law_draw), sl__law_draw⟩)
    (c__law_draw : PySem.W.codeIn K cd__law_draw "_law_draw" = true)
    (k__law_draw : PySem.W.keepIn K (.ref f__law_draw) = true)
    (a__law_pick : PySem.W.nsIn K mainGlobals "_law_pick" = some (some (.ref f__law_pick)))
    (l__law_pick : K.lookup f__law_pick = some ⟨oc__law_pick, od__law_pick, .func (PySem.W.fnOf "_law_pick" "_law_pick" (defArgs s__law_pick) (defBody s__law_pick) (defScope s__law_pick) .none kV__law_pick dc__law_pick pm__law_pick an__law_pick cd__law_pick ct__law_pick), sl__law_pick⟩)
    (c__law_pick : PySem.W.codeIn K cd__law_pick "_law_pick" = true)
    (k__law_pick : PySem.W.keepIn K (.ref f__law_pick) = true)
    (a__law_word : PySem.W.nsIn K mainGlobals "_law_word" = some (some (.ref f__law_word)))
    (l__law_word : K.lookup f__law_word = some ⟨oc__law_word, od__law_word, .func (PySem.W.fnOf "_law_word" "_law_word" (defArgs s__law_word) (defBody s__law_word) (defScope s__law_word) .none kV__law_word dc__law_word pm__law_word an__law_word cd__law_word ct__law_word), sl__law_word⟩)
    (c__law_word : PySem.W.codeIn K cd__law_word "_law_word" = true)
    (k__law_word : PySem.W.keepIn K (.ref f__law_word) = true)
    (a__law_right : PySem.W.nsIn K mainGlobals "_law_right" = some (some (.ref f__law_right)))
    (l__law_right : K.lookup f__law_right = some ⟨oc__law_right, od__law_right, .func (PySem.W.fnOf "_law_right" "_law_right" (defArgs s__law_right) (defBody s__law_right) (defScope s__law_right) .none kV__law_right dc__law_right pm__law_right an__law_right cd__law_right ct__law_right), sl__law_right⟩)
    (c__law_right : PySem.W.codeIn K cd__law_right "_law_right" = true)
    (k__law_right : PySem.W.keepIn K (.ref f__law_right) = true)
    (a_law : PySem.W.nsIn K mainGlobals "law" = some (some (.ref f_law)))
    (l_law : K.lookup f_law = some ⟨oc_law, od_law, .func (PySem.W.fnOf "law" "law" (defArgs s_law) (defBody s_law) (defScope s_law) .none kV_law dc_law pm_law an_law cd_law ct_law), sl_law⟩)
    (c_law : PySem.W.codeIn K cd_law "law" = true)
    (k_law : PySem.W.keepIn K (.ref f_law) = true)
    (m_all : PySem.W.nsIn K mainGlobals "all" = some none)
    (m_bool : PySem.W.nsIn K mainGlobals "bool" = some none)
    (m_int : PySem.W.nsIn K mainGlobals "int" = some none)
    (m_isinstance : PySem.W.nsIn K mainGlobals "isinstance" = some none)
    (m_len : PySem.W.nsIn K mainGlobals "len" = some none)
    (m_list : PySem.W.nsIn K mainGlobals "list" = some none)
    (m_range : PySem.W.nsIn K mainGlobals "range" = some none)
    (m_repr : PySem.W.nsIn K mainGlobals "repr" = some none)
    (m_str : PySem.W.nsIn K mainGlobals "str" = some none)
    (m_tuple : PySem.W.nsIn K mainGlobals "tuple" = some none)
    (q_LETTERS : PySem.W.nsIn K mainGlobals "LETTERS" = some (some (.str "abcdefghijklmnopqrstuvwxyz" t_LETTERS)))
    (q_MOST_LETTERS : PySem.W.nsIn K mainGlobals "MOST_LETTERS" = some (some (.int 8 t_MOST_LETTERS)))
    (q_MOST_OFFSET : PySem.W.nsIn K mainGlobals "MOST_OFFSET" = some (some (.int 9 t_MOST_OFFSET))) :
    ∃ fd : FuncData, (∀ (s : Shared) (v : Value), BindsTo s fd ⟨[v], []⟩ [("script", v)]) ∧ ∀ base : Heap, K.In base → base.Ns mainGlobals mg → FnOk P w K mg base CX0 6 fa fd ["script"] (sp_law K) := by
  have e := hfa.symm.trans (PySem.W.mg_of X G a_law)
  cases e
  let A : Ad := { a_is_integer := f_is_integer, fd_is_integer := (PySem.W.fnOf "is_integer" "is_integer" (defArgs s_is_integer) (defBody s_is_integer) (defScope s_is_integer) .none kV_is_integer dc_is_integer pm_is_integer an_is_integer cd_is_integer ct_is_integer), a_is_between := f_is_between, fd_is_between := (PySem.W.fnOf "is_between" "is_between" (defArgs s_is_between) (defBody s_is_between) (defScope s_is_between) .none kV_is_between dc_is_between pm_is_between an_is_between cd_is_between ct_is_between), a_is_name := f_is_name, fd_is_name := (PySem.W.fnOf "is_name" "is_name" (defArgs s_is_name) (defBody s_is_name) (defScope s_is_name) .none kV_is_name dc_is_name pm_is_name an_is_name cd_is_name ct_is_name), a_is_offset := f_is_offset, fd_is_offset := (PySem.W.fnOf "is_offset" "is_offset" (defArgs s_is_offset) (defBody s_is_offset) (defScope s_is_offset) .none kV_is_offset dc_is_offset pm_is_offset an_is_offset cd_is_offset ct_is_offset), a_is_ref := f_is_ref, fd_is_ref := (PySem.W.fnOf "is_ref" "is_ref" (defArgs s_is_ref) (defBody s_is_ref) (defScope s_is_ref) .none kV_is_ref dc_is_ref pm_is_ref an_is_ref cd_is_ref ct_is_ref), a__law_begin := f__law_begin, fd__law_begin := (PySem.W.fnOf "_law_begin" "_law_begin" (defArgs s__law_begin) (defBody s__law_begin) (defScope s__law_begin) .none kV__law_begin dc__law_begin pm__law_begin an__law_begin cd__law_begin ct__law_begin), a__law_draw := f__law_draw, fd__law_draw := (PySem.W.fnOf "_law_draw" "_law_draw" (defArgs s__law_draw) (defBody s__law_draw) (defScope s__law_draw) .none kV__law_draw dc__law_draw pm__law_draw an__law_draw cd__law_draw ct__law_draw), a__law_pick := f__law_pick, fd__law_pick := (PySem.W.fnOf "_law_pick" "_law_pick" (defArgs s__law_pick) (defBody s__law_pick) (defScope s__law_pick) .none kV__law_pick dc__law_pick pm__law_pick an__law_pick cd__law_pick ct__law_pick), a__law_word := f__law_word, fd__law_word := (PySem.W.fnOf "_law_word" "_law_word" (defArgs s__law_word) (defBody s__law_word) (defScope s__law_word) .none kV__law_word dc__law_word pm__law_word an__law_word cd__law_word ct__law_word), a__law_right := f__law_right, fd__law_right := (PySem.W.fnOf "_law_right" "_law_right" (defArgs s__law_right) (defBody s__law_right) (defScope s__law_right) .none kV__law_right dc__law_right pm__law_right an__law_right cd__law_right ct__law_right), a_law := fa, fd_law := (PySem.W.fnOf "law" "law" (defArgs s_law) (defBody s_law) (defScope s_law) .none kV_law dc_law pm_law an_law cd_law ct_law) }
  have F_is_integer := fun_mk (st := s_is_integer) l_is_integer c_is_integer k_is_integer
  have F_is_between := fun_mk (st := s_is_between) l_is_between c_is_between k_is_between
  have F_is_name := fun_mk (st := s_is_name) l_is_name c_is_name k_is_name
  have F_is_offset := fun_mk (st := s_is_offset) l_is_offset c_is_offset k_is_offset
  have F_is_ref := fun_mk (st := s_is_ref) l_is_ref c_is_ref k_is_ref
  have F__law_begin := fun_mk (st := s__law_begin) l__law_begin c__law_begin k__law_begin
  have F__law_draw := fun_mk (st := s__law_draw) l__law_draw c__law_draw k__law_draw
  have F__law_pick := fun_mk (st := s__law_pick) l__law_pick c__law_pick k__law_pick
  have F__law_word := fun_mk (st := s__law_word) l__law_word c__law_word k__law_word
  have F__law_right := fun_mk (st := s__law_right) l__law_right c__law_right k__law_right
  have F_law := fun_mk (st := s_law) l_law c_law k_law
  have T : Tx A K mg := { g_is_integer := PySem.W.mg_of X G a_is_integer, F_is_integer := F_is_integer, b_is_integer := (F_is_integer.binds (ps := ["value"]) fun _ _ _ _ _ _ us hl => match us, hl with | [_], _ => rfl), g_is_between := PySem.W.mg_of X G a_is_between, F_is_between := F_is_between, b_is_between := (F_is_between.binds (ps := ["value", "low", "high"]) fun _ _ _ _ _ _ us hl => match us, hl with | [_, _, _], _ => rfl), g_is_name := PySem.W.mg_of X G a_is_name, F_is_name := F_is_name, b_is_name := (F_is_name.binds (ps := ["value"]) fun _ _ _ _ _ _ us hl => match us, hl with | [_], _ => rfl), g_is_offset := PySem.W.mg_of X G a_is_offset, F_is_offset := F_is_offset, b_is_offset := (F_is_offset.binds (ps := ["value"]) fun _ _ _ _ _ _ us hl => match us, hl with | [_], _ => rfl), g_is_ref := PySem.W.mg_of X G a_is_ref, F_is_ref := F_is_ref, b_is_ref := (F_is_ref.binds (ps := ["value"]) fun _ _ _ _ _ _ us hl => match us, hl with | [_], _ => rfl), g__law_begin := PySem.W.mg_of X G a__law_begin, F__law_begin := F__law_begin, b__law_begin := (F__law_begin.binds (ps := ["script"]) fun _ _ _ _ _ _ us hl => match us, hl with | [_], _ => rfl), g__law_draw := PySem.W.mg_of X G a__law_draw, F__law_draw := F__law_draw, b__law_draw := (F__law_draw.binds (ps := ["source", "limit"]) fun _ _ _ _ _ _ us hl => match us, hl with | [_, _], _ => rfl), g__law_pick := PySem.W.mg_of X G a__law_pick, F__law_pick := F__law_pick, b__law_pick := (F__law_pick.binds (ps := ["source", "items"]) fun _ _ _ _ _ _ us hl => match us, hl with | [_, _], _ => rfl), g__law_word := PySem.W.mg_of X G a__law_word, F__law_word := F__law_word, b__law_word := (F__law_word.binds (ps := ["source"]) fun _ _ _ _ _ _ us hl => match us, hl with | [_], _ => rfl), g__law_right := PySem.W.mg_of X G a__law_right, F__law_right := F__law_right, b__law_right := (F__law_right.binds (ps := ["word"]) fun _ _ _ _ _ _ us hl => match us, hl with | [_], _ => rfl), g_law := PySem.W.mg_of X G a_law, F_law := F_law, b_law := (F_law.binds (ps := ["script"]) fun _ _ _ _ _ _ us hl => match us, hl with | [_], _ => rfl), m_all := PySem.W.mg_none_of X G m_all, m_bool := PySem.W.mg_none_of X G m_bool, m_int := PySem.W.mg_none_of X G m_int, m_isinstance := PySem.W.mg_none_of X G m_isinstance, m_len := PySem.W.mg_none_of X G m_len, m_list := PySem.W.mg_none_of X G m_list, m_range := PySem.W.mg_none_of X G m_range, m_repr := PySem.W.mg_none_of X G m_repr, m_str := PySem.W.mg_none_of X G m_str, m_tuple := PySem.W.mg_none_of X G m_tuple, c_LETTERS := ⟨_, PySem.W.mg_of X G q_LETTERS⟩, c_MOST_LETTERS := ⟨_, PySem.W.mg_of X G q_MOST_LETTERS⟩, c_MOST_OFFSET := ⟨_, PySem.W.mg_of X G q_MOST_OFFSET⟩ }
  exact ⟨A.fd_law, fun s v => .of_eq rfl, fun base _ _ => ok_law T⟩
end Law
namespace Law
open PySem L2 VW
theorem walk {l : PySem.W.OpenLaw} {q : Program} {loose : List Str} {XP : (Str → Option Value) → Heap → Prop} {YP : World → Heap → Prop} {d : DefRec} {K : Params → PySem.W.Frag} (hn : l.most = some 63) (hdf : d.params.defaults = [])
    (hY : ∀ (w : World) (h : Heap), YP w h → (K w.params).In h)
    (F : ∀ (w : World) (mg : Str → Option Value) (fa : Addr) (h : Heap), (K w.params).In h → h.Ns mainGlobals mg → mg d.name = some (.ref fa) →
      ∃ fd : FuncData, (∀ (s : Shared) (u : Value), BindsTo s fd ⟨[u], []⟩ [("script", u)]) ∧ ∀ base : Heap, (K w.params).In base → base.Ns mainGlobals mg → FnOk l.prog w (K w.params) mg base CX0 6 fa fd ["script"] (sp_law (K w.params))) :
    PySem.W.WalkO q loose XP YP l.row.toRowW d [] (fun f vs => PySem.call f vs) :=
  L2.walk_of (n := 63) (k := 6) (x := "script") (CX := fun _ => CX0) (sp := fun w => sp_law (K w.params)) hn (by decide) hdf ⟨rfl, by decide, by decide⟩ hY F (fun _ _ a ns hl _ hS => ⟨a, ns, rfl, hS, hl, fun _ => rfl⟩) fun _ _ _ _ _ z => z
end Law
open PySem PySem.W PyProof.Rows in
set_option maxRecDepth 100000 in
set_option maxHeartbeats 0 in
theorem PySem.Challenge.cw_vectorwidths_k01_names_and_refs_holds : PySem.Challenge.rw_vectorwidths_k01_names_and_refs.Holds := by
  w_on; o_law; k_head; (case hw => w_witness2)
  k_fill
  refine Law.walk (l := PySem.Challenge.rw_vectorwidths_k01_names_and_refs) rfl rfl (fun w h Y => PySem.W.kIn_of Y) ?F
  case F =>
    intro w mg fa h KX G hmg
    refine' Law.all_mk KX G hmg ?a_is_integer ?l_is_integer ?c_is_integer ?k_is_integer ?a_is_between ?l_is_between ?c_is_between ?k_is_between ?a_is_name ?l_is_name ?c_is_name ?k_is_name ?a_is_offset ?l_is_offset ?c_is_offset ?k_is_offset ?a_is_ref ?l_is_ref ?c_is_ref ?k_is_ref ?a__law_begin ?l__law_begin ?c__law_begin ?k__law_begin ?a__law_draw ?l__law_draw ?c__law_draw ?k__law_draw ?a__law_pick ?l__law_pick ?c__law_pick ?k__law_pick ?a__law_word ?l__law_word ?c__law_word ?k__law_word ?a__law_right ?l__law_right ?c__law_right ?k__law_right ?a_law ?l_law ?c_law ?k_law ?m_all ?m_bool ?m_int ?m_isinstance ?m_len ?m_list ?m_range ?m_repr ?m_str ?m_tuple ?q_LETTERS ?q_MOST_LETTERS ?q_MOST_OFFSET
    (case a_is_integer => k_is)
    (case l_is_integer => k_is)
    (case c_is_integer => k_is)
    (case k_is_integer => k_is)
    (case a_is_between => k_is)
    (case l_is_between => k_is)
    (case c_is_between => k_is)
    (case k_is_between => k_is)
    (case a_is_name => k_is)
    (case l_is_name => k_is)
    (case c_is_name => k_is)
    (case k_is_name => k_is)
    (case a_is_offset => k_is)
    (case l_is_offset => k_is)
    (case c_is_offset => k_is)
    (case k_is_offset => k_is)
    (case a_is_ref => k_is)
    (case l_is_ref => k_is)
    (case c_is_ref => k_is)
    (case k_is_ref => k_is)
    (case a__law_begin => k_is)
    (case l__law_begin => k_is)
    (case c__law_begin => k_is)
    (case k__law_begin => k_is)
    (case a__law_draw => k_is)
    (case l__law_draw => k_is)
    (case c__law_draw => k_is)
    (case k__law_draw => k_is)
    (case a__law_pick => k_is)
    (case l__law_pick => k_is)
    (case c__law_pick => k_is)
    (case k__law_pick => k_is)
    (case a__law_word => k_is)
    (case l__law_word => k_is)
    (case c__law_word => k_is)
    (case k__law_word => k_is)
    (case a__law_right => k_is)
    (case l__law_right => k_is)
    (case c__law_right => k_is)
    (case k__law_right => k_is)
    (case a_law => k_is)
    (case l_law => k_is)
    (case c_law => k_is)
    (case k_law => k_is)
    (case m_all => k_is)
    (case m_bool => k_is)
    (case m_int => k_is)
    (case m_isinstance => k_is)
    (case m_len => k_is)
    (case m_list => k_is)
    (case m_range => k_is)
    (case m_repr => k_is)
    (case m_str => k_is)
    (case m_tuple => k_is)
    (case q_LETTERS => k_is)
    (case q_MOST_LETTERS => k_is)
    (case q_MOST_OFFSET => k_is)
