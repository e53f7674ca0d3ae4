import PyProof.Rows.All
import Wide.All
import OpenK.AllK
import Wide.FinOn
import PySem.Challenge.RW_pb0456_01
open PySem PySem.W PyProof.Rows
set_option linter.all false
set_option Elab.async false
namespace Mine
section
local macro_rules | `(tactic| o_head $_) => `(tactic| skip)
theorem mk : PySem.Challenge.rw_pb0456_01.row.Holds → PySem.Challenge.rw_pb0456_01.row.Holds := by
  intro hh
  k_head
  exact hh
end
end Mine
open PySem PySem.W PyProof.Rows PySem.Calls
set_option Elab.async false
set_option rowWalk.seconds 0
set_option maxRecDepth 100000
set_option maxHeartbeats 8000000
namespace Mine
theorem ctx_lower {Γ : Ctx} {A : Around} {D U : Nat} (h : Γ.In A) (hd : A.depth ≤ D) (hu : A.units ≤ U) : Γ.In { A with depth := D, units := U } :=
  ⟨h.1, Nat.le_trans h.2.1 hd, h.2.2.1, h.2.2.2.1, Nat.le_trans h.2.2.2.2 hu⟩

theorem lowerK {α : Type} {M : Model} {t : Sem α} {Q : α → Shared → Prop} {E : Value → Shared → Prop} {s : Shared} {dp un D U : Nat} {gd : Option (List Code)} {cn : Str} {cs : Scope} {L a : Addr} {ccd : Value} {cl : List (Str × Addr)} {outer : List Env}
    (hd : dp ≤ D) (hu : un ≤ U) (h : wpAny M (ktrTop D U gd cn cs L a ccd cl outer) t Q E s) : wpAny M (ktrTop dp un gd cn cs L a ccd cl outer) t Q E s :=
  fun Γ p hΓ => h Γ p (ctx_lower hΓ hd hu)

structure Cx (w : World) (dp un D U : Nat) (cs : Scope) (A₀ : Around) (base : Heap) (outer : List Env) (h₀ : Heap) (L : Addr) (h : Heap) (m : Str → Option Value) (p : Program) (loose : List Str) (mean : ExcName → Option Value) (mg mb : Str → Option Value) : Prop where
  B : Below A₀ base outer h₀
  F : Fr h₀ L h m
  X : (mk.heap_1 w.params).In h₀
  T : Top p loose mean mg mb h₀
  hk : cs.kind = .function
  hdp : dp ≤ D
  hun : un ≤ U

/-- the pool: two ints -/
noncomputable abbrev src (x : Int) (tx : Tok) (y : Int) (ty : Tok) (n : Nat) : Obj := listOf [.int x tx, .int y ty].toArray n
noncomputable abbrev tupO (vs : List Value) (n : Nat) : Obj := { cls := .type "tuple", data := .seq vs.toArray n }

theorem ne_allLt {a : Addr} {l : List (Addr × Obj)} (h : AllLt a l) : ∀ p ∈ l, p.1 ≠ a := fun p hp => Nat.ne_of_lt (ktn_ltOf h p hp)

theorem rotL {h₀ h : Heap} {L : Addr} {q : Addr × Obj} {a b : List (Addr × Obj)} (N : News h₀ L h (a ++ q :: b)) : News h₀ L h (q :: (a ++ b)) := fun p hp => N p (by simp only [List.mem_cons, List.mem_append] at *; grind)
section
variable {h₀ h : Heap} {L : Addr} {q p1 p2 p3 p4 p5 p6 p7 : Addr × Obj} {r : List (Addr × Obj)}
theorem rot1 (N : News h₀ L h (p1 :: q :: r)) : News h₀ L h (q :: p1 :: r) := rotL (a := [p1]) N
theorem rot2 (N : News h₀ L h (p1 :: p2 :: q :: r)) : News h₀ L h (q :: p1 :: p2 :: r) := rotL (a := [p1, p2]) N
theorem rot3 (N : News h₀ L h (p1 :: p2 :: p3 :: q :: r)) : News h₀ L h (q :: p1 :: p2 :: p3 :: r) := rotL (a := [p1, p2, p3]) N
theorem rot4 (N : News h₀ L h (p1 :: p2 :: p3 :: p4 :: q :: r)) : News h₀ L h (q :: p1 :: p2 :: p3 :: p4 :: r) := rotL (a := [p1, p2, p3, p4]) N
theorem rot5 (N : News h₀ L h (p1 :: p2 :: p3 :: p4 :: p5 :: q :: r)) : News h₀ L h (q :: p1 :: p2 :: p3 :: p4 :: p5 :: r) := rotL (a := [p1, p2, p3, p4, p5]) N
theorem rot6 (N : News h₀ L h (p1 :: p2 :: p3 :: p4 :: p5 :: p6 :: q :: r)) : News h₀ L h (q :: p1 :: p2 :: p3 :: p4 :: p5 :: p6 :: r) := rotL (a := [p1, p2, p3, p4, p5, p6]) N
theorem rot7 (N : News h₀ L h (p1 :: p2 :: p3 :: p4 :: p5 :: p6 :: p7 :: q :: r)) : News h₀ L h (q :: p1 :: p2 :: p3 :: p4 :: p5 :: p6 :: p7 :: r) := rotL (a := [p1, p2, p3, p4, p5, p6, p7]) N
end

theorem fm_lo (z : Int) : 0 ≤ z.fmod 2147483647 := by rw [Int.fmod_eq_emod_of_nonneg _ (by omega)]; omega
theorem fm_hi (z : Int) : z.fmod 2147483647 < 2147483647 := by rw [Int.fmod_eq_emod_of_nonneg _ (by omega)]; omega
theorem mulM (z b : Int) : IntMulOk (z.fmod 2147483647) b := IntMulOk.of_left (PySem.intBits_le_64 (by have := fm_lo z; omega) (by have := fm_hi z; omega))
theorem fmod_lo {z t : Int} (ht : 0 < t) : 0 ≤ z.fmod t := by rw [Int.fmod_eq_emod_of_nonneg _ (by omega)]; exact Int.emod_nonneg _ (by omega)
theorem fmod_hi {z t : Int} (ht : 0 < t) : z.fmod t < t := by rw [Int.fmod_eq_emod_of_nonneg _ (by omega)]; exact Int.emod_lt_of_pos _ ht
theorem fdiv_lo {z t : Int} (hz : 0 ≤ z) (ht : 0 < t) : 0 ≤ z.fdiv t := by rw [Int.fdiv_eq_ediv_of_nonneg _ (by omega)]; exact Int.ediv_nonneg hz (by omega)

/-- what a literal holds -/
inductive LV where
  | none
  | int (i : Int)
  | str (x : Str)
noncomputable abbrev TEXTS : List Str := ["7", "a", "A", "a ", " 7", "12", "b", "B  ", "x7"]
noncomputable abbrev AFFS : List Str := ["integer", "text", "numeric", "blob"]
noncomputable abbrev COLLS : List Str := ["binary", "nocase", "rtrim"]
noncomputable abbrev OPS : List Str := ["=", "<", "<=", ">", ">=", "<>"]
noncomputable abbrev TYPES : List Str := ["INT", "TEXT", "BLOB"]
noncomputable abbrev NAMES : List Str := ["nocase", "RTRIM", "binary"]
inductive LVal : Value → LV → Prop
  | none : LVal .none .none
  | int (i : Int) (t : Tok) : LVal (.int i t) (.int i)
  | str (x : Str) (t : Tok) : x ∈ TEXTS → LVal (.str x t) (.str x)
theorem strOf_mem {l : List Str} {v : Value} {vs : List Value} (h : v ∈ vs) (k : ∀ v ∈ vs, ∃ x t, v = .str x t ∧ x ∈ l) : ∃ x t, v = .str x t ∧ x ∈ l := k v h
/-- a str of a written list -/
noncomputable def StrOf (l : List Str) (v : Value) : Prop := ∃ x t, v = .str x t ∧ x ∈ l

section
variable {prog : Program} {w : World} {A : Around} {E : Value → Shared → Prop} {s : Shared} {h₀ : Heap} {L : Addr} {news : List (Addr × Obj)} {la : Addr} {vs : List Value} {ln : Nat} {Q : Value → Shared → Prop}
theorem len_mem (N : News h₀ L s.heap news) (hm : (la, listOf vs.toArray ln) ∈ news) (hfit : vs.length < 100) (h : Q (.int vs.length (s.toks + 1)) { s with toks := s.toks + 1 + 1 }) :
    wpAny (model prog w) A (call (.builtin "len") [.ref la]) Q E s := by
  have e : vs.toArray.size = vs.length := List.size_toArray ..
  exact call_len_list (News.isList N hm) (by rw [e]; omega) (by rw [e]; exact h)
theorem item_mem {value slice : PySem.Expr} {k : Int} {u : Tok} (N : News h₀ L s.heap news) (hm : (la, listOf vs.toArray ln) ∈ news) (h0 : 0 ≤ k) (hk : k < vs.length) (hfit : vs.length < 100)
    (h : ∀ v, v ∈ vs → vs[k.toNat]? = some v → Q v s)
    (hs : subscripted slice false (.ref la) (.int k u) = operate [.ref la, .int k u] (getItem (.ref la) (.int k u)) := by with_unfolding_all rfl) :
    wpAny (model prog w) A (subscriptTail value slice (.ref la) (.int k u)) Q E s := by
  have hL := News.isList N hm
  have hlt : k.toNat < vs.length := by omega
  obtain ⟨v, hv⟩ : ∃ v, vs[k.toNat]? = some v := ⟨_, List.getElem?_eq_getElem hlt⟩
  exact tail_any hL.typeIs slot_list_getitem.lookup (wpAny_getItem_list hL h0 (by omega) (by simpa using hv) (h v (List.mem_of_getElem? hv) hv)) hs
end

/-- the columns: affinity and collation of each; three of source 1, two of source 2 -/
structure Cols where
  a0 : Str
  c0 : Str
  a1 : Str
  c1 : Str
  a2 : Str
  c2 : Str
  a3 : Str
  c3 : Str
  a4 : Str
  c4 : Str
structure Cols.Ok (k : Cols) : Prop where
  a0 : k.a0 ∈ AFFS
  c0 : k.c0 ∈ COLLS
  a1 : k.a1 ∈ AFFS
  c1 : k.c1 ∈ COLLS
  a2 : k.a2 ∈ AFFS
  c2 : k.c2 ∈ COLLS
  a3 : k.a3 ∈ AFFS
  c3 : k.c3 ∈ COLLS
  a4 : k.a4 ∈ AFFS
  c4 : k.c4 ∈ COLLS
inductive ColsIn (prog : Program) (w : World) (news : List (Addr × Obj)) : Value → Cols → Prop
  | mk {d D1 D2 l0 l1 l2 l3 l4 : Addr} {o : Obj} {n1 n2 m0 m1 m2 m3 m4 : Nat} {xa0 xc0 xa1 xc1 xa2 xc2 xa3 xc3 xa4 xc4 : Str} {ta0 tc0 ta1 tc1 ta2 tc2 ta3 tc3 ta4 tc4 : Tok} :
      (d, o) ∈ news → o.IsDictOf (intKind prog w) [(1, .ref D1), (2, .ref D2)] → (D1, listOf [.ref l0, .ref l1, .ref l2].toArray n1) ∈ news → (D2, listOf [.ref l3, .ref l4].toArray n2) ∈ news →
      (l0, listOf [.str xa0 ta0, .str xc0 tc0].toArray m0) ∈ news → (l1, listOf [.str xa1 ta1, .str xc1 tc1].toArray m1) ∈ news → (l2, listOf [.str xa2 ta2, .str xc2 tc2].toArray m2) ∈ news → (l3, listOf [.str xa3 ta3, .str xc3 tc3].toArray m3) ∈ news → (l4, listOf [.str xa4 ta4, .str xc4 tc4].toArray m4) ∈ news →
      ColsIn prog w news (.ref d) ⟨xa0, xc0, xa1, xc1, xa2, xc2, xa3, xc3, xa4, xc4⟩
theorem ColsIn.mono {prog : Program} {w : World} {news news' : List (Addr × Obj)} {v : Value} {k : Cols} (h : ColsIn prog w news v k) (hs : ∀ p ∈ news, p ∈ news') : ColsIn prog w news' v k := by
  cases h with
  | mk h1 h2 h3 h4 h5 h6 h7 h8 h9 => exact .mk (hs _ h1) h2 (hs _ h3) (hs _ h4) (hs _ h5) (hs _ h6) (hs _ h7) (hs _ h8) (hs _ h9)

section
variable {h₀ h : Heap} {L : Addr} {q p1 p2 p3 p4 p5 p6 p7 p8 p9 p10 p11 p12 : Addr × Obj} {r : List (Addr × Obj)}
theorem stl1 (N : News h₀ L h (q :: p1 :: r)) : News h₀ L h (q :: ([p1] ++ r)) := N
theorem tl1 (N : News h₀ L h (p1 :: r)) : News h₀ L h ([p1] ++ r) := N
theorem stl2 (N : News h₀ L h (q :: p1 :: p2 :: r)) : News h₀ L h (q :: ([p1, p2] ++ r)) := N
theorem tl2 (N : News h₀ L h (p1 :: p2 :: r)) : News h₀ L h ([p1, p2] ++ r) := N
theorem stl3 (N : News h₀ L h (q :: p1 :: p2 :: p3 :: r)) : News h₀ L h (q :: ([p1, p2, p3] ++ r)) := N
theorem tl3 (N : News h₀ L h (p1 :: p2 :: p3 :: r)) : News h₀ L h ([p1, p2, p3] ++ r) := N
theorem stl4 (N : News h₀ L h (q :: p1 :: p2 :: p3 :: p4 :: r)) : News h₀ L h (q :: ([p1, p2, p3, p4] ++ r)) := N
theorem tl4 (N : News h₀ L h (p1 :: p2 :: p3 :: p4 :: r)) : News h₀ L h ([p1, p2, p3, p4] ++ r) := N
theorem stl5 (N : News h₀ L h (q :: p1 :: p2 :: p3 :: p4 :: p5 :: r)) : News h₀ L h (q :: ([p1, p2, p3, p4, p5] ++ r)) := N
theorem tl5 (N : News h₀ L h (p1 :: p2 :: p3 :: p4 :: p5 :: r)) : News h₀ L h ([p1, p2, p3, p4, p5] ++ r) := N
theorem stl6 (N : News h₀ L h (q :: p1 :: p2 :: p3 :: p4 :: p5 :: p6 :: r)) : News h₀ L h (q :: ([p1, p2, p3, p4, p5, p6] ++ r)) := N
theorem tl6 (N : News h₀ L h (p1 :: p2 :: p3 :: p4 :: p5 :: p6 :: r)) : News h₀ L h ([p1, p2, p3, p4, p5, p6] ++ r) := N
theorem stl7 (N : News h₀ L h (q :: p1 :: p2 :: p3 :: p4 :: p5 :: p6 :: p7 :: r)) : News h₀ L h (q :: ([p1, p2, p3, p4, p5, p6, p7] ++ r)) := N
theorem tl7 (N : News h₀ L h (p1 :: p2 :: p3 :: p4 :: p5 :: p6 :: p7 :: r)) : News h₀ L h ([p1, p2, p3, p4, p5, p6, p7] ++ r) := N
theorem stl8 (N : News h₀ L h (q :: p1 :: p2 :: p3 :: p4 :: p5 :: p6 :: p7 :: p8 :: r)) : News h₀ L h (q :: ([p1, p2, p3, p4, p5, p6, p7, p8] ++ r)) := N
theorem tl8 (N : News h₀ L h (p1 :: p2 :: p3 :: p4 :: p5 :: p6 :: p7 :: p8 :: r)) : News h₀ L h ([p1, p2, p3, p4, p5, p6, p7, p8] ++ r) := N
theorem stl9 (N : News h₀ L h (q :: p1 :: p2 :: p3 :: p4 :: p5 :: p6 :: p7 :: p8 :: p9 :: r)) : News h₀ L h (q :: ([p1, p2, p3, p4, p5, p6, p7, p8, p9] ++ r)) := N
theorem tl9 (N : News h₀ L h (p1 :: p2 :: p3 :: p4 :: p5 :: p6 :: p7 :: p8 :: p9 :: r)) : News h₀ L h ([p1, p2, p3, p4, p5, p6, p7, p8, p9] ++ r) := N
theorem stl10 (N : News h₀ L h (q :: p1 :: p2 :: p3 :: p4 :: p5 :: p6 :: p7 :: p8 :: p9 :: p10 :: r)) : News h₀ L h (q :: ([p1, p2, p3, p4, p5, p6, p7, p8, p9, p10] ++ r)) := N
theorem tl10 (N : News h₀ L h (p1 :: p2 :: p3 :: p4 :: p5 :: p6 :: p7 :: p8 :: p9 :: p10 :: r)) : News h₀ L h ([p1, p2, p3, p4, p5, p6, p7, p8, p9, p10] ++ r) := N
theorem stl11 (N : News h₀ L h (q :: p1 :: p2 :: p3 :: p4 :: p5 :: p6 :: p7 :: p8 :: p9 :: p10 :: p11 :: r)) : News h₀ L h (q :: ([p1, p2, p3, p4, p5, p6, p7, p8, p9, p10, p11] ++ r)) := N
theorem tl11 (N : News h₀ L h (p1 :: p2 :: p3 :: p4 :: p5 :: p6 :: p7 :: p8 :: p9 :: p10 :: p11 :: r)) : News h₀ L h ([p1, p2, p3, p4, p5, p6, p7, p8, p9, p10, p11] ++ r) := N
theorem stl12 (N : News h₀ L h (q :: p1 :: p2 :: p3 :: p4 :: p5 :: p6 :: p7 :: p8 :: p9 :: p10 :: p11 :: p12 :: r)) : News h₀ L h (q :: ([p1, p2, p3, p4, p5, p6, p7, p8, p9, p10, p11, p12] ++ r)) := N
theorem tl12 (N : News h₀ L h (p1 :: p2 :: p3 :: p4 :: p5 :: p6 :: p7 :: p8 :: p9 :: p10 :: p11 :: p12 :: r)) : News h₀ L h ([p1, p2, p3, p4, p5, p6, p7, p8, p9, p10, p11, p12] ++ r) := N
end
section
variable {h₀ h : Heap} {L : Addr} {q p1 p2 p3 p4 p5 p6 : Addr × Obj} {tl tl2 r : List (Addr × Obj)}
theorem stA1 (N : News h₀ L h (q :: p1 :: (tl ++ r))) : News h₀ L h (q :: ((p1 :: tl) ++ r)) := N
theorem tA1 (N : News h₀ L h (p1 :: (tl ++ r))) : News h₀ L h ((p1 :: tl) ++ r) := N
theorem stA2 (N : News h₀ L h (q :: p1 :: p2 :: (tl ++ r))) : News h₀ L h (q :: ((p1 :: p2 :: tl) ++ r)) := N
theorem tA2 (N : News h₀ L h (p1 :: p2 :: (tl ++ r))) : News h₀ L h ((p1 :: p2 :: tl) ++ r) := N
theorem stA3 (N : News h₀ L h (q :: p1 :: p2 :: p3 :: (tl ++ r))) : News h₀ L h (q :: ((p1 :: p2 :: p3 :: tl) ++ r)) := N
theorem tA3 (N : News h₀ L h (p1 :: p2 :: p3 :: (tl ++ r))) : News h₀ L h ((p1 :: p2 :: p3 :: tl) ++ r) := N
theorem stA4 (N : News h₀ L h (q :: p1 :: p2 :: p3 :: p4 :: (tl ++ r))) : News h₀ L h (q :: ((p1 :: p2 :: p3 :: p4 :: tl) ++ r)) := N
theorem tA4 (N : News h₀ L h (p1 :: p2 :: p3 :: p4 :: (tl ++ r))) : News h₀ L h ((p1 :: p2 :: p3 :: p4 :: tl) ++ r) := N
theorem stA5 (N : News h₀ L h (q :: p1 :: p2 :: p3 :: p4 :: p5 :: (tl ++ r))) : News h₀ L h (q :: ((p1 :: p2 :: p3 :: p4 :: p5 :: tl) ++ r)) := N
theorem tA5 (N : News h₀ L h (p1 :: p2 :: p3 :: p4 :: p5 :: (tl ++ r))) : News h₀ L h ((p1 :: p2 :: p3 :: p4 :: p5 :: tl) ++ r) := N
end

/-- a column by its source and place -/
inductive Col where | c10 | c11 | c12 | c20 | c21
noncomputable abbrev Col.t : Col → Int
  | .c10 => 1 | .c11 => 1 | .c12 => 1 | .c20 => 2 | .c21 => 2
noncomputable abbrev Col.c : Col → Int
  | .c10 => 0 | .c11 => 1 | .c12 => 2 | .c20 => 0 | .c21 => 1
theorem col1 {d : Int} (h0 : 0 ≤ d) (h1 : d < 3) : ∃ i : Col, d = i.c ∧ i.t = 1 := by
  rcases (by omega : d = 0 ∨ d = 1 ∨ d = 2) with rfl | rfl | rfl
  · exact ⟨.c10, rfl, rfl⟩
  · exact ⟨.c11, rfl, rfl⟩
  · exact ⟨.c12, rfl, rfl⟩
theorem col2 {d : Int} (h0 : 0 ≤ d) (h1 : d < 2) : ∃ i : Col, d = i.c ∧ i.t = 2 := by
  rcases (by omega : d = 0 ∨ d = 1) with rfl | rfl
  · exact ⟨.c20, rfl, rfl⟩
  · exact ⟨.c21, rfl, rfl⟩

/-- a side of the condition -/
inductive Side where
  | col (i : Col)
  | lit (v : LV)
  | cast (x : Side) (ty : Str)
  | coll (x : Side) (c : Str)
inductive Side.Base : Side → Prop
  | col (i : Col) : Side.Base (.col i)
  | lit (v : LV) : Side.Base (.lit v)
inductive Side.Ok : Side → Prop
  | base {d : Side} : d.Base → Side.Ok d
  | cast {x : Side} {ty : Str} : x.Base → ty ∈ TYPES → Side.Ok (.cast x ty)
  | coll {x : Side} {c : Str} : x.Base → c ∈ NAMES → Side.Ok (.coll x c)
inductive SideIn (news : List (Addr × Obj)) : Value → Side → Prop
  | col {a : Addr} {t1 t2 t3 : Tok} {n : Nat} (i : Col) : (a, tupO [.str (Str.ofString "name") t1, .int i.t t2, .int i.c t3] n) ∈ news → SideIn news (.ref a) (.col i)
  | lit {a : Addr} {t1 : Tok} {n : Nat} {v : Value} {lv : LV} : (a, tupO [.str (Str.ofString "lit") t1, v] n) ∈ news → LVal v lv → SideIn news (.ref a) (.lit lv)
  | cast {a : Addr} {t1 t2 : Tok} {n : Nat} {v : Value} {x : Side} {ty : Str} : (a, tupO [.str (Str.ofString "cast") t1, v, .str ty t2] n) ∈ news → SideIn news v x → SideIn news (.ref a) (.cast x ty)
  | coll {a : Addr} {t1 t2 : Tok} {n : Nat} {v : Value} {x : Side} {c : Str} : (a, tupO [.str (Str.ofString "collate") t1, v, .str c t2] n) ∈ news → SideIn news v x → SideIn news (.ref a) (.coll x c)
theorem SideIn.mono {news news' : List (Addr × Obj)} {v : Value} {d : Side} (h : SideIn news v d) (hs : ∀ p ∈ news, p ∈ news') : SideIn news' v d := by
  induction h with
  | col i hm => exact .col i (hs _ hm)
  | lit hm hv => exact .lit (hs _ hm) hv
  | cast hm _ ih => exact .cast (hs _ hm) ih
  | coll hm _ ih => exact .coll (hs _ hm) ih
noncomputable def Col.of1 (d : Int) : Col := if d = 0 then .c10 else if d = 1 then .c11 else .c12
noncomputable def Col.of2 (d : Int) : Col := if d = 0 then .c20 else .c21
theorem Col.of1_t (d : Int) : (Col.of1 d).t = 1 := by unfold Col.of1; split; rfl; split <;> rfl
theorem Col.of1_c {d : Int} (h0 : 0 ≤ d) (h1 : d < 3) : (Col.of1 d).c = d := by
  rcases (by omega : d = 0 ∨ d = 1 ∨ d = 2) with rfl | rfl | rfl <;> rfl
theorem Col.of2_t (d : Int) : (Col.of2 d).t = 2 := by unfold Col.of2; split <;> rfl
theorem Col.of2_c {d : Int} (h0 : 0 ≤ d) (h1 : d < 2) : (Col.of2 d).c = d := by
  rcases (by omega : d = 0 ∨ d = 1) with rfl | rfl <;> rfl
theorem side_col1 {news : List (Addr × Obj)} {a : Addr} {t1 t2 t3 : Tok} {n : Nat} {d : Int} (hm : (a, tupO [.str (Str.ofString "name") t1, .int 1 t2, .int d t3] n) ∈ news) (h0 : 0 ≤ d) (h1 : d < 3) : SideIn news (.ref a) (.col (Col.of1 d)) :=
  .col _ (by rw [Col.of1_t, Col.of1_c h0 h1]; exact hm)
theorem side_col2 {news : List (Addr × Obj)} {a : Addr} {t1 t2 t3 : Tok} {n : Nat} {d : Int} (hm : (a, tupO [.str (Str.ofString "name") t1, .int 2 t2, .int d t3] n) ∈ news) (h0 : 0 ≤ d) (h1 : d < 2) : SideIn news (.ref a) (.col (Col.of2 d)) :=
  .col _ (by rw [Col.of2_t, Col.of2_c h0 h1]; exact hm)

section
variable {prog : Program} {w : World} {A : Around} {E : Value → Shared → Prop} {s : Shared} {h₀ : Heap} {L la : Addr} {news : List (Addr × Obj)} {vs : List Value} {ln : Nat} {Q : Value → Shared → Prop} {value slice : PySem.Expr} {k : Int} {u : Tok} {v : Value}
theorem itm_at8 (N : News h₀ L s.heap news) (hm : (la, listOf vs.toArray ln) ∈ news) (h0 : 0 ≤ k) (h1 : k ≤ 8) (hv : vs[k.toNat]? = some v) (h : Q v s)
    (hs : subscripted slice false (.ref la) (.int k u) = operate [.ref la, .int k u] (getItem (.ref la) (.int k u)) := by with_unfolding_all rfl) :
    wpAny (model prog w) A (subscriptTail value slice (.ref la) (.int k u)) Q E s := by
  have hL := News.isList N hm
  exact tail_any hL.typeIs slot_list_getitem.lookup (wpAny_getItem_list hL h0 (by omega) (by simpa using hv) h) hs
theorem tup_at8 (N : News h₀ L s.heap news) (hm : (la, tupO vs ln) ∈ news) (h0 : 0 ≤ k) (h1 : k ≤ 8) (hv : vs[k.toNat]? = some v) (h : Q v s)
    (hs : subscripted slice false (.ref la) (.int k u) = operate [.ref la, .int k u] (getItem (.ref la) (.int k u)) := by with_unfolding_all rfl) :
    wpAny (model prog w) A (subscriptTail value slice (.ref la) (.int k u)) Q E s := by
  have hT : IsTup s.heap la vs.toArray := News.isTup (d := none) (sl := #[]) N hm
  have hk : k.toNat < vs.length := by
    rcases Nat.lt_or_ge k.toNat vs.length with h | h
    · exact h
    · rw [List.getElem?_eq_none h] at hv; cases hv
  exact item_tupleT hT (by omega) (by omega) (show seqIndex? k vs.length = some k.toNat by unfold seqIndex?; simp; omega) hv h hs
end

/-! evaluation that leaves the heap as it is, with no continuation in sight -/
noncomputable def okN (env : Env) (x : Str) (k : NameKind) : Bool := decide (env.scope.kind = .function) && decide (env.kindOf x = some k) && !(x == ("__debug__" : Str))
theorem okN_of {env : Env} {x : Str} {k : NameKind} (h : okN env x k = true) : env.scope.kind = .function ∧ env.kindOf x = some k ∧ (x == ("__debug__" : Str)) = false := by
  unfold okN at h
  rw [Bool.and_eq_true, Bool.and_eq_true] at h
  exact ⟨of_decide_eq_true h.1.1, of_decide_eq_true h.1.2, by simpa using h.2⟩
/-- what a name is, by the scope alone -/
noncomputable def okC (cs : Scope) (x : Str) (k : NameKind) : Bool := okN { scope := cs, locals := 0, globals := mainGlobals, cells := [], qual := "", func := none, code := .none, frame := none, builtins := builtinsNs } x k
theorem okC_of {cs : Scope} {x : Str} {k : NameKind} {cn : Str} {L a : Addr} {ccd : Value} {cl : List (Str × Addr)} (h : okC cs x k = true) : okN (envX cn cs L a ccd cl) x k = true := h
structure Ev (M : Model) (A : Around) (env : Env) (h : Heap) (t : Nat) (e : PySem.Expr) (v : Value) (t' : Nat) : Prop where
  ns : ∀ rest, starEach (e :: rest) env = (false, eval e env) :: starEach rest env
  go : ∀ g d o (Q E : Value → Shared → Prop), Q v ⟨h, g, d, t', o⟩ → wpAny M A (eval e env) Q E ⟨h, g, d, t, o⟩
structure EvL (M : Model) (A : Around) (env : Env) (h : Heap) (t : Nat) (es : List PySem.Expr) (vs : List Value) (t' : Nat) : Prop where
  ns : ∀ pos, (backTo pos (starEach es env)).any (·.1) = false
  go : ∀ pos g d o (Q : List Value → Shared → Prop) (E : Value → Shared → Prop), Q vs ⟨h, g, d, t', o⟩ → wpAny M A (spliced (backTo pos (starEach es env))) Q E ⟨h, g, d, t, o⟩
section
variable {M : Model} {prog : Program} {w : World} {A : Around} {env : Env} {h h₀ : Heap} {t t₁ t₂ : Nat} {e : PySem.Expr} {es : List PySem.Expr} {v fv : Value} {vs : List Value} {x fn attr : Str} {pos fp p : Pos} {L a la : Addr} {m : Str → Option Value} {cn : Str} {cs : Scope} {ccd : Value} {cl : List (Str × Addr)}
  {K : Frag} {pr : Program} {loose : List Str} {mean : ExcName → Option Value} {mg mb : Str → Option Value} {news : List (Addr × Obj)} {n ku : Nat} {k : Int} {ox : Obj} {C : Addr} {des : List DictEntry} {attr' : Option Value} {g : Array GenState} {d : Drawn} {o : OsState} {Q E : Value → Shared → Prop} {id : String}
theorem EvL.nil : EvL M A env h t [] [] t := ⟨fun _ => rfl, fun _ _ _ _ _ _ q => args_nil q⟩
theorem EvL.cons (x : Ev M A env h t e v t₁) (y : EvL M A env h t₁ es vs t₂) : EvL M A env h t (e :: es) (v :: vs) t₂ :=
  ⟨fun pos => by rw [x.1]; exact y.1 pos, fun _ _ _ _ _ _ q => args_cons (x.2 _ _ _ _ _ (y.2 _ _ _ _ _ _ q)) (x.1 _)⟩
theorem Ev.loc (hx : okC cs x .local = true) (F : Fr h₀ L h m) (hv : m x = some v) : Ev M A (envX cn cs L a ccd cl) h t (.Name x pos) v t :=
  ⟨fun _ => rfl, fun _ _ _ _ _ q => nameX_L F hv q (okN_of (okC_of (cn := cn) (L := L) (a := a) (ccd := ccd) (cl := cl) hx)).1 (okN_of (okC_of (cn := cn) (L := L) (a := a) (ccd := ccd) (cl := cl) hx)).2.1 (okN_of (okC_of (cn := cn) (L := L) (a := a) (ccd := ccd) (cl := cl) hx)).2.2⟩
theorem Ev.glob (e : nsIn K mainGlobals x = some (some v)) (hx : okC cs x .globalImplicit = true) (F : Fr h₀ L h m) (X : K.In h₀) (T : TopRead pr loose mg mb h₀) : Ev M A (envX cn cs L a ccd cl) h t (.Name x pos) v t :=
  ⟨fun _ => rfl, fun _ _ _ _ _ q => nameX_K F X T e q (okN_of (okC_of (cn := cn) (L := L) (a := a) (ccd := ccd) (cl := cl) hx)).1 (okN_of (okC_of (cn := cn) (L := L) (a := a) (ccd := ccd) (cl := cl) hx)).2.1 (okN_of (okC_of (cn := cn) (L := L) (a := a) (ccd := ccd) (cl := cl) hx)).2.2⟩
theorem Ev.bi (e : nsIn K mainGlobals x = some none) (hv : bootBuiltins x = some v) (hn : (x == ("__name__" : Str)) = false) (hx : okC cs x .globalImplicit = true) (F : Fr h₀ L h m) (X : K.In h₀) (T : TopRead pr loose mg mb h₀) : Ev M A (envX cn cs L a ccd cl) h t (.Name x pos) v t :=
  ⟨fun _ => rfl, fun _ _ _ _ _ q => nameX_B F X T e hv (beq_eq_false_iff_ne.mp hn) q (okN_of (okC_of (cn := cn) (L := L) (a := a) (ccd := ccd) (cl := cl) hx)).1 (okN_of (okC_of (cn := cn) (L := L) (a := a) (ccd := ccd) (cl := cl) hx)).2.1 (okN_of (okC_of (cn := cn) (L := L) (a := a) (ccd := ccd) (cl := cl) hx)).2.2⟩
theorem Ev.cstr : Ev M A env h t (.Constant (.str x) ku pos) (.str x t) (t + 1) := ⟨fun _ => rfl, fun _ _ _ _ _ q => wpAny_Constant_str q⟩
theorem Ev.cint : Ev M A env h t (.Constant (.int k) ku pos) (.int k t) (t + 1) := ⟨fun _ => rfl, fun _ _ _ _ _ q => wpAny_Constant_int q⟩
theorem Ev.cnone : Ev M A env h t (.Constant .none ku pos) .none t := ⟨fun _ => rfl, fun _ _ _ _ _ q => wpAny_Constant_none q⟩
theorem Ev.tup (y : Ev (model prog w) A env h t e (.ref la) t₁) (N : News h₀ L h news) (hm : (la, tupO vs n) ∈ news) (h0 : 0 ≤ k) (h1 : k ≤ 8) (hv : vs[k.toNat]? = some v) : Ev (model prog w) A env h t (.Subscript e (.Constant (.int k) ku p) pos) v (t₁ + 1) :=
  ⟨fun _ => rfl, fun _ _ _ _ _ q => Subscript_ (y.2 _ _ _ _ _ (wpAny_Constant_int (tup_at8 N hm h0 h1 hv q (by with_unfolding_all rfl))))⟩
theorem Ev.lst (y : Ev (model prog w) A env h t e (.ref la) t₁) (N : News h₀ L h news) (hm : (la, listOf vs.toArray n) ∈ news) (h0 : 0 ≤ k) (h1 : k ≤ 8) (hv : vs[k.toNat]? = some v) : Ev (model prog w) A env h t (.Subscript e (.Constant (.int k) ku p) pos) v (t₁ + 1) :=
  ⟨fun _ => rfl, fun _ _ _ _ _ q => Subscript_ (y.2 _ _ _ _ _ (wpAny_Constant_int (itm_at8 N hm h0 h1 hv q (by with_unfolding_all rfl))))⟩
theorem Ev.atr (y : Ev (model prog w) A env h t (.Name x fp) (.ref a) t₁) (F : Fr h₀ L h m) (X : K.In h₀) (I : InstAt h a ox C (some (dictOf des n))) (hg : plainGet K C attr = true) (hh : hasDictIn K C = true) (ha : findIn K (.ref C) attr = some attr') (hn : noGet K attr' = true) (hl : getL attr des = some (some v)) (hv : handedIn v = true) :
    Ev (model prog w) A env h t (.Attribute (.Name x fp) attr pos) v (t₁ + 1) :=
  ⟨fun _ => rfl, fun _ _ _ _ _ q => Attribute_Name_ (y.2 _ _ _ _ _ (get_own F X I hg hh ha hn hl hv q))⟩
theorem ev_use (y : Ev M A env h t e v t₁) (q : Q v ⟨h, g, d, t₁, o⟩) : wpAny M A (eval e env) Q E ⟨h, g, d, t, o⟩ := y.2 _ _ _ _ _ q
inductive CK (K : Frag) : Value → Prop
  | k {fv : Value} : keepIn K fv = true → CK K fv
  | b {id : String} : CK K (.builtin id)
theorem ev_call (f : Ev M A env h t (.Name fn fp) fv t₁) (x : Ev M A env h t₁ e v t₂) {t₃ : Nat} (y : EvL M A env h t₂ es vs t₃) (X : K.In h) (c : CK K fv) (q : wpAny M A (call fv (v :: vs)) Q E ⟨h, g, d, t₃, o⟩) :
    wpAny M A (eval (.Call (.Name fn fp) (e :: es) [] pos) env) Q E ⟨h, g, d, t, o⟩ := by
  cases c with
  | k hk => exact Call_ (f.2 _ _ _ _ _ (callWith_K (h₀ := h) X hk (args_cons (x.2 _ _ _ _ _ (y.2 _ _ _ _ _ _ ⟨X, q⟩)) (x.1 _)) (x.1 _) (y.1 _)))
  | b => exact Call_ (f.2 _ _ _ _ _ (callWith_builtin1 (args_cons (x.2 _ _ _ _ _ (y.2 _ _ _ _ _ _ q)) (x.1 _)) (x.1 _) (y.1 _)))
end

/-- a test, evaluated with no continuation in sight -/
structure EvT (M : Model) (A : Around) (env : Env) (h : Heap) (t : Nat) (e : PySem.Expr) (b : Bool) (t' : Nat) : Prop where
  go : ∀ g d o (Q : Bool → Shared → Prop) (E : Value → Shared → Prop), Q b ⟨h, g, d, t', o⟩ → wpAny M A (isTrue e env (eval e env)) Q E ⟨h, g, d, t, o⟩
structure IsI (M : Model) (A : Around) (h : Heap) (a C : Addr) (b : Bool) (n : Nat) : Prop where
  go : ∀ g d t o (Q E : Value → Shared → Prop), Q (.bool b) ⟨h, g, d, t + n, o⟩ → wpAny M A (call (.builtin "isinstance") [.ref a, .ref C]) Q E ⟨h, g, d, t, o⟩
structure NoCls (K : Frag) (D : Addr) : Prop where
  hg : plainGet K D "__class__" = true
  hdct : hasDictIn K D = true
  ha : findIn K (.ref D) "__class__" = some (some (.builtin "object.__class__"))
  hn : specialIn K (.builtin "object.__class__") "__get__" = some (some (.builtin "getset_descriptor.__get__"))
  htk : takesIn K (.builtin "object.__class__") = some true
  hm : mroIn K D (.type "object") = some true
section
variable {M : Model} {prog : Program} {w : World} {A : Around} {env : Env} {h h₀ : Heap} {t t₁ t₂ t₃ : Nat} {e e1 e2 test : PySem.Expr} {es : List PySem.Expr} {v fv : Value} {vs : List Value} {x y fn : Str} {u u' : Tok} {pos fp p p2 : Pos} {a C D : Addr} {b : Bool} {n : Nat}
  {K : Frag} {ox od : Obj} {g : Array GenState} {d : Drawn} {o : OsState} {E : Value → Shared → Prop} {Qv : Value → Shared → Prop} {Q : Flow → Shared → Prop} {rest body orelse : List Stmt} {k : Nat}
theorem IsI.no (X : K.In h) (I : InstAt h a ox D (some od)) (e : kin_not K D C = true) (z : NoCls K D) : IsI (model prog w) A h a C false 1 :=
  ⟨fun _ _ _ _ _ _ q => kin_callC X I e z.hg z.hdct z.ha z.hn z.htk z.hm q⟩
theorem IsI.yes (X : K.In h) (I : InstAt h a ox D (some od)) (e : isIn K (.ref D) C = true) : IsI (model prog w) A h a C true 0 :=
  ⟨fun _ _ _ _ _ _ q => isi_call X (fun _ => InstAt.type I) e (fun e => nomatch e) q⟩
theorem EvT.isi (f : Ev M A env h t (.Name fn fp) (.builtin "isinstance") t₁) (x : Ev M A env h t₁ e1 (.ref a) t₂) (c : Ev M A env h t₂ e2 (.ref C) t₃) (i : IsI M A h a C b n) : EvT M A env h t (.Call (.Name fn fp) [e1, e2] [] pos) b (t₃ + n) :=
  ⟨fun g d o Q E q => isTrue_plain (Call_ (f.go _ _ _ _ _ (callWith_builtin1 (args_cons (x.go _ _ _ _ _ (args_cons (c.go _ _ _ _ _ (args_nil (i.go _ _ _ _ _ _ (wpAny_truthy_bool q)))) (c.ns _))) (x.ns _)) (x.ns _) (by rw [c.ns]; rfl)))) rfl⟩
theorem EvT.eqs (hm : behindInMarks .Eq e2 = false) (l : Ev (model prog w) A env h t e1 (.str x u) t₁) (r : Ev (model prog w) A env h t₁ e2 (.str y u') t₂) (hb : (x == y) = b) : EvT (model prog w) A env h t (.Compare e1 [.Eq] [e2] pos) b t₂ :=
  ⟨fun _ _ _ _ _ q => wpAny_isTrue_Compare1 (l.go _ _ _ _ _ (r.go _ _ _ _ _ (PyProof.Rows.eq_str (wpAny_truthy_bool (by rw [hb]; exact q))))) hm⟩
theorem eqb_t {x y : Str} (h : (x == y) = true) : (x == y) = true := h
theorem eqb_f {x y : Str} (h : (x == y) = false) : (x == y) = false := h
theorem EvT.not (x : EvT M A env h t e b t₁) : EvT M A env h t (.UnaryOp .Not e pos) (!b) t₁ := ⟨fun _ _ _ _ _ q => isTrue_not (x.go _ _ _ _ _ q)⟩
theorem evt_use {Q : Bool → Shared → Prop} (x : EvT M A env h t e b t₁) (q : Q b ⟨h, g, d, t₁, o⟩) : wpAny M A (isTrue e env (eval e env)) Q E ⟨h, g, d, t, o⟩ := x.go _ _ _ _ _ q
theorem if_gen (x : EvT M A env h t test b t₁) (q : if b = true then wpAny M A (execs body env) (fun f s' => match f with | .next => wpAny M A (execs rest env) Q E s' | f => Q f s') E ⟨h, g, d, t₁, o⟩ else wpAny M A (execs orelse env) (fun f s' => match f with | .next => wpAny M A (execs rest env) Q E s' | f => Q f s') E ⟨h, g, d, t₁, o⟩) :
    wpAny M A (execs (.If test body orelse p :: rest) env) Q E ⟨h, g, d, t, o⟩ := wpAny_execs_cons (wpAny_If (x.go _ _ _ _ _ q))
theorem if_skip (x : EvT M A env h t test b t₁) (hb : b = false) (q : wpAny M A (execs rest env) Q E ⟨h, g, d, t₁, o⟩) : wpAny M A (execs (.If test body [] p :: rest) env) Q E ⟨h, g, d, t, o⟩ :=
  if_gen x (by subst hb; rw [if_neg Bool.false_ne_true]; exact wpAny_execs_nil q)
theorem if_ret (x : EvT M A env h t test b t₁) (hb : b = true) (q : wpAny M A (eval e env) (fun v => Q (.ret v)) E ⟨h, g, d, t₁, o⟩) : wpAny M A (execs (.If test [.Return (some e) p2] orelse p :: rest) env) Q E ⟨h, g, d, t, o⟩ :=
  if_gen x (by subst hb; rw [if_pos rfl]; exact wpAny_execs_cons (wpAny_Return_some q))
theorem ret_last {s : Shared} (q : wpAny M A (eval e env) (fun v => Q (.ret v)) E s) : wpAny M A (execs (.Return (some e) p2 :: rest) env) Q E s := wpAny_execs_cons (wpAny_Return_some q)
theorem ev_tuple (y : EvL M A env h t es vs t₁) (q : wpAny M A (newTuple vs) Qv E ⟨h, g, d, t₁, o⟩) : wpAny M A (eval (.Tuple es k pos) env) Qv E ⟨h, g, d, t, o⟩ := Tuple_ (y.go _ _ _ _ _ _ q)
theorem ev_list (y : EvL M A env h t es vs t₁) (q : wpAny M A (newList vs) Qv E ⟨h, g, d, t₁, o⟩) : wpAny M A (eval (.List es pos) env) Qv E ⟨h, g, d, t, o⟩ := List_ (y.go _ _ _ _ _ _ q)
end

theorem letA {M : Model} {A : Around} {env : Env} {body : List Stmt} {Q : Flow → Shared → Prop} {E : Value → Shared → Prop} {s : Shared} (h : let A' := A; let e' := env; wpAny M A' (execs body e') Q E s) : wpAny M A (execs body env) Q E s := h
/-! continuations with names of their own: no lambda, no copy at each depth -/
noncomputable def KExecs (M : Model) (A : Around) (env : Env) (rest : List Stmt) (Q : Flow → Shared → Prop) (E : Value → Shared → Prop) (f : Flow) (s : Shared) : Prop := match f with | .next => wpAny M A (execs rest env) Q E s | f => Q f s
noncomputable def KRet (Q : Flow → Shared → Prop) (v : Value) (s : Shared) : Prop := Q (.ret v) s
noncomputable def KAsg (M : Model) (A : Around) (env : Env) (x : Str) (rest : List Stmt) (Q : Flow → Shared → Prop) (E : Value → Shared → Prop) (v : Value) (s : Shared) : Prop := wpAny M A (storeName env x v) (fun _ s' => wpAny M A (execs rest env) Q E s') E s
noncomputable def setM (m : Str → Option Value) (x : Str) (v : Value) : Str → Option Value := fun y => if y = x then some v else m y
section
variable {M : Model} {A : Around} {env : Env} {h h₀ : Heap} {t t₁ : Nat} {e test : PySem.Expr} {v : Value} {x : Str} {p p2 xp : Pos} {b : Bool} {g : Array GenState} {d : Drawn} {o : OsState} {s : Shared} {E : Value → Shared → Prop} {Q : Flow → Shared → Prop} {st : Stmt} {rest body orelse : List Stmt}
  {L a : Addr} {m : Str → Option Value} {cn : Str} {cs : Scope} {ccd : Value} {cl : List (Str × Addr)} {news : List (Addr × Obj)}
theorem kx_of {f : Flow} (h : match f with | .next => wpAny M A (execs rest env) Q E s | f => Q f s) : KExecs M A env rest Q E f s := h
theorem kx_next (h : wpAny M A (execs rest env) Q E s) : KExecs M A env rest Q E .next s := h
theorem kx_ret (h : Q (.ret v) s) : KExecs M A env rest Q E (.ret v) s := h
theorem kret (h : Q (.ret v) s) : KRet Q v s := h
theorem kasg (h : wpAny M A (storeName env x v) (fun _ s' => wpAny M A (execs rest env) Q E s') E s) : KAsg M A env x rest Q E v s := h
theorem execs_consK (h : wpAny M A (exec st env) (KExecs M A env rest Q E) E s) : wpAny M A (execs (st :: rest) env) Q E s :=
  wpAny_execs_cons (wpAny_mono h (fun f s' h' => by cases f <;> exact h') fun _ _ x => x)
theorem retK (q : wpAny M A (eval e env) (KRet Q) E s) : wpAny M A (execs (.Return (some e) p2 :: rest) env) Q E s := wpAny_execs_cons (wpAny_Return_some q)
theorem asgK (hs : swapsWith e (some (.Name x xp)) p.line env = pure false) (q : wpAny M A (eval e env) (KAsg M A env x rest Q E) E s) : wpAny M A (execs (.Assign [.Name x xp] e p :: rest) env) Q E s :=
  wpAny_execs_cons (wpAny_Assign_Name q hs)
theorem kasg_loc (hx : okC cs x .local = true) (F : Fr h₀ L h m) (N : News h₀ L h news)
    (k : ∀ h' t', Fr h₀ L h' (setM m x v) → News h₀ L h' news → wpAny M A (execs rest (envX cn cs L a ccd cl)) Q E ⟨h', g, d, t', o⟩) : KAsg M A (envX cn cs L a ccd cl) x rest Q E v ⟨h, g, d, t, o⟩ :=
  storeX_L (s := ⟨h, g, d, t, o⟩) F N (fun h' F N => k h' _ F N) (okN_of (okC_of (cn := cn) (L := L) (a := a) (ccd := ccd) (cl := cl) hx)).1 (okN_of (okC_of (cn := cn) (L := L) (a := a) (ccd := ccd) (cl := cl) hx)).2.1
theorem if_genK (x : EvT M A env h t test b t₁) (q : if b = true then wpAny M A (execs body env) (KExecs M A env rest Q E) E ⟨h, g, d, t₁, o⟩ else wpAny M A (execs orelse env) (KExecs M A env rest Q E) E ⟨h, g, d, t₁, o⟩) :
    wpAny M A (execs (.If test body orelse p :: rest) env) Q E ⟨h, g, d, t, o⟩ := execs_consK (wpAny_If (x.go _ _ _ _ _ q))
end


/-! the entry of a function, its names written -/
noncomputable def bm (l : List (Str × Value)) : Str → Option Value := fun y => l.reverse.lookup y
theorem enterM {prog : Program} {w : World} {A A₀ : Around} {E : Value → Shared → Prop} {hp : Heap} {gs : Array GenState} {dr : Drawn} {tk : Nat} {os : OsState} {K : Frag} {L : Addr} {h₀ base : Heap} {m mg mb : Str → Option Value} {news : List (Addr × Obj)} {p : Program} {loose : List Str} {mean : ExcName → Option Value} {Q : Value → Shared → Prop}
    {env : Env} {outer : List Env} {name qual : Str} {params : Arguments} {body : List Stmt} {scope : Scope} {dV kV doc pm cdv ct oc : Value} {an od : Option Addr} {osl : Array (Option Value)} {f : Addr} {vals : List Value} {binds : List (Str × Value)}
    (hv : binds.map (·.2) = vals)
    (B : Below A₀ base outer h₀) (F : Fr h₀ L hp m) (X₀ : K.In h₀) (N : News h₀ L hp news) (T : Top p loose mean mg mb h₀) (hA : A.frames = some (env :: outer)) (hf : env.frame = some L) (hke : env.scope.kind = .function)
    (ho : K.lookup f = some ⟨oc, od, .func (fnOf name qual params body scope dV kV doc pm an cdv ct), osl⟩) (hcd : codeIn K cdv qual = true) (hroom : A.depth < recursionLimit)
    (hbind : bindArgs (fnOf name qual params body scope dV kV doc pm an cdv ct) ⟨vals, []⟩ = pure binds) (hloc : (binds.all fun x => decide (scope.names.lookup x.1 = some .local)) = true)
    (hs : (!scope.isCoroutine && !scope.isGenerator && decide (scope.kind = .function) && scope.names.all fun x => decide (x.2 ≠ .cell)) = true)
    (h : ∀ g L' h₁ tk₁, Fr h₀ L g m → Fr g L' h₁ (bm binds) → News g L' h₁ news → Below A base (env :: outer) g → K.In g → Top p loose mean mg mb g →
      let e' := envOf qual scope L' f cdv; let A' := A.deeper e'; let Q' : Flow → Shared → Prop := fun fl s' => LeaveK h₀ L m g (fun r s' => match r with | .ok (.ret v) => Q v s' | .ok _ => False | .error e => E e s') (match fl with | .ret v => v | _ => .none) s';
      let E' : Value → Shared → Prop := fun e s' => wpAny (model prog w) A' (leaving e' e) (fun _ s'' => E e s'') (fun e' s'' => E e' s'') s';
      wpAny (model prog w) A' (execs body e') Q' E' ⟨h₁, gs, dr, tk₁, os⟩) :
    wpAny (model prog w) A (call (.ref f) vals) Q E ⟨hp, gs, dr, tk, os⟩ := by
  simp only [Bool.and_eq_true, Bool.not_eq_true', decide_eq_true_eq, List.all_eq_true] at hs
  exact wpAny_call (code_def (s := ⟨hp, gs, dr, tk, os⟩) B F X₀ N T hA hf hke ho hcd hroom (BindsTo.of_eq hbind) (locs hloc) (fun g L' h₁ FG F' N' B' X' T' => h g L' h₁ _ FG F' N' B' X' T') hs.1.1.1 hs.1.1.2 hs.1.2 hs.2)
theorem codeM {prog : Program} {w : World} {A A₀ : Around} {hp : Heap} {gs : Array GenState} {dr : Drawn} {tk : Nat} {os : OsState} {K : Frag} {L : Addr} {h₀ base : Heap} {m mg mb : Str → Option Value} {news : List (Addr × Obj)} {p : Program} {loose : List Str} {mean : ExcName → Option Value} {R : Result → Shared → Prop}
    {env : Env} {outer : List Env} {name qual : Str} {params : Arguments} {body : List Stmt} {scope : Scope} {dV kV doc pm cdv ct oc : Value} {an od : Option Addr} {osl : Array (Option Value)} {f : Addr} {args : Args} {binds : List (Str × Value)}
    (hA : A.frames = some (env :: outer)) (hf : env.frame = some L) (hke : env.scope.kind = .function) (B : Below A₀ base outer h₀) (F : Fr h₀ L hp m) (X₀ : K.In h₀) (N : News h₀ L hp news) (T : Top p loose mean mg mb h₀)
    (ho : K.lookup f = some ⟨oc, od, .func (fnOf name qual params body scope dV kV doc pm an cdv ct), osl⟩) (hcd : codeIn K cdv qual = true) (hroom : A.depth < recursionLimit)
    (hbind : bindArgs (fnOf name qual params body scope dV kV doc pm an cdv ct) args = pure binds) (hloc : (binds.all fun x => decide (scope.names.lookup x.1 = some .local)) = true)
    (hs : (!scope.isCoroutine && !scope.isGenerator && decide (scope.kind = .function) && scope.names.all fun x => decide (x.2 ≠ .cell)) = true)
    (h : ∀ g L' h₁ tk₁, Fr h₀ L g m → Fr g L' h₁ (bm binds) → News g L' h₁ news → Below A base (env :: outer) g → K.In g → Top p loose mean mg mb g →
      let e' := envOf qual scope L' f cdv; let A' := A.deeper e'; let Q' : Flow → Shared → Prop := fun fl s' => LeaveK h₀ L m g R (match fl with | .ret v => v | _ => .none) s';
      let E' : Value → Shared → Prop := fun e s' => wpAny (model prog w) A' (leaving e' e) (fun _ s'' => R (.error e) s'') (fun e' s'' => R (.error e') s'') s';
      wpAny (model prog w) A' (execs body e') Q' E' ⟨h₁, gs, dr, tk₁, os⟩) :
    codeAny (model prog w) A (.call (.ref f) args) R ⟨hp, gs, dr, tk, os⟩ := by
  simp only [Bool.and_eq_true, Bool.not_eq_true', decide_eq_true_eq, List.all_eq_true] at hs
  exact code_def (s := ⟨hp, gs, dr, tk, os⟩) B F X₀ N T hA hf hke ho hcd hroom (BindsTo.of_eq hbind) (locs hloc) (fun g L' h₁ FG F' N' B' X' T' => h g L' h₁ _ FG F' N' B' X' T') hs.1.1.1 hs.1.1.2 hs.1.2 hs.2
theorem sub_cons {α : Type} {x : α} {l r : List α} (h : x ∈ l) (k : ∀ p ∈ r, p ∈ l) : ∀ p ∈ x :: r, p ∈ l := List.forall_mem_cons.mpr ⟨h, k⟩
theorem sub_app {α : Type} {l r t : List α} (h : ∀ p ∈ t, p ∈ l) (k : ∀ p ∈ r, p ∈ l) : ∀ p ∈ t ++ r, p ∈ l := List.forall_mem_append.mpr ⟨h, k⟩
theorem all_cons {x : Addr × Obj} {a : Addr} {r : List (Addr × Obj)} (h : x.1 ≠ a) (k : ∀ p ∈ r, p.1 ≠ a) : ∀ p ∈ x :: r, p.1 ≠ a := List.forall_mem_cons.mpr ⟨h, k⟩
theorem all_app {a : Addr} {t r : List (Addr × Obj)} (h : ∀ p ∈ t, p.1 ≠ a) (k : ∀ p ∈ r, p.1 ≠ a) : ∀ p ∈ t ++ r, p.1 ≠ a := List.forall_mem_append.mpr ⟨h, k⟩
theorem mem_at {l : List (Addr × Obj)} {x : Addr × Obj} (i : Nat) (h : l[i]? = some x) : x ∈ l := List.mem_of_getElem? h

theorem bnd1 {x : Sem (List (Str × Value))} {x0 : Str} {v0 : Value} (h : x = pure [(x0, v0)]) : x = pure [(x0, v0)] := h
theorem bnd2 {x : Sem (List (Str × Value))} {x0 : Str} {v0 : Value} {x1 : Str} {v1 : Value} (h : x = pure [(x0, v0), (x1, v1)]) : x = pure [(x0, v0), (x1, v1)] := h
theorem bnd3 {x : Sem (List (Str × Value))} {x0 : Str} {v0 : Value} {x1 : Str} {v1 : Value} {x2 : Str} {v2 : Value} (h : x = pure [(x0, v0), (x1, v1), (x2, v2)]) : x = pure [(x0, v0), (x1, v1), (x2, v2)] := h
theorem bnd4 {x : Sem (List (Str × Value))} {x0 : Str} {v0 : Value} {x1 : Str} {v1 : Value} {x2 : Str} {v2 : Value} {x3 : Str} {v3 : Value} (h : x = pure [(x0, v0), (x1, v1), (x2, v2), (x3, v3)]) : x = pure [(x0, v0), (x1, v1), (x2, v2), (x3, v3)] := h
theorem bnd5 {x : Sem (List (Str × Value))} {x0 : Str} {v0 : Value} {x1 : Str} {v1 : Value} {x2 : Str} {v2 : Value} {x3 : Str} {v3 : Value} {x4 : Str} {v4 : Value} (h : x = pure [(x0, v0), (x1, v1), (x2, v2), (x3, v3), (x4, v4)]) : x = pure [(x0, v0), (x1, v1), (x2, v2), (x3, v3), (x4, v4)] := h
theorem bnd6 {x : Sem (List (Str × Value))} {x0 : Str} {v0 : Value} {x1 : Str} {v1 : Value} {x2 : Str} {v2 : Value} {x3 : Str} {v3 : Value} {x4 : Str} {v4 : Value} {x5 : Str} {v5 : Value} (h : x = pure [(x0, v0), (x1, v1), (x2, v2), (x3, v3), (x4, v4), (x5, v5)]) : x = pure [(x0, v0), (x1, v1), (x2, v2), (x3, v3), (x4, v4), (x5, v5)] := h
/-- what was made lies apart from what stood -/
noncomputable def Apart (news tl : List (Addr × Obj)) : Prop := ∀ q ∈ news, ∀ p ∈ tl, p.1 ≠ q.1
theorem Apart.nil {news : List (Addr × Obj)} : Apart news [] := fun _ _ _ h => nomatch h
theorem Apart.cons {news tl : List (Addr × Obj)} {a : Addr} {o : Obj} (h : ∀ q ∈ news, q.1 ≠ a) (k : Apart news tl) : Apart news ((a, o) :: tl) := fun q hq p hp => by
  rcases List.mem_cons.mp hp with rfl | hp
  · exact (h q hq).symm
  · exact k q hq p hp
theorem Apart.app {news tl tl2 : List (Addr × Obj)} (h : Apart news tl) (k : Apart news tl2) : Apart news (tl ++ tl2) := fun q hq p hp => by
  rcases List.mem_append.mp hp with hp | hp
  · exact h q hq p hp
  · exact k q hq p hp
theorem Apart.sub {news news' tl : List (Addr × Obj)} (h : Apart news' tl) (hs : ∀ p ∈ news, p ∈ news') : Apart news tl := fun q hq p hp => h q (hs q hq) p hp
theorem ne_allLt_r {a : Addr} {l l' : List (Addr × Obj)} (h : AllLt a (l ++ l')) : ∀ p ∈ l', p.1 ≠ a := fun p hp => ne_allLt h p (List.mem_append_right _ hp)
theorem ne_allLt_l {a : Addr} {l l' : List (Addr × Obj)} (h : AllLt a (l ++ l')) : ∀ p ∈ l, p.1 ≠ a := fun p hp => ne_allLt h p (List.mem_append_left _ hp)
theorem ne_ltP {a : Addr} {l : List (Addr × Obj)} (h : ∀ p ∈ l, @LT.lt Nat _ p.1 a) : ∀ p ∈ l, p.1 ≠ a := fun p hp => Nat.ne_of_lt (h p hp)
theorem ne_ltP_lt {a d : Addr} {l : List (Addr × Obj)} (h2 : @LT.lt Nat _ d a) (h : ∀ p ∈ l, @LT.lt Nat _ p.1 d) : ∀ p ∈ l, p.1 ≠ a := fun p hp => Nat.ne_of_lt (Nat.lt_trans (h p hp) h2)
theorem ne_sub {a : Addr} {l l' : List (Addr × Obj)} (h : ∀ p ∈ l, p.1 ≠ a) (hs : ∀ p ∈ l', p ∈ l) : ∀ p ∈ l', p.1 ≠ a := fun p hp => h p (hs p hp)
theorem ne_ltS {a : Addr} {l : List (Addr × Obj)} (h : ∀ p ∈ l, @LT.lt Nat _ p.1 a) : ∀ p ∈ l, p.1 ≠ a + 1 := fun p hp => Nat.ne_of_lt (Nat.lt_succ_of_lt (h p hp))
theorem ne_off1 {a : Addr} {l : List (Addr × Obj)} (h : LCg.Off1 a l) : ∀ p ∈ l, p.1 ≠ a := by
  induction l with
  | nil => exact fun _ h => nomatch h
  | cons q r ih => exact fun p hp => (List.mem_cons.mp hp).elim (fun e => e ▸ h.1) (ih h.2 p)
theorem ne_ltP_r {a : Addr} {l l' : List (Addr × Obj)} (h : ∀ p ∈ l ++ l', @LT.lt Nat _ p.1 a) : ∀ p ∈ l', p.1 ≠ a := fun p hp => Nat.ne_of_lt (h p (List.mem_append_right _ hp))
theorem ne_ltP_l {a : Addr} {l l' : List (Addr × Obj)} (h : ∀ p ∈ l ++ l', @LT.lt Nat _ p.1 a) : ∀ p ∈ l, p.1 ≠ a := fun p hp => Nat.ne_of_lt (h p (List.mem_append_left _ hp))
theorem ne_ltP_ltr {a d : Addr} {l l' : List (Addr × Obj)} (h2 : @LT.lt Nat _ d a) (h : ∀ p ∈ l ++ l', @LT.lt Nat _ p.1 d) : ∀ p ∈ l', p.1 ≠ a := fun p hp => Nat.ne_of_lt (Nat.lt_trans (h p (List.mem_append_right _ hp)) h2)
theorem ne_allLt_lt {a d : Addr} {l : List (Addr × Obj)} (h2 : @LT.lt Nat _ d a) (h : AllLt d l) : ∀ p ∈ l, p.1 ≠ a := fun p hp => Nat.ne_of_lt (Nat.lt_trans (ktn_ltOf h p hp) h2)
theorem ne_allLt_ltr {a d : Addr} {l l' : List (Addr × Obj)} (h2 : @LT.lt Nat _ d a) (h : AllLt d (l ++ l')) : ∀ p ∈ l', p.1 ≠ a := fun p hp => Nat.ne_of_lt (Nat.lt_trans (ktn_ltOf h p (List.mem_append_right _ hp)) h2)
theorem Apart.ne {a : Addr} {o : Obj} {news tl : List (Addr × Obj)} (h : Apart news tl) (hm : (a, o) ∈ news) : ∀ p ∈ tl, p.1 ≠ a := fun p hp => h _ hm p hp
theorem Apart.tail {l tl : List (Addr × Obj)} {q : Addr × Obj} (h : Apart l (q :: tl)) : Apart l tl := fun a ha p hp => h a ha p (List.mem_cons_of_mem _ hp)
theorem Apart.head {l tl : List (Addr × Obj)} {a : Addr} {o : Obj} (h : Apart l ((a, o) :: tl)) : ∀ q ∈ l, q.1 ≠ a := fun q hq => (h q hq (a, o) (List.mem_cons_self ..)).symm
example : (PySem.Challenge.rw_pb0456_01 = PySem.Challenge.rw_pb0456_01) ∧ (mk.heap_1 = mk.heap_1) := by k_fill; exact ⟨rfl, rfl⟩
theorem nc_90 {w : World} : NoCls (mk.heap_1 w.params) 90 := by constructor <;> k_is
theorem nc_116 {w : World} : NoCls (mk.heap_1 w.params) 116 := by constructor <;> k_is
theorem nc_168 {w : World} : NoCls (mk.heap_1 w.params) 168 := by constructor <;> k_is
theorem nc_194 {w : World} : NoCls (mk.heap_1 w.params) 194 := by constructor <;> k_is
theorem nc_220 {w : World} : NoCls (mk.heap_1 w.params) 220 := by constructor <;> k_is
theorem nc_374 {w : World} : NoCls (mk.heap_1 w.params) 374 := by constructor <;> k_is
theorem nc_400 {w : World} : NoCls (mk.heap_1 w.params) 400 := by constructor <;> k_is
theorem nc_426 {w : World} : NoCls (mk.heap_1 w.params) 426 := by constructor <;> k_is
example : True := by
  (k_with "L1" => ((refine' Cx.mk ?k1z1 ?k2z1 ?k3z1 ?k4z1 ?k5z1 ?k6z1 ?k7z1; (case k1z1 => k_asm); (case k2z1 => k_asm); (case k3z1 => k_asm); (case k4z1 => k_asm); (case k5z1 => first | exact rfl | assumption); (case k6z1 => exact Nat.le_of_ble_eq_true rfl); (case k7z1 => exact Nat.le_of_ble_eq_true rfl))))
  trivial
local macro_rules | `(tactic| ktn_no "Mine.cx") => `(tactic| k_extra "L1")
example : True := by
  (k_with "L2" => (first | k_asm | exact rot1 (by k_asm) | exact rot2 (by k_asm) | exact rot3 (by k_asm) | exact rot4 (by k_asm) | exact rot5 (by k_asm) | exact rot6 (by k_asm) | exact rot7 (by k_asm)))
  trivial
local macro_rules | `(tactic| ktn_no "Mine.src") => `(tactic| k_extra "L2")
example : True := by
  (k_with "L3" => (((try dsimp only); (first | (with_reducible show wpAny _ _ _ (KAsg _ _ _ _ _ _ _) _ _) | (with_reducible show wpAny _ _ _ (KRet _) _ _) | (with_reducible show wpAny _ _ _ (KExecs _ _ _ _ _ _) _ _) | (try k_fold)))))
  trivial
local macro_rules | `(tactic| ktn_no "Mine.aft") => `(tactic| k_extra "L3")
local macro_rules | `(tactic| ktn_no "Mine.sub") => `(tactic| first
  | with_reducible exact fun _ h => h
  | with_reducible exact List.forall_mem_nil _
  | (with_reducible refine' sub_cons ?sua ?sub; (case sua => k_mem); (case sub => ktn_no "Mine.sub"))
  | (with_reducible refine' sub_app ?sua ?sub; (case sua => ktn_no "Mine.sub"); (case sub => ktn_no "Mine.sub"))
  | (intro p9 hp9; k_mem))
local macro_rules | `(tactic| ktn_no "Mine.N") => `(tactic| first | k_asm | (refine' cb_drop ?cbN ?cbS; (case cbN => assumption); (case cbS => ktn_no "Mine.sub")))
local macro_rules | `(tactic| ktn_no "Mine.side") => `(tactic| (refine' SideIn.mono ?sm1 ?sm2; (case sm1 => assumption); (case sm2 => ktn_no "Mine.sub")))
local macro_rules | `(tactic| ktn_no "Mine.rel") => `(tactic| first
  | k_asm
  | (refine' SideIn.mono ?sm1 ?sm2; (case sm1 => assumption); (case sm2 => ktn_no "Mine.sub"))
  | (refine' ColsIn.mono ?sm1 ?sm2; (case sm1 => assumption); (case sm2 => ktn_no "Mine.sub")))
local macro_rules | `(tactic| ktn_no "Mine.apart") => `(tactic| first
  | with_reducible assumption
  | with_reducible exact Apart.nil
  | (with_reducible refine' Apart.cons ?ap1 ?ap2; (case ap1 => k_all); (case ap2 => ktn_no "Mine.apart"))
  | (with_reducible refine' Apart.app ?ap1 ?ap2; (case ap1 => ktn_no "Mine.apart"); (case ap2 => ktn_no "Mine.apart"))
  | (refine' Apart.sub ?ap1 ?ap2; (case ap1 => with_reducible assumption); (case ap2 => ktn_no "Mine.sub"))
  | (refine' Apart.sub ?ap1 ?ap2; (case ap1 => exact Apart.tail (by with_reducible assumption)); (case ap2 => ktn_no "Mine.sub")))
example : True := by
  (k_with "L4" => (first | exact List.forall_mem_nil _ | (refine List.forall_mem_cons.mpr (And.intro (by exact ⟨_, _, rfl, by k_mem⟩) ?_); ktn_no "Mine.strs")))
  trivial
local macro_rules | `(tactic| ktn_no "Mine.strs") => `(tactic| k_extra "L4")
example : True := by
  (k_with "L5" => (((rename Membership.mem (γ := List Value) _ _ => hv9); (first | (have hs9 := strOf_mem (l := AFFS) hv9 (by ktn_no "Mine.strs")) | (have hs9 := strOf_mem (l := COLLS) hv9 (by ktn_no "Mine.strs")) | (have hs9 := strOf_mem (l := NAMES) hv9 (by ktn_no "Mine.strs")) | (have hs9 := strOf_mem (l := TYPES) hv9 (by ktn_no "Mine.strs")) | (have hs9 := strOf_mem (l := OPS) hv9 (by ktn_no "Mine.strs")) | (have hs9 := strOf_mem (l := TEXTS) hv9 (by ktn_no "Mine.strs"))); obtain ⟨x', t', e', hx'⟩ := hs9; subst e'; clear hv9)))
  trivial
local macro_rules | `(tactic| ktn_no "Mine.str") => `(tactic| k_extra "L5")
example : True := by
  (k_with "L6" => (first | assumption | (apply And.right; first | assumption | (apply And.right; first | assumption | (apply And.right; first | assumption | (apply And.right; first | assumption | (apply And.right; first | assumption | (apply And.right; first | assumption | (apply And.right; first | assumption | (apply And.right; first | assumption | (apply And.right; first | assumption | (apply And.right; first | assumption | (apply And.right; first | assumption | (apply And.right; first | assumption | (apply And.right; first | assumption | (apply And.right; first | assumption))))))))))))))))
  trivial
local macro_rules | `(tactic| ktn_no "Mine.lt") => `(tactic| k_extra "L6")
example : True := by
  (k_with "L7" => (with_reducible first | assumption | (apply And.left; first | assumption | (apply And.right; first | assumption | (apply And.right; first | assumption | (apply And.right; first | assumption | (apply And.right; first | assumption | (apply And.right; first | assumption | (apply And.right; first | assumption | (apply And.right; first | assumption | (apply And.right; first | assumption | (apply And.right; first | assumption | (apply And.right; first | assumption | (apply And.right; first | assumption | (apply And.right; first | assumption | (apply And.right; first | assumption | (apply And.right; first | assumption)))))))))))))))))
  trivial
local macro_rules | `(tactic| ktn_no "Mine.ltm") => `(tactic| k_extra "L7")
local macro_rules | `(tactic| k_room) => `(tactic| exact Nat.le_of_ble_eq_true rfl)
local macro_rules | `(tactic| ktr_room) => `(tactic| exact Nat.le_of_ble_eq_true rfl)
example : True := by
  (k_with "L8" => (first | (refine' codeM ?kAz8 ?kFz8 ?kKz8 ?k1z8 ?k2z8 ?k3z8 ?k4z8 ?k5z8 ?k6z8 ?k7z8 ?k8z8 ?k9z8 ?kBz8 ?c2z8 ?_; (case kAz8 => exact rfl); (case kFz8 => exact rfl); (case kKz8 => first | exact rfl | assumption); (case k1z8 => k_asm); (case k2z8 => k_asm); (case k3z8 => k_asm); (case k4z8 => k_asm); (case k5z8 => k_asm); (case k6z8 => k_is); (case k7z8 => k_is); (case k8z8 => exact Nat.le_of_ble_eq_true rfl); (case k9z8 => first | exact bnd2 rfl | exact bnd3 rfl | exact bnd4 rfl | exact bnd1 rfl | exact bnd5 rfl | exact bnd6 rfl); (case kBz8 => kernel_rfl!); (case c2z8 => kernel_rfl!); k_whole; intro g' L' h' t' FG' F' N' B' X' T' e9 A9 qk ek; (try k_lift B')) | fail "k_enter: cells"))
  trivial
local macro_rules | `(tactic| k_enter) => `(tactic| k_extra "L8")
example : True := by
  (k_with "L9" => ((refine neN ?_; (try dsimp only); first | with_reducible assumption | (with_reducible refine' Nat.ne_of_lt ?nlz9; (case nlz9 => ktn_no "Mine.ltm")) | (with_reducible refine' Nat.ne_of_gt ?nlz9; (case nlz9 => ktn_no "Mine.ltm")))))
  trivial
local macro_rules | `(tactic| k_ne) => `(tactic| k_extra "L9")
example : True := by
  (k_with "L10" => (first | with_reducible exact List.mem_cons_self | with_reducible assumption | (with_reducible refine List.mem_cons_of_mem _ ?_; k_mem) | (with_reducible refine List.mem_append_left _ ?_; k_mem) | (with_reducible refine List.mem_append_right _ ?_; k_mem) | exact List.mem_cons_self | assumption))
  trivial
local macro_rules | `(tactic| k_mem) => `(tactic| k_extra "L10")
example : True := by
  (k_with "L11" => (first | with_reducible assumption | with_reducible exact List.forall_mem_nil _ | (with_reducible refine' all_cons ?kaz11 ?kbz11; (case kaz11 => k_ne); (case kbz11 => k_all)) | (with_reducible refine' all_app ?kaz11 ?kbz11; (case kaz11 => k_all); (case kbz11 => k_all)) | (refine' ne_sub ?naz11 ?nbz11; (case naz11 => first | with_reducible exact ne_ltP (by assumption) | with_reducible exact ne_allLt (by ktn_no "Mine.lt") | with_reducible exact ne_off1 (by assumption) | with_reducible exact ne_ltP_lt (by assumption) (by assumption) | with_reducible exact ne_allLt_lt (by assumption) (by ktn_no "Mine.lt") | with_reducible exact ne_ltS (by assumption) | with_reducible assumption | with_reducible exact Apart.head (by with_reducible assumption)); (case nbz11 => ktn_no "Mine.sub"))))
  trivial
local macro_rules | `(tactic| k_all) => `(tactic| k_extra "L11")
example : True := by
  (k_with "L12" => (first | with_reducible assumption | (refine' Frag.In.keeps ?kiXz12 (Fr.keep ?kiFz12); (case kiFz12 => with_reducible assumption); (case kiXz12 => with_reducible assumption))))
  trivial
local macro_rules | `(tactic| k_in) => `(tactic| k_extra "L12")
example : True := by
  (k_with "L13" => (first | with_reducible exact List.mem_cons_self | with_reducible assumption | (with_reducible refine List.mem_cons_of_mem _ ?_; ktn_no "Mine.memR") | (with_reducible refine List.mem_append_left _ ?_; ktn_no "Mine.memR") | (with_reducible refine List.mem_append_right _ ?_; ktn_no "Mine.memR")))
  trivial
local macro_rules | `(tactic| ktn_no "Mine.memR") => `(tactic| k_extra "L13")
example : True := by
  (k_with "L14" => (((with_reducible show wpAny _ _ (subscriptTail _ _ (Value.ref _) (Value.int _ _)) _ _ _); k_dflt (first | (refine' tup_at8 ?z1z14 ?z2z14 ?z3z14 ?z4z14 ?z5z14 ?_; (case z1z14 => k_asm); (case z2z14 => ktn_no "Mine.memR"); (case z3z14 => decide); (case z4z14 => decide); (case z5z14 => rfl)) | (refine' itm_at8 ?z1z14 ?z2z14 ?z3z14 ?z4z14 ?z5z14 ?_; (case z1z14 => k_asm); (case z2z14 => ktn_no "Mine.memR"); (case z3z14 => decide); (case z4z14 => decide); (case z5z14 => rfl))))))
  trivial
local macro_rules | `(tactic| ktn_no "Mine.item8") => `(tactic| k_extra "L14")
example : True := by
  (k_with "L15" => (ktn_no "Mine.item8"))
  trivial
local macro_rules | `(tactic| walk_at "subscriptTail Name Constant ref int") => `(tactic| k_extra "L15")
example : True := by
  (k_with "L16" => (ktn_no "Mine.item8"))
  trivial
local macro_rules | `(tactic| walk_at "subscriptTail Subscript Constant ref int") => `(tactic| k_extra "L16")
example : True := by
  (k_with "L17" => (ktn_no "Mine.item8"))
  trivial
local macro_rules | `(tactic| walk_at "subscriptTail Name Name ref int") => `(tactic| k_extra "L17")
example : True := by
  (k_with "L18" => (ktn_no "Mine.item8"))
  trivial
local macro_rules | `(tactic| walk_at "subscriptTail Name Subscript ref int") => `(tactic| k_extra "L18")
example : True := by
  (k_with "L19" => (ktn_no "Mine.item8"))
  trivial
local macro_rules | `(tactic| walk_at "subscriptTail Subscript Subscript ref int") => `(tactic| k_extra "L19")
example : True := by
  (k_with "L20" => (((with_reducible show wpAny _ _ (call _ [Value.ref _, Value.ref _]) _ _ _); k_dflt (first | (refine' kin_callC ?k1z20 ?k2z20 ?k3z20 ?k4z20 ?k5z20 ?k6z20 ?k7z20 ?k8z20 ?k9z20 ?_; (case k1z20 => k_in); (case k2z20 => k_inst); (case k3z20 => kin_no); (case k4z20 => k_is); (case k5z20 => k_is); (case k6z20 => k_is); (case k7z20 => k_is); (case k8z20 => k_is); (case k9z20 => k_is); k_whole) | (refine' isi_call ?k1z20 ?k2z20 ?k3z20 ?k4z20 ?_; (case k1z20 => k_in); (case k2z20 => k_types); (case k3z20 => k_is); (case k4z20 => intro e; cases e); k_whole)))))
  trivial
local macro_rules | `(tactic| walk_at "call builtin:isinstance") => `(tactic| k_extra "L20")
example : True := by
  (k_with "L21" => (((fail_if_success (with_reducible show wpAny _ _ (eval (Expr.Name _ _) (compEnvC _ _ _ _)) _ _ _)); (with_reducible refine' ev_use ?c1z21 ?_; (case c1z21 => k_dflt ktn_no "Mine.ev")); k_whole)))
  trivial
local macro_rules | `(tactic| walk_at "eval Name") => `(tactic| k_extra "L21")
example : True := by
  (k_with "L22" => ((k_closed; first | (with_reducible refine' ite_pos ?tcz22 ?_; (case tcz22 => decide +kernel)) | (with_reducible refine' ite_neg ?tcz22 ?_; (case tcz22 => decide +kernel)))))
  trivial
local macro_rules | `(tactic| walk_at "ite") => `(tactic| k_extra "L22")
example : True := by
  (k_with "L23" => (first | k_gentoks | with_reducible refine wpAny_execs_nil ?_))
  trivial
local macro_rules | `(tactic| walk_at "execs nil") => `(tactic| k_extra "L23")
example : True := by
  (k_with "L24" => (first | k_gentoks | ((with_reducible refine execs_consK ?_); try dsimp only)))
  trivial
local macro_rules | `(tactic| walk_at "execs cons") => `(tactic| k_extra "L24")
local macro_rules | `(tactic| ktn_no "Mine.ev") => `(tactic| first
  | (refine' Ev.loc ?e1 ?e2 ?e3; (case e1 => kernel_rfl!); (case e2 => k_asm); (case e3 => rfl))
  | with_reducible exact Ev.cint
  | with_reducible exact Ev.cstr
  | with_reducible exact Ev.cnone
  | (refine' Ev.glob ?e1 ?e2 ?e3 ?e4 ?e5; (case e3 => k_asm); (case e4 => k_asm); (case e5 => k_asm); (case e1 => k_is); (case e2 => kernel_rfl!))
  | (refine' Ev.bi ?e1 ?e6 ?e7 ?e2 ?e3 ?e4 ?e5; (case e3 => k_asm); (case e4 => k_asm); (case e5 => k_asm); (case e1 => k_is); (case e2 => kernel_rfl!); (case e6 => boot_fast); (case e7 => kernel_rfl!))
  | (refine' Ev.tup ?e1 ?e2 ?e3 ?e4 ?e5 ?e6; (case e1 => ktn_no "Mine.ev"); (case e2 => k_asm); (case e3 => ktn_no "Mine.memR"); (case e4 => decide); (case e5 => decide); (case e6 => rfl))
  | (refine' Ev.lst ?e1 ?e2 ?e3 ?e4 ?e5 ?e6; (case e1 => ktn_no "Mine.ev"); (case e2 => k_asm); (case e3 => ktn_no "Mine.memR"); (case e4 => decide); (case e5 => decide); (case e6 => rfl))
  | (refine' Ev.atr ?e1 ?e2 ?e3 ?e4 ?e5 ?e6 ?e7 ?e8 ?e9 ?e0; (case e1 => ktn_no "Mine.ev"); (case e2 => k_asm); (case e3 => k_asm); (case e4 => k_inst); (case e5 => k_is); (case e6 => k_is); (case e7 => k_is); (case e8 => k_is); (case e9 => k_get); (case e0 => k_handed)))
local macro_rules | `(tactic| ktn_no "Mine.evl") => `(tactic| first
  | with_reducible exact EvL.nil
  | (with_reducible refine' EvL.cons ?l1 ?l2; (case l1 => k_dflt ktn_no "Mine.ev"); (case l2 => ktn_no "Mine.evl")))
example : True := by
  (k_with "L25" => (((fail_if_success (have _ : id True := trivial)); (with_reducible refine' ev_call ?c1z25 ?c2z25 ?c3z25 ?c4z25 ?c5z25 ?_; (case c1z25 => k_dflt ktn_no "Mine.ev"); (case c2z25 => k_dflt ktn_no "Mine.ev"); (case c3z25 => ktn_no "Mine.evl"); (case c4z25 => k_in); (case c5z25 => k_dflt (first | exact CK.b | (refine CK.k ?_; k_is)))); k_whole)))
  trivial
local macro_rules | `(tactic| walk_at "eval Call Name") => `(tactic| k_extra "L25")
example : True := by
  (k_with "L26" => (((fail_if_success (have _ : id True := trivial)); (with_reducible refine' ev_use ?c1z26 ?_; (case c1z26 => k_dflt ktn_no "Mine.ev")); k_whole; (try dsimp only))))
  trivial
local macro_rules | `(tactic| walk_at "eval Subscript") => `(tactic| k_extra "L26")
example : True := by
  (k_with "L27" => (((fail_if_success (have _ : id True := trivial)); (with_reducible refine' ev_use ?c1z27 ?_; (case c1z27 => k_dflt ktn_no "Mine.ev")); k_whole; (try dsimp only))))
  trivial
local macro_rules | `(tactic| walk_at "eval Attribute Name") => `(tactic| k_extra "L27")
example : True := by
  (k_with "L28" => (first | (refine' IsI.no ?n1z28 ?n2z28 ?n3z28 ?n4z28; (case n1z28 => k_in); (case n2z28 => k_inst); (case n3z28 => kin_no); (case n4z28 => first | exact nc_90 | exact nc_116 | exact nc_168 | exact nc_194 | exact nc_220 | exact nc_374 | exact nc_400 | exact nc_426)) | (refine' IsI.yes ?n1z28 ?n2z28 ?n3z28; (case n1z28 => k_in); (case n2z28 => k_inst); (case n3z28 => k_is))))
  trivial
local macro_rules | `(tactic| ktn_no "Mine.isi") => `(tactic| k_extra "L28")
local macro_rules | `(tactic| ktn_no "Mine.evt") => `(tactic| first
  | (with_reducible refine' EvT.eqs ?m1 ?m2 ?m3 ?m4; k_dflt ((case m1 => rfl); (case m2 => ktn_no "Mine.ev"); (case m3 => ktn_no "Mine.ev"); (case m4 => first | (refine' eqb_t ?m5; (case m5 => decide +kernel)) | (refine' eqb_f ?m5; (case m5 => decide +kernel)))))
  | (with_reducible refine' EvT.isi ?m1 ?m2 ?m3 ?m4; k_dflt ((case m1 => ktn_no "Mine.ev"); (case m2 => ktn_no "Mine.ev"); (case m3 => ktn_no "Mine.ev"); (case m4 => ktn_no "Mine.isi")))
  | (with_reducible refine' EvT.not ?m1; (case m1 => ktn_no "Mine.evt")))
example : True := by
  (k_with "L29" => (((fail_if_success (have _ : id True := trivial)); first | k_gentoks | ((with_reducible refine' if_genK ?i1z29 ?_; (case i1z29 => ktn_no "Mine.evt")); k_whole; (first | (with_reducible refine' ite_pos ?tcz29 ?_; (case tcz29 => decide +kernel)) | (with_reducible refine' ite_neg ?tcz29 ?_; (case tcz29 => decide +kernel)) | skip); (try (with_reducible refine wpAny_execs_nil (kx_next ?_)))))))
  trivial
local macro_rules | `(tactic| walk_at "execs cons If") => `(tactic| k_extra "L29")
example : True := by
  (k_with "L30" => (first | k_gentoks | with_reducible refine retK ?_))
  trivial
local macro_rules | `(tactic| walk_at "execs cons Return some") => `(tactic| k_extra "L30")
example : True := by
  (k_with "L31" => (first | k_gentoks | ((with_reducible refine' asgK ?s1z31 ?_; (case s1z31 => k_dflt rfl)); try dsimp only)))
  trivial
local macro_rules | `(tactic| walk_at "execs cons Assign") => `(tactic| k_extra "L31")
example : True := by
  (k_with "L32" => (with_reducible first | refine kx_next ?_ | refine kx_ret ?_))
  trivial
local macro_rules | `(tactic| walk_at "KExecs") => `(tactic| k_extra "L32")
example : True := by
  (k_with "L33" => (with_reducible refine kret ?_))
  trivial
local macro_rules | `(tactic| walk_at "KRet") => `(tactic| k_extra "L33")
example : True := by
  (k_with "L34" => (first | (k_dflt (refine' kasg_loc ?s1z34 ?s2z34 ?s3z34 ?_; (case s1z34 => kernel_rfl!); (case s2z34 => k_asm); (case s3z34 => k_asm); k_whole); intro h' t' F' N'; (try k_sweep)) | with_reducible refine kasg ?_))
  trivial
local macro_rules | `(tactic| walk_at "KAsg") => `(tactic| k_extra "L34")
example : True := by
  (k_with "L35" => (((fail_if_success (have _ : id True := trivial)); (with_reducible refine' evt_use ?i1z35 ?_; (case i1z35 => ktn_no "Mine.evt")); k_whole; (try dsimp only))))
  trivial
local macro_rules | `(tactic| walk_at "isTrue Call Name") => `(tactic| k_extra "L35")
example : True := by
  (k_with "L36" => (((fail_if_success (have _ : id True := trivial)); (with_reducible refine' evt_use ?i1z36 ?_; (case i1z36 => ktn_no "Mine.evt")); k_whole; (try dsimp only))))
  trivial
local macro_rules | `(tactic| walk_at "isTrue Compare") => `(tactic| k_extra "L36")
example : True := by
  (k_with "L37" => (((fail_if_success (have _ : id True := trivial)); (with_reducible refine' ev_tuple ?c1z37 ?_; (case c1z37 => ktn_no "Mine.evl")); k_whole)))
  trivial
local macro_rules | `(tactic| walk_at "eval Tuple") => `(tactic| k_extra "L37")
example : True := by
  (k_with "L38" => (((fail_if_success (have _ : id True := trivial)); (with_reducible refine' ev_list ?c1z38 ?_; (case c1z38 => ktn_no "Mine.evl")); k_whole)))
  trivial
local macro_rules | `(tactic| walk_at "eval List") => `(tactic| k_extra "L38")
local macro_rules | `(tactic| walk_at "call ref") => `(tactic| k_extra "CR")
-- A1
section
example : True := by
  (k_with "L39" => (with_unfolding_all exact mulM _ _))
  trivial
local macro_rules | `(tactic| mul_fits) => `(tactic| k_extra "L39")
theorem take_c {prog : Program} {w : World} {dp un : Nat} {gd : Option (List Code)} {cn : Str} {cs : Scope} {a : Addr} {ccd : Value} {cl : List (Str × Addr)} {outer : List Env} {A₀ : Around} {base h₀ : Heap} {L : Addr} {m : Str → Option Value} {p : Program} {loose : List Str} {mean : ExcName → Option Value} {mg mb : Str → Option Value} {hp : Heap} {gs : Array GenState} {dr : Drawn} {tk : Nat} {os : OsState} {Q E : Value → Shared → Prop} {rest : List (Addr × Obj)} {sa : Addr} {x y : Int} {tx ty : Tok} {n : Nat} {top : Int} {tt : Tok}
    (c : Cx w dp un 900 9000 cs A₀ base outer h₀ L hp m p loose mean mg mb) (N : News h₀ L hp ((sa, src x tx y ty n) :: rest)) (hne : ∀ p ∈ rest, p.1 ≠ sa) (hx : 0 ≤ x) (hy : 0 ≤ y) (ht : 0 < top) (ht2 : top < 100)
    (ret : ∀ d t x₁ tx₁ y₁ ty₁ n₁ h₁ tk₁, 0 ≤ d → d < top → 0 ≤ x₁ → 0 ≤ y₁ → Fr h₀ L h₁ m → News h₀ L h₁ ((sa, src x₁ tx₁ y₁ ty₁ n₁) :: rest) → Q (.int d t) ⟨h₁, gs, dr, tk₁, os⟩) :
    wpAny (model prog w) (ktrTop dp un gd cn cs L a ccd cl outer) (call (.ref 667) [.ref sa, .int top tt]) Q E ⟨hp, gs, dr, tk, os⟩ := by
  obtain ⟨B, F, X, T, hk, hdp, hun⟩ := c
  refine lowerK hdp hun ?_
  k_dflt (refine' enterM (binds := [(Str.ofString "source", _), (Str.ofString "top", _)]) ?k0 ?k1 ?k2 ?k3 ?k4 ?k5 ?kA ?kF ?kK ?k6 ?k7 ?k8 ?k9 ?kB ?c2 ?_; (case k0 => exact rfl); (case kA => exact rfl); (case kF => exact rfl); (case kK => assumption); (case k1 => k_asm); (case k2 => k_asm); (case k3 => k_asm); (case k4 => k_asm); (case k5 => k_asm); (case k6 => k_is); (case k7 => k_is); (case k8 => exact Nat.le_of_ble_eq_true rfl); (case k9 => kernel_rfl!); (case kB => kernel_rfl!); (case c2 => kernel_rfl!); k_whole; intro g' L' h' t' FG' F' N' B' X' T' e9 A9 qk ek)
  k_steps
  · exact ret _ _ _ _ _ _ _ _ _ (fmod_lo ht) (fmod_hi ht) (fdiv_lo hx ht) hy (by k_asm) (by k_asm)
  · exact ret _ _ _ _ _ _ _ _ _ (fmod_lo ht) (fmod_hi ht) hx (fm_lo _) (by k_asm) (by k_asm)
end
example : True := by
  (k_with "CR" => (((with_reducible show wpAny _ _ (call (Value.ref 667) _) _ _ _); k_dflt (refine' take_c ?cz40 ?Nz40 ?p0z40 ?p1z40 ?p2z40 ?p3z40 ?p4z40 ?_; (case cz40 => ktn_no "Mine.cx"); (case Nz40 => ktn_no "Mine.src"); (case p0z40 => k_all); (case p1z40 => assumption); (case p2z40 => assumption); (case p3z40 => first | omega | assumption); (case p4z40 => first | omega | assumption); k_whole); intro d' t' x' tx' y' ty' n' h' tk' hd0 hd1 hx' hy' F' N'; (try k_sweep); ktn_no "Mine.aft")))
  trivial
section
example : True := by
  (k_with "L41" => ((refine' len_mem ?k1z41 ?k2z41 ?k3z41 ?_; (case k1z41 => k_asm); (case k2z41 => k_mem); (case k3z41 => assumption))))
  trivial
local macro_rules | `(tactic| walk_at "call builtin:len") => `(tactic| k_extra "L41")
example : True := by
  (k_with "L42" => (((with_reducible show wpAny _ _ (subscriptTail _ _ (Value.ref _) (Value.int _ _)) _ _ _); refine' item_mem ?k1z42 ?k2z42 ?k3z42 ?k4z42 ?k5z42 ?_; (case k1z42 => k_asm); (case k2z42 => k_mem); (case k3z42 => assumption); (case k4z42 => assumption); (case k5z42 => assumption); intro v' hv1 hv2)))
  trivial
local macro_rules | `(tactic| walk_at "subscriptTail") => `(tactic| k_extra "L42")
theorem one_c {prog : Program} {w : World} {dp un : Nat} {gd : Option (List Code)} {cn : Str} {cs : Scope} {a : Addr} {ccd : Value} {cl : List (Str × Addr)} {outer : List Env} {A₀ : Around} {base h₀ : Heap} {L : Addr} {m : Str → Option Value} {p : Program} {loose : List Str} {mean : ExcName → Option Value} {mg mb : Str → Option Value} {hp : Heap} {gs : Array GenState} {dr : Drawn} {tk : Nat} {os : OsState} {Q E : Value → Shared → Prop} {rest : List (Addr × Obj)} {sa : Addr} {x y : Int} {tx ty : Tok} {n : Nat} {la : Addr} {ln : Nat} {vs : List Value}
    (c : Cx w dp un 885 8920 cs A₀ base outer h₀ L hp m p loose mean mg mb) (N : News h₀ L hp ((sa, src x tx y ty n) :: rest)) (hne : ∀ p ∈ rest, p.1 ≠ sa) (hx : 0 ≤ x) (hy : 0 ≤ y) (hl : (la, listOf vs.toArray ln) ∈ rest) (hv : 0 < vs.length) (hv2 : vs.length < 100)
    (ret : ∀ v x₁ tx₁ y₁ ty₁ n₁ h₁ tk₁, v ∈ vs → 0 ≤ x₁ → 0 ≤ y₁ → Fr h₀ L h₁ m → News h₀ L h₁ ((sa, src x₁ tx₁ y₁ ty₁ n₁) :: rest) → Q v ⟨h₁, gs, dr, tk₁, os⟩) :
    wpAny (model prog w) (ktrTop dp un gd cn cs L a ccd cl outer) (call (.ref 674) [.ref sa, .ref la]) Q E ⟨hp, gs, dr, tk, os⟩ := by
  obtain ⟨B, F, X, T, hk, hdp, hun⟩ := c
  refine lowerK hdp hun ?_
  k_dflt (refine' enterM (binds := [(Str.ofString "source", _), (Str.ofString "things", _)]) ?k0 ?k1 ?k2 ?k3 ?k4 ?k5 ?kA ?kF ?kK ?k6 ?k7 ?k8 ?k9 ?kB ?c2 ?_; (case k0 => exact rfl); (case kA => exact rfl); (case kF => exact rfl); (case kK => assumption); (case k1 => k_asm); (case k2 => k_asm); (case k3 => k_asm); (case k4 => k_asm); (case k5 => k_asm); (case k6 => k_is); (case k7 => k_is); (case k8 => exact Nat.le_of_ble_eq_true rfl); (case k9 => kernel_rfl!); (case kB => kernel_rfl!); (case c2 => kernel_rfl!); k_whole; intro g' L' h' t' FG' F' N' B' X' T' e9 A9 qk ek)
  k_steps
  (refine' ret _ _ _ _ _ _ _ _ ?e1_0 ?e1_1 ?e1_2 ?eF1 ?eN1; (case eN1 => ktn_no "Mine.N"); (case eF1 => k_asm); all_goals first | assumption | omega)
end
example : True := by
  (k_with "CR" => (((with_reducible show wpAny _ _ (call (Value.ref 674) _) _ _ _); k_dflt (refine' one_c ?cz43 ?Nz43 ?p0z43 ?p1z43 ?p2z43 ?p3z43 ?p4z43 ?p5z43 ?_; (case cz43 => ktn_no "Mine.cx"); (case Nz43 => ktn_no "Mine.src"); (case p0z43 => k_all); (case p1z43 => assumption); (case p2z43 => assumption); (case p3z43 => k_mem); (case p4z43 => exact Nat.le_of_ble_eq_true rfl); (case p5z43 => exact Nat.le_of_ble_eq_true rfl); k_whole); intro v' x' tx' y' ty' n' h' tk' hv' hx' hy' F' N'; (try k_sweep); (try ktn_no "Mine.str"); ktn_no "Mine.aft")))
  trivial
-- A1
theorem oned_c {prog : Program} {w : World} {dp un : Nat} {gd : Option (List Code)} {cn : Str} {cs : Scope} {a : Addr} {ccd : Value} {cl : List (Str × Addr)} {outer : List Env} {A₀ : Around} {base h₀ : Heap} {L : Addr} {m : Str → Option Value} {p : Program} {loose : List Str} {mean : ExcName → Option Value} {mg mb : Str → Option Value} {hp : Heap} {gs : Array GenState} {dr : Drawn} {tk : Nat} {os : OsState} {Q E : Value → Shared → Prop} {rest : List (Addr × Obj)} {sa : Addr} {x y : Int} {tx ty : Tok} {n : Nat} {la : Addr} {ln : Nat} {vs : List Value}
    (c : Cx w dp un 885 8920 cs A₀ base outer h₀ L hp m p loose mean mg mb) (N : News h₀ L hp ((sa, src x tx y ty n) :: (la, listOf vs.toArray ln) :: rest)) (hne : ∀ p ∈ rest, p.1 ≠ sa) (hla : @Ne Nat la sa) (hx : 0 ≤ x) (hy : 0 ≤ y) (hv : 0 < vs.length) (hv2 : vs.length < 100)
    (ret : ∀ v x₁ tx₁ y₁ ty₁ n₁ h₁ tk₁, v ∈ vs → 0 ≤ x₁ → 0 ≤ y₁ → Fr h₀ L h₁ m → News h₀ L h₁ ((sa, src x₁ tx₁ y₁ ty₁ n₁) :: rest) → Q v ⟨h₁, gs, dr, tk₁, os⟩) :
    wpAny (model prog w) (ktrTop dp un gd cn cs L a ccd cl outer) (call (.ref 674) [.ref sa, .ref la]) Q E ⟨hp, gs, dr, tk, os⟩ := by
  obtain ⟨B, F, X, T, hk, hdp, hun⟩ := c
  refine lowerK hdp hun ?_
  exact one_c ⟨B, F, X, T, hk, by decide, by decide⟩ N (fun p hp => (List.mem_cons.mp hp).elim (fun e => e ▸ hla) (hne p)) hx hy (List.mem_cons_self ..) hv hv2
    (fun v x1 tx1 y1 ty1 n1 h1 tk1 hv hx hy F N => ret v x1 tx1 y1 ty1 n1 h1 tk1 hv hx hy F (cb_drop N (fun p hp => (List.mem_cons.mp hp).elim (fun e => e ▸ List.mem_cons_self ..) (fun e => List.mem_cons_of_mem _ (List.mem_cons_of_mem _ e)))))
example : True := by
  (k_with "CR" => (((with_reducible show wpAny _ _ (call (Value.ref 674) _) _ _ _); k_dflt (refine' oned_c ?cz44 ?Nz44 ?p0z44 ?p1z44 ?p2z44 ?p3z44 ?p4z44 ?p5z44 ?_; (case cz44 => ktn_no "Mine.cx"); (case Nz44 => ktn_no "Mine.src"); (case p0z44 => k_all); (case p1z44 => k_ne); (case p2z44 => assumption); (case p3z44 => assumption); (case p4z44 => exact Nat.le_of_ble_eq_true rfl); (case p5z44 => exact Nat.le_of_ble_eq_true rfl); k_whole); intro v' x' tx' y' ty' n' h' tk' hv' hx' hy' F' N'; (try k_sweep); (try ktn_no "Mine.str"); ktn_no "Mine.aft")))
  trivial
-- A2
theorem value_c {prog : Program} {w : World} {dp un : Nat} {gd : Option (List Code)} {cn : Str} {cs : Scope} {a : Addr} {ccd : Value} {cl : List (Str × Addr)} {outer : List Env} {A₀ : Around} {base h₀ : Heap} {L : Addr} {m : Str → Option Value} {p : Program} {loose : List Str} {mean : ExcName → Option Value} {mg mb : Str → Option Value} {hp : Heap} {gs : Array GenState} {dr : Drawn} {tk : Nat} {os : OsState} {Q E : Value → Shared → Prop} {rest : List (Addr × Obj)} {sa : Addr} {x y : Int} {tx ty : Tok} {n : Nat}
    (c : Cx w dp un 870 8840 cs A₀ base outer h₀ L hp m p loose mean mg mb) (N : News h₀ L hp ((sa, src x tx y ty n) :: rest)) (hne : ∀ p ∈ rest, p.1 ≠ sa) (hx : 0 ≤ x) (hy : 0 ≤ y)
    (ret : ∀ v lv x₁ tx₁ y₁ ty₁ n₁ h₁ tk₁, LVal v lv → 0 ≤ x₁ → 0 ≤ y₁ → Fr h₀ L h₁ m → News h₀ L h₁ ((sa, src x₁ tx₁ y₁ ty₁ n₁) :: rest) → Q v ⟨h₁, gs, dr, tk₁, os⟩) :
    wpAny (model prog w) (ktrTop dp un gd cn cs L a ccd cl outer) (call (.ref 688) [.ref sa]) Q E ⟨hp, gs, dr, tk, os⟩ := by
  obtain ⟨B, F, X, T, hk, hdp, hun⟩ := c
  refine lowerK hdp hun ?_
  k_dflt (refine' enterM (binds := [(Str.ofString "source", _)]) ?k0 ?k1 ?k2 ?k3 ?k4 ?k5 ?kA ?kF ?kK ?k6 ?k7 ?k8 ?k9 ?kB ?c2 ?_; (case k0 => exact rfl); (case kA => exact rfl); (case kF => exact rfl); (case kK => assumption); (case k1 => k_asm); (case k2 => k_asm); (case k3 => k_asm); (case k4 => k_asm); (case k5 => k_asm); (case k6 => k_is); (case k7 => k_is); (case k8 => exact Nat.le_of_ble_eq_true rfl); (case k9 => kernel_rfl!); (case kB => kernel_rfl!); (case c2 => kernel_rfl!); k_whole; intro g' L' h' t' FG' F' N' B' X' T' e9 A9 qk ek)
  k_steps
  · (refine' ret _ _ _ _ _ _ _ _ _ ?e2_0 ?e2_1 ?e2_2 ?eF2 ?eN2; (case eN2 => ktn_no "Mine.N"); (case eF2 => k_asm); (case e2_0 => exact LVal.none); all_goals first | assumption | omega)
  · (refine' ret _ _ _ _ _ _ _ _ _ ?e3_0 ?e3_1 ?e3_2 ?eF3 ?eN3; (case eN3 => ktn_no "Mine.N"); (case eF3 => k_asm); (case e3_0 => exact LVal.int _ _); all_goals first | assumption | omega)
  · (refine' ret _ _ _ _ _ _ _ _ _ ?e4_0 ?e4_1 ?e4_2 ?eF4 ?eN4; (case eN4 => ktn_no "Mine.N"); (case eF4 => k_asm); (case e4_0 => exact LVal.str _ _ (by assumption)); all_goals first | assumption | omega)
example : True := by
  (k_with "CR" => (((with_reducible show wpAny _ _ (call (Value.ref 688) _) _ _ _); k_dflt (refine' value_c ?cz45 ?Nz45 ?p0z45 ?p1z45 ?p2z45 ?_; (case cz45 => ktn_no "Mine.cx"); (case Nz45 => ktn_no "Mine.src"); (case p0z45 => k_all); (case p1z45 => assumption); (case p2z45 => assumption); k_whole); intro v' lv' x' tx' y' ty' n' h' tk' hv' hx' hy' F' N'; (try k_sweep); ktn_no "Mine.aft")))
  trivial
-- B2
theorem b2_idle : True := True.intro
-- B1
noncomputable def updO (m : Str → Option Value) (x : Str) (sv : Option Value) : Str → Option Value := fun y => if y = x then sv else m y
theorem updO_none {m : Str → Option Value} {x : Str} (h : m x = none) : m = updO m x none := by funext y; unfold updO; split <;> simp_all
theorem updO_set {m : Str → Option Value} {x : Str} {sv : Option Value} {v : Value} : (fun y => if y = x then some v else updO m x sv y) = updO m x (some v) := by funext y; unfold updO; split <;> rfl
/-- the pairs that the loop has made -/
inductive Pairs : List (Addr × Obj) → List Value → List (Str × Str) → Prop
  | nil : Pairs [] [] []
  | snoc {ps : List (Addr × Obj)} {vs : List Value} {cs : List (Str × Str)} {l : Addr} {a c : Str} {ta tc : Tok} {n : Nat} : Pairs ps vs cs → a ∈ AFFS → c ∈ COLLS → Pairs ((l, listOf [.str a ta, .str c tc].toArray n) :: ps) (vs ++ [.ref l]) (cs ++ [(a, c)])
theorem Pairs.len {ps : List (Addr × Obj)} {vs : List Value} {cs : List (Str × Str)} (h : Pairs ps vs cs) : vs.length = cs.length := by
  induction h with
  | nil => rfl
  | snoc _ _ _ ih => simp only [List.length_append, ih, List.length_cons, List.length_nil]
theorem Pairs.last {ps : List (Addr × Obj)} {vs : List Value} {cs : List (Str × Str)} {k : Nat} (h : Pairs ps vs cs) (e : cs.length = k + 1) : ∃ ps' vs' cs' l a c ta tc n, ps = (l, listOf [.str a ta, .str c tc].toArray n) :: ps' ∧ vs = vs' ++ [.ref l] ∧ cs'.length = k ∧ Pairs ps' vs' cs' ∧ a ∈ AFFS ∧ c ∈ COLLS := by
  cases h with
  | nil => cases e
  | snoc h ha hc =>
    rw [List.length_append] at e
    exact ⟨_, _, _, _, _, _, _, _, _, rfl, rfl, Nat.succ.inj e, h, ha, hc⟩
structure ColJ (sa fa I : Addr) (rest : List (Addr × Obj)) (m₀ : Str → Option Value) (x : Str) (i : Nat) (m : Str → Option Value) (news ps : List (Addr × Obj)) (va : Array Value) (cs : List (Str × Str)) (xx : Int) (tx : Tok) (y : Int) (ty : Tok) (nn fn : Nat) (sv : Option Value) : Prop where
  e : news = (fa, listOf va fn) :: (sa, src xx tx y ty nn) :: (ps ++ rest)
  p : Pairs ps va.toList cs
  l : cs.length = i
  hx : 0 ≤ xx
  hy : 0 ≤ y
  hs : ∀ p ∈ ps, p.1 ≠ sa
  hf : ∀ p ∈ ps, p.1 ≠ fa
  hI : ∀ p ∈ ps, p.1 ≠ I
  ha : Apart rest ps
  hm : m = updO m₀ x sv
theorem unrC {h₀ : Heap} {L I : Addr} {it : Obj} {rest : (Str → Option Value) → List (Addr × Obj) → Prop} {s₁ : Shared} {h' : Heap} {tk : Nat} {m' : Str → Option Value} {p1 p2 p3 : Addr × Obj} {r : List (Addr × Obj)} (F : Fr h₀ L h' m')
    (N : News h₀ L h' (p1 :: p2 :: (I, it) :: p3 :: r)) (off : ∀ p ∈ p3 :: p2 :: p1 :: r, p.1 ≠ I) (k : rest m' (p3 :: p2 :: p1 :: r)) : UnrEnd h₀ L s₁ I it rest { s₁ with heap := h', toks := tk } :=
  UnrEnd.intro F N (p3 :: p2 :: p1 :: r) (by ktn_no "Mine.sub") off k
theorem colJ_start {sa fa I : Addr} {rest : List (Addr × Obj)} {m₀ : Str → Option Value} {x : Str} {xx : Int} {tx : Tok} {y : Int} {ty : Tok} {nn fn : Nat} (hx : 0 ≤ xx) (hy : 0 ≤ y) (hm : m₀ x = none) : ColJ sa fa I rest m₀ x 0 m₀ ((fa, listOf #[] fn) :: (sa, src xx tx y ty nn) :: rest) [] #[] [] xx tx y ty nn fn none :=
  ⟨rfl, Pairs.nil, rfl, hx, hy, List.forall_mem_nil _, List.forall_mem_nil _, List.forall_mem_nil _, Apart.nil, updO_none hm⟩
structure Fresh (sa : Addr) (rest : List (Addr × Obj)) (l : Addr) : Prop where
  s : @Ne Nat l sa
  r : ∀ q ∈ rest, q.1 ≠ l
theorem Fresh.of {sa l : Addr} {rest ps : List (Addr × Obj)} {o : Obj} (hs : ∀ p ∈ (l, o) :: ps, p.1 ≠ sa) (ha : Apart rest ((l, o) :: ps)) : Fresh sa rest l := ⟨hs _ (List.mem_cons_self ..), Apart.head ha⟩
section
variable {prog : Program} {w : World} {A : Around} {E : Value → Shared → Prop} {s : Shared} {env : Env} {h₀ : Heap} {x : Str} {body : List Stmt} {Q : Flow → Shared → Prop}
theorem cols_ind {I sa fa : Addr} {rest : List (Addr × Obj)} {m₀ : Str → Option Value} {a : Int} {n : Nat}
    (turn : ∀ (i : Nat) ps (va : Array Value) xx tx y ty nn fn sv t h tk it (nx : (Str → Option Value) → List (Addr × Obj) → Prop), va.size ≤ 5 → 0 ≤ xx → 0 ≤ y → (∀ p ∈ ps, p.1 ≠ sa) → (∀ p ∈ ps, p.1 ≠ fa) → (∀ p ∈ ps, p.1 ≠ I) →
      (∀ l a ta c tc n' x' tx' y' ty' n2 fn' v, a ∈ AFFS → c ∈ COLLS → 0 ≤ x' → 0 ≤ y' → @Ne Nat l sa → @Ne Nat l fa → @Ne Nat l I → (∀ q ∈ rest, q.1 ≠ l) → nx (fun z => if z = x then some v else updO m₀ x sv z) ((fa, listOf (va.push (.ref l)) fn') :: (sa, src x' tx' y' ty' n2) :: (l, listOf [.str a ta, .str c tc].toArray n') :: (ps ++ rest))) →
      Fr h₀ env.locals h (fun y => if y = x then some (.int (a + (i : Int)) t) else updO m₀ x sv y) → News h₀ env.locals h ((I, it) :: (fa, listOf va fn) :: (sa, src xx tx y ty nn) :: (ps ++ rest)) →
      wpAny (model prog w) A (execs body env) (UnrPost h₀ env.locals { s with heap := h, toks := tk } I it nx Q) E { s with heap := h, toks := tk })
    (done : ∀ l0 l1 l2 l3 l4 a0 c0 a1 c1 a2 c2 a3 c3 a4 c4 ta0 tc0 ta1 tc1 ta2 tc2 ta3 tc3 ta4 tc4 n0 n1 n2 n3 n4 xx tx y ty nn fn sv h tk, Cols.Ok ⟨a0, c0, a1, c1, a2, c2, a3, c3, a4, c4⟩ → 0 ≤ xx → 0 ≤ y → Fresh sa rest l0 → Fresh sa rest l1 → Fresh sa rest l2 → Fresh sa rest l3 → Fresh sa rest l4 →
      Fr h₀ env.locals h (updO m₀ x sv) → News h₀ env.locals h ((fa, listOf [.ref l0, .ref l1, .ref l2, .ref l3, .ref l4].toArray fn) :: (sa, src xx tx y ty nn) :: (l4, listOf [.str a4 ta4, .str c4 tc4].toArray n4) :: (l3, listOf [.str a3 ta3, .str c3 tc3].toArray n3) :: (l2, listOf [.str a2 ta2, .str c2 tc2].toArray n2) :: (l1, listOf [.str a1 ta1, .str c1 tc1].toArray n1) :: (l0, listOf [.str a0 ta0, .str c0 tc0].toArray n0) :: rest) → Q .next { s with heap := h, toks := tk }) :
    ∀ k i m news ps va cs xx tx y ty nn fn sv, i + k = 5 → ColJ sa fa I rest m₀ x i m news ps va cs xx tx y ty nn fn sv → RangeRest prog w A E h₀ env x body Q s I a n k i m news := by
  intro k
  induction k with
  | zero =>
    intro i m news ps va cs xx tx y ty nn fn sv hi J
    obtain ⟨rfl, hp, hl, hx, hy, hs, hf, hI, ha, rfl⟩ := J
    refine RangeRest.zero fun h tk F N => ?_
    have hl : cs.length = 4 + 1 := by omega
    obtain ⟨ps1, vs1, cs1, l4, a4, c4, ta4, tc4, n4, rfl, e1, h1, hp, ha4, hc4⟩ := hp.last hl
    obtain ⟨ps2, vs2, cs2, l3, a3, c3, ta3, tc3, n3, rfl, e2, h2, hp, ha3, hc3⟩ := hp.last h1
    obtain ⟨ps3, vs3, cs3, l2, a2, c2, ta2, tc2, n2, rfl, e3, h3, hp, ha2, hc2⟩ := hp.last h2
    obtain ⟨ps4, vs4, cs4, l1, a1, c1, ta1, tc1, n1, rfl, e4, h4, hp, ha1, hc1⟩ := hp.last h3
    obtain ⟨ps5, vs5, cs5, l0, a0, c0, ta0, tc0, n0, rfl, e5, h5, hp, ha0, hc0⟩ := hp.last h4
    have e6 : ps5 = [] ∧ vs5 = [] := by
      cases hp with
      | nil => exact ⟨rfl, rfl⟩
      | snoc _ _ _ => rw [List.length_append] at h5; cases h5
    obtain ⟨rfl, rfl⟩ := e6
    subst e5 e4 e3 e2
    have ev : va = [.ref l0, .ref l1, .ref l2, .ref l3, .ref l4].toArray := by rw [← Array.toArray_toList (xs := va), e1]; rfl
    subst ev
    exact done l0 l1 l2 l3 l4 a0 c0 a1 c1 a2 c2 a3 c3 a4 c4 ta0 tc0 ta1 tc1 ta2 tc2 ta3 tc3 ta4 tc4 n0 n1 n2 n3 n4 xx tx y ty nn fn sv h tk ⟨ha0, hc0, ha1, hc1, ha2, hc2, ha3, hc3, ha4, hc4⟩ hx hy
      (.of (fun p hp => hs p (.tail _ (.tail _ (.tail _ (.tail _ hp))))) ha.tail.tail.tail.tail) (.of (fun p hp => hs p (.tail _ (.tail _ (.tail _ hp)))) ha.tail.tail.tail) (.of (fun p hp => hs p (.tail _ (.tail _ hp))) ha.tail.tail) (.of (fun p hp => hs p (.tail _ hp)) ha.tail) (.of hs ha) F N
  | succ k ih =>
    intro i m news ps va cs xx tx y ty nn fn sv hi J
    obtain ⟨rfl, hp, hl, hx, hy, hs, hf, hI, ha, rfl⟩ := J
    have hz : va.size ≤ 5 := by have := hp.len; rw [Array.length_toList] at this; omega
    refine RangeRest.succ fun t h tk F N => turn i ps va xx tx y ty nn fn sv t h tk _ _ hz hx hy hs hf hI ?_ F N
    intro l a' ta c' tc n' x' tx' y' ty' n2 fn' v ha' hc' hx' hy' hls hlf hlI hlr
    exact ih (i + 1) _ _ ((l, listOf [.str a' ta, .str c' tc].toArray n') :: ps) (va.push (.ref l)) (cs ++ [(a', c')]) x' tx' y' ty' n2 fn' (some v) (by omega)
      ⟨rfl, by rw [Array.toList_push]; exact .snoc hp ha' hc', by rw [List.length_append, hl]; rfl, hx', hy', all_cons hls hs, all_cons hlf hf, all_cons hlI hI, Apart.cons hlr ha, updO_set⟩
end
-- A3
section
example : True := by
  (k_with "L46" => ((k_dflt (refine cols_ind (x := Str.ofString "turn") ?_ ?_ _ _ _ _ _ _ _ _ _ _ _ _ _ _ rfl (colJ_start (by assumption) (by assumption) rfl)); intro i' ps' va' xx' tx' y' ty' nn' fn' sv' t' h' tk' it' nx' hz' hx' hy' hs' hf' hI' hr' F' N')))
  trivial
local macro_rules | `(tactic| walk_at "RangeRest") => `(tactic| k_extra "L46")
example : True := by
  (k_with "L47" => ((refine' unrC ?Fz47 ?Nz47 ?offz47 ?_; (case Fz47 => k_asm); (case Nz47 => k_asm); (case offz47 => k_all))))
  trivial
local macro_rules | `(tactic| walk_at "UnrEnd") => `(tactic| k_extra "L47")
example : True := by
  (k_with "L48" => ((refine neN ?_; (try dsimp only); exact Fresh.s (by assumption))))
  trivial
local macro_rules | `(tactic| k_ne) => `(tactic| k_extra "L48")
example : True := by
  (k_with "L49" => (exact Fresh.r (by assumption)))
  trivial
local macro_rules | `(tactic| k_all) => `(tactic| k_extra "L49")
theorem columns_c {prog : Program} {w : World} {dp un : Nat} {gd : Option (List Code)} {cn : Str} {cs : Scope} {a : Addr} {ccd : Value} {cl : List (Str × Addr)} {outer : List Env} {A₀ : Around} {base h₀ : Heap} {L : Addr} {m : Str → Option Value} {p : Program} {loose : List Str} {mean : ExcName → Option Value} {mg mb : Str → Option Value} {hp : Heap} {gs : Array GenState} {dr : Drawn} {tk : Nat} {os : OsState} {Q E : Value → Shared → Prop} {rest : List (Addr × Obj)} {sa : Addr} {x y : Int} {tx ty : Tok} {n : Nat}
    (c : Cx w dp un 870 8840 cs A₀ base outer h₀ L hp m p loose mean mg mb) (N : News h₀ L hp ((sa, src x tx y ty n) :: rest)) (hne : ∀ p ∈ rest, p.1 ≠ sa) (hx : 0 ≤ x) (hy : 0 ≤ y)
    (ret : ∀ v k tl x₁ tx₁ y₁ ty₁ n₁ h₁ tk₁, (∀ p ∈ tl, p.1 ≠ sa) → Apart rest tl → ColsIn prog w tl v k → k.Ok → 0 ≤ x₁ → 0 ≤ y₁ → Fr h₀ L h₁ m → News h₀ L h₁ ((sa, src x₁ tx₁ y₁ ty₁ n₁) :: (tl ++ rest)) → Q v ⟨h₁, gs, dr, tk₁, os⟩) :
    wpAny (model prog w) (ktrTop dp un gd cn cs L a ccd cl outer) (call (.ref 681) [.ref sa]) Q E ⟨hp, gs, dr, tk, os⟩ := by
  obtain ⟨B, F, X, T, hk, hdp, hun⟩ := c
  refine lowerK hdp hun ?_
  k_dflt (refine' enterM (binds := [(Str.ofString "source", _)]) ?k0 ?k1 ?k2 ?k3 ?k4 ?k5 ?kA ?kF ?kK ?k6 ?k7 ?k8 ?k9 ?kB ?c2 ?_; (case k0 => exact rfl); (case kA => exact rfl); (case kF => exact rfl); (case kK => assumption); (case k1 => k_asm); (case k2 => k_asm); (case k3 => k_asm); (case k4 => k_asm); (case k5 => k_asm); (case k6 => k_is); (case k7 => k_is); (case k8 => exact Nat.le_of_ble_eq_true rfl); (case k9 => kernel_rfl!); (case kB => kernel_rfl!); (case c2 => kernel_rfl!); k_whole; intro g' L' h' t' FG' F' N' B' X' T' e9 A9 qk ek)
  k_steps
  · (rename (∀ (_ : Nat) (_ : Str) (_ : Tok) (_ : Str) (_ : Tok) (_ : Nat) (_ : Int) (_ : Tok) (_ : Int) (_ : Tok) (_ : Nat) (_ : Nat) (_ : Value), _) => hq9; refine' hq9 _ _ _ _ _ _ _ _ _ _ _ _ _ ?a1 ?a2 ?a3 ?a4 ?a5 ?a6 ?a7 ?a8; (case a1 => assumption); (case a2 => assumption); (case a3 => assumption); (case a4 => assumption); (case a5 => k_ne); (case a6 => k_ne); (case a7 => k_ne); (case a8 => k_all))
  · (refine' ret _ _ _ _ _ _ _ _ _ _ ?e5_0 ?e5_1 ?e5_2 ?e5_3 ?e5_4 ?e5_5 ?eF5 ?eN5; (case eN5 => exact stl9 (rot4 (by k_asm))); (case eF5 => k_asm); (case e5_0 => k_all); (case e5_1 => ktn_no "Mine.apart"); (case e5_2 => (refine' ColsIn.mk ?m1 ?m2 ?m3 ?m4 ?m5 ?m6 ?m7 ?m8 ?m9; (case m2 => assumption); (case m1 => k_mem); (case m3 => k_mem); (case m4 => k_mem); (case m5 => k_mem); (case m6 => k_mem); (case m7 => k_mem); (case m8 => k_mem); (case m9 => k_mem))); (case e5_3 => assumption); all_goals first | assumption | omega)
end
example : True := by
  (k_with "CR" => (((with_reducible show wpAny _ _ (call (Value.ref 681) _) _ _ _); k_dflt (refine' columns_c ?cz50 ?Nz50 ?p0z50 ?p1z50 ?p2z50 ?_; (case cz50 => ktn_no "Mine.cx"); (case Nz50 => ktn_no "Mine.src"); (case p0z50 => k_all); (case p1z50 => assumption); (case p2z50 => assumption); k_whole); intro v' k' tl' x' tx' y' ty' n' h' tk' hts' ha' hv' hk' hx' hy' F' N'; (try k_sweep); ktn_no "Mine.aft")))
  trivial
-- A4
theorem side0_c {prog : Program} {w : World} {dp un : Nat} {gd : Option (List Code)} {cn : Str} {cs : Scope} {a : Addr} {ccd : Value} {cl : List (Str × Addr)} {outer : List Env} {A₀ : Around} {base h₀ : Heap} {L : Addr} {m : Str → Option Value} {p : Program} {loose : List Str} {mean : ExcName → Option Value} {mg mb : Str → Option Value} {hp : Heap} {gs : Array GenState} {dr : Drawn} {tk : Nat} {os : OsState} {Q E : Value → Shared → Prop} {rest : List (Addr × Obj)} {sa : Addr} {x y : Int} {tx ty : Tok} {n : Nat} {td : Tok}
    (c : Cx w dp un 840 8680 cs A₀ base outer h₀ L hp m p loose mean mg mb) (N : News h₀ L hp ((sa, src x tx y ty n) :: rest)) (hne : ∀ p ∈ rest, p.1 ≠ sa) (hx : 0 ≤ x) (hy : 0 ≤ y)
    (ret : ∀ v d tl x₁ tx₁ y₁ ty₁ n₁ h₁ tk₁, (∀ p ∈ tl, p.1 ≠ sa) → Apart rest tl → SideIn tl v d → d.Base → 0 ≤ x₁ → 0 ≤ y₁ → Fr h₀ L h₁ m → News h₀ L h₁ ((sa, src x₁ tx₁ y₁ ty₁ n₁) :: (tl ++ rest)) → Q v ⟨h₁, gs, dr, tk₁, os⟩) :
    wpAny (model prog w) (ktrTop dp un gd cn cs L a ccd cl outer) (call (.ref 695) [.ref sa, .int 0 td]) Q E ⟨hp, gs, dr, tk, os⟩ := by
  obtain ⟨B, F, X, T, hk, hdp, hun⟩ := c
  refine lowerK hdp hun ?_
  k_dflt (refine' enterM (binds := [(Str.ofString "source", _), (Str.ofString "deep", _)]) ?k0 ?k1 ?k2 ?k3 ?k4 ?k5 ?kA ?kF ?kK ?k6 ?k7 ?k8 ?k9 ?kB ?c2 ?_; (case k0 => exact rfl); (case kA => exact rfl); (case kF => exact rfl); (case kK => assumption); (case k1 => k_asm); (case k2 => k_asm); (case k3 => k_asm); (case k4 => k_asm); (case k5 => k_asm); (case k6 => k_is); (case k7 => k_is); (case k8 => exact Nat.le_of_ble_eq_true rfl); (case k9 => kernel_rfl!); (case kB => kernel_rfl!); (case c2 => kernel_rfl!); k_whole; intro g' L' h' t' FG' F' N' B' X' T' e9 A9 qk ek)
  k_steps
  · (refine' ret _ _ _ _ _ _ _ _ _ _ ?e9_0 ?e9_1 ?e9_2 ?e9_3 ?e9_4 ?e9_5 ?eF9 ?eN9; (case eN9 => exact stl1 (rot1 (by k_asm))); (case eF9 => k_asm); (case e9_0 => k_all); (case e9_1 => ktn_no "Mine.apart"); (case e9_2 => (refine' side_col1 ?q8_0 ?q8_1 ?q8_2; (case q8_0 => k_mem); (case q8_1 => assumption); (case q8_2 => assumption))); (case e9_3 => exact Side.Base.col _); all_goals first | assumption | omega)
  · (refine' ret _ _ _ _ _ _ _ _ _ _ ?e11_0 ?e11_1 ?e11_2 ?e11_3 ?e11_4 ?e11_5 ?eF11 ?eN11; (case eN11 => exact stl1 (rot1 (by k_asm))); (case eF11 => k_asm); (case e11_0 => k_all); (case e11_1 => ktn_no "Mine.apart"); (case e11_2 => (refine' side_col2 ?q10_0 ?q10_1 ?q10_2; (case q10_0 => k_mem); (case q10_1 => assumption); (case q10_2 => assumption))); (case e11_3 => exact Side.Base.col _); all_goals first | assumption | omega)
  · (refine' ret _ _ _ _ _ _ _ _ _ _ ?e7_0 ?e7_1 ?e7_2 ?e7_3 ?e7_4 ?e7_5 ?eF7 ?eN7; (case eN7 => exact stl1 (rot1 (by k_asm))); (case eF7 => k_asm); (case e7_0 => k_all); (case e7_1 => ktn_no "Mine.apart"); (case e7_2 => (refine' SideIn.lit ?q6_0 ?q6_1; (case q6_0 => k_mem); (case q6_1 => assumption))); (case e7_3 => exact Side.Base.lit _); all_goals first | assumption | omega)
  · (refine' ret _ _ _ _ _ _ _ _ _ _ ?e13_0 ?e13_1 ?e13_2 ?e13_3 ?e13_4 ?e13_5 ?eF13 ?eN13; (case eN13 => exact stl1 (rot1 (by k_asm))); (case eF13 => k_asm); (case e13_0 => k_all); (case e13_1 => ktn_no "Mine.apart"); (case e13_2 => (refine' SideIn.lit ?q12_0 ?q12_1; (case q12_0 => k_mem); (case q12_1 => assumption))); (case e13_3 => exact Side.Base.lit _); all_goals first | assumption | omega)
example : True := by
  (k_with "CR" => (((with_reducible show wpAny _ _ (call (Value.ref 695) _) _ _ _); k_dflt (refine' side0_c ?cz51 ?Nz51 ?p0z51 ?p1z51 ?p2z51 ?_; (case cz51 => ktn_no "Mine.cx"); (case Nz51 => ktn_no "Mine.src"); (case p0z51 => k_all); (case p1z51 => assumption); (case p2z51 => assumption); k_whole); intro v' d' tl' x' tx' y' ty' n' h' tk' hts' ha' hv' hd' hx' hy' F' N'; (try k_sweep); ktn_no "Mine.aft")))
  trivial
-- A5
theorem side1_c {prog : Program} {w : World} {dp un : Nat} {gd : Option (List Code)} {cn : Str} {cs : Scope} {a : Addr} {ccd : Value} {cl : List (Str × Addr)} {outer : List Env} {A₀ : Around} {base h₀ : Heap} {L : Addr} {m : Str → Option Value} {p : Program} {loose : List Str} {mean : ExcName → Option Value} {mg mb : Str → Option Value} {hp : Heap} {gs : Array GenState} {dr : Drawn} {tk : Nat} {os : OsState} {Q E : Value → Shared → Prop} {rest : List (Addr × Obj)} {sa : Addr} {x y : Int} {tx ty : Tok} {n : Nat} {td : Tok}
    (c : Cx w dp un 825 8600 cs A₀ base outer h₀ L hp m p loose mean mg mb) (N : News h₀ L hp ((sa, src x tx y ty n) :: rest)) (hne : ∀ p ∈ rest, p.1 ≠ sa) (hx : 0 ≤ x) (hy : 0 ≤ y)
    (ret : ∀ v d tl x₁ tx₁ y₁ ty₁ n₁ h₁ tk₁, (∀ p ∈ tl, p.1 ≠ sa) → Apart rest tl → SideIn tl v d → d.Ok → 0 ≤ x₁ → 0 ≤ y₁ → Fr h₀ L h₁ m → News h₀ L h₁ ((sa, src x₁ tx₁ y₁ ty₁ n₁) :: (tl ++ rest)) → Q v ⟨h₁, gs, dr, tk₁, os⟩) :
    wpAny (model prog w) (ktrTop dp un gd cn cs L a ccd cl outer) (call (.ref 695) [.ref sa, .int 1 td]) Q E ⟨hp, gs, dr, tk, os⟩ := by
  obtain ⟨B, F, X, T, hk, hdp, hun⟩ := c
  refine lowerK hdp hun ?_
  k_dflt (refine' enterM (binds := [(Str.ofString "source", _), (Str.ofString "deep", _)]) ?k0 ?k1 ?k2 ?k3 ?k4 ?k5 ?kA ?kF ?kK ?k6 ?k7 ?k8 ?k9 ?kB ?c2 ?_; (case k0 => exact rfl); (case kA => exact rfl); (case kF => exact rfl); (case kK => assumption); (case k1 => k_asm); (case k2 => k_asm); (case k3 => k_asm); (case k4 => k_asm); (case k5 => k_asm); (case k6 => k_is); (case k7 => k_is); (case k8 => exact Nat.le_of_ble_eq_true rfl); (case k9 => kernel_rfl!); (case kB => kernel_rfl!); (case c2 => kernel_rfl!); k_whole; intro g' L' h' t' FG' F' N' B' X' T' e9 A9 qk ek)
  k_steps
  · (refine' ret _ _ _ _ _ _ _ _ _ _ ?e15_0 ?e15_1 ?e15_2 ?e15_3 ?e15_4 ?e15_5 ?eF15 ?eN15; (case eN15 => exact stl1 (rot1 (by k_asm))); (case eF15 => k_asm); (case e15_0 => k_all); (case e15_1 => ktn_no "Mine.apart"); (case e15_2 => (refine' side_col1 ?q14_0 ?q14_1 ?q14_2; (case q14_0 => k_mem); (case q14_1 => assumption); (case q14_2 => assumption))); (case e15_3 => exact Side.Ok.base (Side.Base.col _)); all_goals first | assumption | omega)
  · (refine' ret _ _ _ _ _ _ _ _ _ _ ?e17_0 ?e17_1 ?e17_2 ?e17_3 ?e17_4 ?e17_5 ?eF17 ?eN17; (case eN17 => exact stl1 (rot1 (by k_asm))); (case eF17 => k_asm); (case e17_0 => k_all); (case e17_1 => ktn_no "Mine.apart"); (case e17_2 => (refine' side_col2 ?q16_0 ?q16_1 ?q16_2; (case q16_0 => k_mem); (case q16_1 => assumption); (case q16_2 => assumption))); (case e17_3 => exact Side.Ok.base (Side.Base.col _)); all_goals first | assumption | omega)
  · (refine' ret _ _ _ _ _ _ _ _ _ _ ?e19_0 ?e19_1 ?e19_2 ?e19_3 ?e19_4 ?e19_5 ?eF19 ?eN19; (case eN19 => exact stl1 (rot1 (by k_asm))); (case eF19 => k_asm); (case e19_0 => k_all); (case e19_1 => ktn_no "Mine.apart"); (case e19_2 => (refine' SideIn.lit ?q18_0 ?q18_1; (case q18_0 => k_mem); (case q18_1 => assumption))); (case e19_3 => exact Side.Ok.base (Side.Base.lit _)); all_goals first | assumption | omega)
  · (refine' ret _ _ _ _ _ _ _ _ _ _ ?e22_0 ?e22_1 ?e22_2 ?e22_3 ?e22_4 ?e22_5 ?eF22 ?eN22; (case eN22 => exact stA1 (rot1 (by k_asm))); (case eF22 => k_asm); (case e22_0 => k_all); (case e22_1 => ktn_no "Mine.apart"); (case e22_2 => (refine' SideIn.cast ?q20_0 ?q20_1; (case q20_0 => k_mem); (case q20_1 => ktn_no "Mine.side"))); (case e22_3 => (refine' Side.Ok.cast ?q21_0 ?q21_1; (case q21_0 => assumption); (case q21_1 => assumption))); all_goals first | assumption | omega)
  · (refine' ret _ _ _ _ _ _ _ _ _ _ ?e25_0 ?e25_1 ?e25_2 ?e25_3 ?e25_4 ?e25_5 ?eF25 ?eN25; (case eN25 => exact stA1 (rot1 (by k_asm))); (case eF25 => k_asm); (case e25_0 => k_all); (case e25_1 => ktn_no "Mine.apart"); (case e25_2 => (refine' SideIn.coll ?q23_0 ?q23_1; (case q23_0 => k_mem); (case q23_1 => ktn_no "Mine.side"))); (case e25_3 => (refine' Side.Ok.coll ?q24_0 ?q24_1; (case q24_0 => assumption); (case q24_1 => assumption))); all_goals first | assumption | omega)
example : True := by
  (k_with "CR" => (((with_reducible show wpAny _ _ (call (Value.ref 695) _) _ _ _); k_dflt (refine' side1_c ?cz52 ?Nz52 ?p0z52 ?p1z52 ?p2z52 ?_; (case cz52 => ktn_no "Mine.cx"); (case Nz52 => ktn_no "Mine.src"); (case p0z52 => k_all); (case p1z52 => assumption); (case p2z52 => assumption); k_whole); intro v' d' tl' x' tx' y' ty' n' h' tk' hts' ha' hv' hd' hx' hy' F' N'; (try k_sweep); ktn_no "Mine.aft")))
  trivial
-- B6
theorem take3 {d : Int} (h0 : 0 ≤ d) (h1 : d < 3) : d = 0 ∨ d = 1 ∨ d = 2 := by omega
inductive SidesIn (news : List (Addr × Obj)) : List Value → List Side → Prop
  | nil : SidesIn news [] []
  | cons {v : Value} {vs : List Value} {d : Side} {ds : List Side} : SideIn news v d → SidesIn news vs ds → SidesIn news (v :: vs) (d :: ds)
theorem SidesIn.mono {news news' : List (Addr × Obj)} {vs : List Value} {ds : List Side} (h : SidesIn news vs ds) (hs : ∀ p ∈ news, p ∈ news') : SidesIn news' vs ds := by
  induction h with
  | nil => exact .nil
  | cons h _ ih => exact .cons (h.mono hs) ih
inductive Cond where
  | op (o : Str) (l r : Side)
  | btw (v lo hi : Side) (neg : Bool)
  | inn (v : Side) (ds : List Side) (neg : Bool)
  | null (v : Side)
inductive Cond.Ok : Cond → Prop
  | op {o : Str} {l r : Side} : o ∈ OPS → l.Ok → r.Ok → Cond.Ok (.op o l r)
  | btw {v lo hi : Side} {neg : Bool} : v.Ok → lo.Ok → hi.Ok → Cond.Ok (.btw v lo hi neg)
  | inn {v : Side} {ds : List Side} {neg : Bool} : v.Ok → ds.length ≤ 2 → (∀ d ∈ ds, d.Base) → Cond.Ok (.inn v ds neg)
  | null {v : Side} : v.Ok → Cond.Ok (.null v)
inductive CondIn (news : List (Addr × Obj)) : Value → Cond → Prop
  | op {a : Addr} {t1 t2 : Tok} {n : Nat} {o : Str} {v1 v2 : Value} {l r : Side} : (a, tupO [.str (Str.ofString "op") t1, .str o t2, v1, v2] n) ∈ news → SideIn news v1 l → SideIn news v2 r → CondIn news (.ref a) (.op o l r)
  | btw {a : Addr} {t1 : Tok} {n : Nat} {v1 v2 v3 : Value} {v lo hi : Side} {neg : Bool} : (a, tupO [.str (Str.ofString "between") t1, v1, v2, v3, .bool neg] n) ∈ news → SideIn news v1 v → SideIn news v2 lo → SideIn news v3 hi → CondIn news (.ref a) (.btw v lo hi neg)
  | inn {a la : Addr} {t1 : Tok} {n ln : Nat} {v1 : Value} {v : Side} {vs : List Value} {ds : List Side} {neg : Bool} : (a, tupO [.str (Str.ofString "in") t1, v1, .ref la, .bool neg] n) ∈ news → SideIn news v1 v → (la, listOf vs.toArray ln) ∈ news → SidesIn news vs ds → CondIn news (.ref a) (.inn v ds neg)
  | null {a : Addr} {t1 : Tok} {n : Nat} {v1 : Value} {v : Side} : (a, tupO [.str (Str.ofString "null") t1, v1] n) ∈ news → SideIn news v1 v → CondIn news (.ref a) (.null v)
theorem CondIn.mono {news news' : List (Addr × Obj)} {v : Value} {d : Cond} (h : CondIn news v d) (hs : ∀ p ∈ news, p ∈ news') : CondIn news' v d := by
  cases h with
  | op h1 h2 h3 => exact .op (hs _ h1) (h2.mono hs) (h3.mono hs)
  | btw h1 h2 h3 h4 => exact .btw (hs _ h1) (h2.mono hs) (h3.mono hs) (h4.mono hs)
  | inn h1 h2 h3 h4 => exact .inn (hs _ h1) (h2.mono hs) (hs _ h3) (h4.mono hs)
  | null h1 h2 => exact .null (hs _ h1) (h2.mono hs)
theorem sl0 (a b : Value) : (slicePick [a, b].toArray none (some 0) none).toList = [] := rfl
theorem sl1 (a b : Value) : (slicePick [a, b].toArray none (some 1) none).toList = [a] := rfl
theorem sl2 (a b : Value) : (slicePick [a, b].toArray none (some 2) none).toList = [a, b] := rfl
theorem mem4 {P : Value → Prop} {v a b c d : Value} (h : v ∈ [a, b, c, d]) (ha : P a) (hb : P b) (hc : P c) (hd : P d) : P v := by
  simp only [List.mem_cons, List.not_mem_nil, or_false] at h
  rcases h with rfl | rfl | rfl | rfl <;> assumption
section
variable {h₀ h : Heap} {L : Addr} {q p1 p2 p3 p4 p5 p6 p7 p8 p9 p10 p11 p12 p13 : Addr × Obj} {tl r : List (Addr × Obj)}
theorem stA6 (N : News h₀ L h (q :: p1 :: p2 :: p3 :: p4 :: p5 :: p6 :: (tl ++ r))) : News h₀ L h (q :: ((p1 :: p2 :: p3 :: p4 :: p5 :: p6 :: tl) ++ r)) := N
theorem stA7 (N : News h₀ L h (q :: p1 :: p2 :: p3 :: p4 :: p5 :: p6 :: p7 :: (tl ++ r))) : News h₀ L h (q :: ((p1 :: p2 :: p3 :: p4 :: p5 :: p6 :: p7 :: tl) ++ r)) := N
theorem stA8 (N : News h₀ L h (q :: p1 :: p2 :: p3 :: p4 :: p5 :: p6 :: p7 :: p8 :: (tl ++ r))) : News h₀ L h (q :: ((p1 :: p2 :: p3 :: p4 :: p5 :: p6 :: p7 :: p8 :: tl) ++ r)) := N
theorem stA9 (N : News h₀ L h (q :: p1 :: p2 :: p3 :: p4 :: p5 :: p6 :: p7 :: p8 :: p9 :: (tl ++ r))) : News h₀ L h (q :: ((p1 :: p2 :: p3 :: p4 :: p5 :: p6 :: p7 :: p8 :: p9 :: tl) ++ r)) := N
theorem stA10 (N : News h₀ L h (q :: p1 :: p2 :: p3 :: p4 :: p5 :: p6 :: p7 :: p8 :: p9 :: p10 :: (tl ++ r))) : News h₀ L h (q :: ((p1 :: p2 :: p3 :: p4 :: p5 :: p6 :: p7 :: p8 :: p9 :: p10 :: tl) ++ r)) := N
theorem stA11 (N : News h₀ L h (q :: p1 :: p2 :: p3 :: p4 :: p5 :: p6 :: p7 :: p8 :: p9 :: p10 :: p11 :: (tl ++ r))) : News h₀ L h (q :: ((p1 :: p2 :: p3 :: p4 :: p5 :: p6 :: p7 :: p8 :: p9 :: p10 :: p11 :: tl) ++ r)) := N
theorem stA12 (N : News h₀ L h (q :: p1 :: p2 :: p3 :: p4 :: p5 :: p6 :: p7 :: p8 :: p9 :: p10 :: p11 :: p12 :: (tl ++ r))) : News h₀ L h (q :: ((p1 :: p2 :: p3 :: p4 :: p5 :: p6 :: p7 :: p8 :: p9 :: p10 :: p11 :: p12 :: tl) ++ r)) := N
theorem stA13 (N : News h₀ L h (q :: p1 :: p2 :: p3 :: p4 :: p5 :: p6 :: p7 :: p8 :: p9 :: p10 :: p11 :: p12 :: p13 :: (tl ++ r))) : News h₀ L h (q :: ((p1 :: p2 :: p3 :: p4 :: p5 :: p6 :: p7 :: p8 :: p9 :: p10 :: p11 :: p12 :: p13 :: tl) ++ r)) := N
end
section
variable {h₀ h : Heap} {L : Addr} {q p1 p2 : Addr × Obj} {tl1 tl2 tl3 r : List (Addr × Obj)}
theorem stB2 (N : News h₀ L h (p1 :: q :: (tl2 ++ (tl1 ++ r)))) : News h₀ L h (q :: ((p1 :: (tl2 ++ tl1)) ++ r)) := cb_drop N (by ktn_no "Mine.sub")
theorem stB3 (N : News h₀ L h (p1 :: q :: (tl3 ++ (tl2 ++ (tl1 ++ r))))) : News h₀ L h (q :: ((p1 :: (tl3 ++ (tl2 ++ tl1))) ++ r)) := cb_drop N (by ktn_no "Mine.sub")
end
example : True := by
  (k_with "L53" => ((refine' CondIn.mono ?sm1z53 ?sm2z53; (case sm1z53 => assumption); (case sm2z53 => ktn_no "Mine.sub"))))
  trivial
local macro_rules | `(tactic| ktn_no "Mine.rel") => `(tactic| k_extra "L53")
-- A6
theorem item4 {h₀ h : Heap} {L : Addr} {led : List (Addr × Obj)} {a b c d : Addr} {t1 t2 t3 t4 t5 t6 t7 t8 : Tok} {n1 n2 n3 n4 : Nat} {v v1 v2 : Value} {l1 l2 : LV} (uN : News h₀ L h led) (um1 : (a, tupO [.str (Str.ofString "lit") t1, v1] n1) ∈ led) (um2 : (b, tupO [.str (Str.ofString "lit") t2, v2] n2) ∈ led)
    (um3 : (c, tupO [.str (Str.ofString "name") t3, .int 2 t4, .int 0 t5] n3) ∈ led) (um4 : (d, tupO [.str (Str.ofString "name") t6, .int 1 t7, .int 0 t8] n4) ∈ led) (hv : v ∈ [.ref a, .ref b, .ref c, .ref d]) (h1 : LVal v1 l1) (h2 : LVal v2 l2) :
    ∃ s : Side, s.Base ∧ ∀ news : List (Addr × Obj), (a, tupO [.str (Str.ofString "lit") t1, v1] n1) ∈ news → (b, tupO [.str (Str.ofString "lit") t2, v2] n2) ∈ news → (c, tupO [.str (Str.ofString "name") t3, .int 2 t4, .int 0 t5] n3) ∈ news → (d, tupO [.str (Str.ofString "name") t6, .int 1 t7, .int 0 t8] n4) ∈ news → SideIn news v s := by
  simp only [List.mem_cons, List.not_mem_nil, or_false] at hv
  rcases hv with rfl | rfl | rfl | rfl
  · exact ⟨.lit l1, .lit _, fun _ m _ _ _ => .lit m h1⟩
  · exact ⟨.lit l2, .lit _, fun _ _ m _ _ => .lit m h2⟩
  · exact ⟨.col .c20, .col _, fun _ _ _ m _ => .col .c20 m⟩
  · exact ⟨.col .c10, .col _, fun _ _ _ _ m => .col .c10 m⟩
section
example : True := by
  (k_with "L54" => (((with_reducible show wpAny _ _ (call (Value.ref 667) [_, Value.int 3 _]) _ _ _); k_dflt (refine' take_c ?cz54 ?Nz54 ?p0z54 ?p1z54 ?p2z54 ?p3z54 ?p4z54 ?_; (case cz54 => ktn_no "Mine.cx"); (case Nz54 => ktn_no "Mine.src"); (case p0z54 => k_all); (case p1z54 => assumption); (case p2z54 => assumption); (case p3z54 => omega); (case p4z54 => omega); k_whole); intro d' t' x' tx' y' ty' n' h' tk' hd0 hd1 hx' hy' F' N'; (try k_sweep); rcases take3 hd0 hd1 with h9 | h9 | h9 <;> subst h9 <;> ktn_no "Mine.aft")))
  trivial
local macro_rules | `(tactic| walk_at "call ref") => `(tactic| k_extra "L54")
example : True := by
  (k_with "L55" => ((k_dflt (refine' kmk_slice_lit (s := ⟨_, _, _, _, _⟩) ?Fz55 ?Nz55 ?lz55 ?pz55 ?qz55 ?ez55 ?_ ?sz55 ?tz55 ?zz55; (case Fz55 => k_asm); (case Nz55 => k_asm); (case lz55 => kmk_list); (case pz55 => kmk_part); (case qz55 => kmk_part); (case ez55 => first | exact sl0 _ _ | exact sl1 _ _ | exact sl2 _ _); (case sz55 => with_unfolding_all rfl); (case tz55 => kmk_pure); (case zz55 => kmk_size)); intro D' h' F' N' l1; (try k_lt l1); (try k_sweep))))
  trivial
local macro_rules | `(tactic| walk_at "subscriptTail Name Slice ref ref") => `(tactic| k_extra "L55")
example : True := by
  (k_with "L56" => (((rename Membership.mem (γ := List Value) _ _ => hv9); (obtain ⟨s9, hb9, hs9⟩ := item4 (by k_asm) (by k_mem) (by k_mem) (by k_mem) (by k_mem) hv9 (by assumption) (by assumption)); clear hv9)))
  trivial
local macro_rules | `(tactic| ktn_no "Mine.items") => `(tactic| k_extra "L56")
example : True := by
  (k_with "L57" => (first | (refine' SideIn.lit ?i1z57 ?i2z57; (case i1z57 => k_mem); (case i2z57 => assumption)) | ((rename (∀ (_ : List (Addr × Obj)), _) => hq9); refine' hq9 _ ?i1z57 ?i2z57 ?i3z57 ?i4z57; (case i1z57 => k_mem); (case i2z57 => k_mem); (case i3z57 => k_mem); (case i4z57 => k_mem))))
  trivial
local macro_rules | `(tactic| ktn_no "Mine.item") => `(tactic| k_extra "L57")
example : True := by
  (k_with "L58" => (first | exact List.forall_mem_nil _ | (refine List.forall_mem_cons.mpr (And.intro (by first | assumption | constructor) ?_); ktn_no "Mine.base")))
  trivial
local macro_rules | `(tactic| ktn_no "Mine.base") => `(tactic| k_extra "L58")
theorem cond_c {prog : Program} {w : World} {dp un : Nat} {gd : Option (List Code)} {cn : Str} {cs : Scope} {a : Addr} {ccd : Value} {cl : List (Str × Addr)} {outer : List Env} {A₀ : Around} {base h₀ : Heap} {L : Addr} {m : Str → Option Value} {p : Program} {loose : List Str} {mean : ExcName → Option Value} {mg mb : Str → Option Value} {hp : Heap} {gs : Array GenState} {dr : Drawn} {tk : Nat} {os : OsState} {Q E : Value → Shared → Prop} {rest : List (Addr × Obj)} {sa : Addr} {x y : Int} {tx ty : Tok} {n : Nat}
    (c : Cx w dp un 795 8440 cs A₀ base outer h₀ L hp m p loose mean mg mb) (N : News h₀ L hp ((sa, src x tx y ty n) :: rest)) (hne : ∀ p ∈ rest, p.1 ≠ sa) (hx : 0 ≤ x) (hy : 0 ≤ y)
    (ret : ∀ v d tl x₁ tx₁ y₁ ty₁ n₁ h₁ tk₁, (∀ p ∈ tl, p.1 ≠ sa) → Apart rest tl → CondIn tl v d → d.Ok → 0 ≤ x₁ → 0 ≤ y₁ → Fr h₀ L h₁ m → News h₀ L h₁ ((sa, src x₁ tx₁ y₁ ty₁ n₁) :: (tl ++ rest)) → Q v ⟨h₁, gs, dr, tk₁, os⟩) :
    wpAny (model prog w) (ktrTop dp un gd cn cs L a ccd cl outer) (call (.ref 749) [.ref sa]) Q E ⟨hp, gs, dr, tk, os⟩ := by
  obtain ⟨B, F, X, T, hk, hdp, hun⟩ := c
  refine lowerK hdp hun ?_
  k_dflt (refine' enterM (binds := [(Str.ofString "source", _)]) ?k0 ?k1 ?k2 ?k3 ?k4 ?k5 ?kA ?kF ?kK ?k6 ?k7 ?k8 ?k9 ?kB ?c2 ?_; (case k0 => exact rfl); (case kA => exact rfl); (case kF => exact rfl); (case kK => assumption); (case k1 => k_asm); (case k2 => k_asm); (case k3 => k_asm); (case k4 => k_asm); (case k5 => k_asm); (case k6 => k_is); (case k7 => k_is); (case k8 => exact Nat.le_of_ble_eq_true rfl); (case k9 => kernel_rfl!); (case kB => kernel_rfl!); (case c2 => kernel_rfl!); k_whole; intro g' L' h' t' FG' F' N' B' X' T' e9 A9 qk ek)
  k_steps
  · (refine' ret _ _ _ _ _ _ _ _ _ _ ?e28_0 ?e28_1 ?e28_2 ?e28_3 ?e28_4 ?e28_5 ?eF28 ?eN28; (case eN28 => exact stB2 (by k_asm)); (case eF28 => k_asm); (case e28_0 => k_all); (case e28_1 => ktn_no "Mine.apart"); (case e28_2 => (refine' CondIn.op ?q26_0 ?q26_1 ?q26_2; (case q26_0 => k_mem); (case q26_1 => ktn_no "Mine.side"); (case q26_2 => ktn_no "Mine.side"))); (case e28_3 => (refine' Cond.Ok.op ?q27_0 ?q27_1 ?q27_2; (case q27_0 => assumption); (case q27_1 => assumption); (case q27_2 => assumption))); all_goals first | assumption | omega)
  · (refine' ret _ _ _ _ _ _ _ _ _ _ ?e31_0 ?e31_1 ?e31_2 ?e31_3 ?e31_4 ?e31_5 ?eF31 ?eN31; (case eN31 => exact stB3 (by k_asm)); (case eF31 => k_asm); (case e31_0 => k_all); (case e31_1 => ktn_no "Mine.apart"); (case e31_2 => (refine' CondIn.btw ?q29_0 ?q29_1 ?q29_2 ?q29_3; (case q29_0 => k_mem); (case q29_1 => ktn_no "Mine.side"); (case q29_2 => ktn_no "Mine.side"); (case q29_3 => ktn_no "Mine.side"))); (case e31_3 => (refine' Cond.Ok.btw ?q30_0 ?q30_1 ?q30_2; (case q30_0 => assumption); (case q30_1 => assumption); (case q30_2 => assumption))); all_goals first | assumption | omega)
  · (refine' ret _ _ _ _ _ _ _ _ _ _ ?e34_0 ?e34_1 ?e34_2 ?e34_3 ?e34_4 ?e34_5 ?eF34 ?eN34; (case eN34 => exact stA10 (rot1 (by k_asm))); (case eF34 => k_asm); (case e34_0 => k_all); (case e34_1 => ktn_no "Mine.apart"); (case e34_2 => (refine' CondIn.inn ?q32_0 ?q32_1 ?q32_2 ?q32_3; (case q32_0 => k_mem); (case q32_1 => ktn_no "Mine.side"); (case q32_2 => k_mem); (case q32_3 => exact SidesIn.nil))); (case e34_3 => (refine' Cond.Ok.inn ?q33_0 ?q33_1 ?q33_2; (case q33_0 => assumption); (case q33_1 => exact Nat.le_of_ble_eq_true rfl); (case q33_2 => ktn_no "Mine.base"))); all_goals first | assumption | omega)
  · ktn_no "Mine.items"
    (refine' ret _ _ _ _ _ _ _ _ _ _ ?e38_0 ?e38_1 ?e38_2 ?e38_3 ?e38_4 ?e38_5 ?eF38 ?eN38; (case eN38 => exact stA10 (rot1 (by k_asm))); (case eF38 => k_asm); (case e38_0 => k_all); (case e38_1 => ktn_no "Mine.apart"); (case e38_2 => (refine' CondIn.inn ?q36_0 ?q36_1 ?q36_2 ?q36_3; (case q36_0 => k_mem); (case q36_1 => ktn_no "Mine.side"); (case q36_2 => k_mem); (case q36_3 => (refine' SidesIn.cons ?q35_0 ?q35_1; (case q35_0 => ktn_no "Mine.item"); (case q35_1 => exact SidesIn.nil))))); (case e38_3 => (refine' Cond.Ok.inn ?q37_0 ?q37_1 ?q37_2; (case q37_0 => assumption); (case q37_1 => exact Nat.le_of_ble_eq_true rfl); (case q37_2 => ktn_no "Mine.base"))); all_goals first | assumption | omega)
  · ktn_no "Mine.items"
    (refine' ret _ _ _ _ _ _ _ _ _ _ ?e43_0 ?e43_1 ?e43_2 ?e43_3 ?e43_4 ?e43_5 ?eF43 ?eN43; (case eN43 => exact stA10 (rot1 (by k_asm))); (case eF43 => k_asm); (case e43_0 => k_all); (case e43_1 => ktn_no "Mine.apart"); (case e43_2 => (refine' CondIn.inn ?q41_0 ?q41_1 ?q41_2 ?q41_3; (case q41_0 => k_mem); (case q41_1 => ktn_no "Mine.side"); (case q41_2 => k_mem); (case q41_3 => (refine' SidesIn.cons ?q40_0 ?q40_1; (case q40_0 => ktn_no "Mine.item"); (case q40_1 => (refine' SidesIn.cons ?q39_0 ?q39_1; (case q39_0 => ktn_no "Mine.item"); (case q39_1 => exact SidesIn.nil))))))); (case e43_3 => (refine' Cond.Ok.inn ?q42_0 ?q42_1 ?q42_2; (case q42_0 => assumption); (case q42_1 => exact Nat.le_of_ble_eq_true rfl); (case q42_2 => ktn_no "Mine.base"))); all_goals first | assumption | omega)
  · (refine' ret _ _ _ _ _ _ _ _ _ _ ?e46_0 ?e46_1 ?e46_2 ?e46_3 ?e46_4 ?e46_5 ?eF46 ?eN46; (case eN46 => exact stA1 (rot1 (by k_asm))); (case eF46 => k_asm); (case e46_0 => k_all); (case e46_1 => ktn_no "Mine.apart"); (case e46_2 => (refine' CondIn.null ?q44_0 ?q44_1; (case q44_0 => k_mem); (case q44_1 => ktn_no "Mine.side"))); (case e46_3 => (refine' Cond.Ok.null ?q45_0; (case q45_0 => assumption))); all_goals first | assumption | omega)
end
example : True := by
  (k_with "CR" => (((with_reducible show wpAny _ _ (call (Value.ref 749) _) _ _ _); k_dflt (refine' cond_c ?cz59 ?Nz59 ?p0z59 ?p1z59 ?p2z59 ?_; (case cz59 => ktn_no "Mine.cx"); (case Nz59 => ktn_no "Mine.src"); (case p0z59 => k_all); (case p1z59 => assumption); (case p2z59 => assumption); k_whole); intro v' d' tl' x' tx' y' ty' n' h' tk' hts' ha' hv' hd' hx' hy' F' N'; (try k_sweep); ktn_no "Mine.aft")))
  trivial
-- B7
noncomputable def Cols.aff (k : Cols) : Col → Str
  | .c10 => k.a0 | .c11 => k.a1 | .c12 => k.a2 | .c20 => k.a3 | .c21 => k.a4
noncomputable def Cols.coll (k : Cols) : Col → Str
  | .c10 => k.c0 | .c11 => k.c1 | .c12 => k.c2 | .c20 => k.c3 | .c21 => k.c4
theorem Cols.Ok.aff {k : Cols} (h : k.Ok) (i : Col) : k.aff i ∈ AFFS := by cases i <;> first | exact h.a0 | exact h.a1 | exact h.a2 | exact h.a3 | exact h.a4
theorem Cols.Ok.coll {k : Cols} (h : k.Ok) (i : Col) : k.coll i ∈ COLLS := by cases i <;> first | exact h.c0 | exact h.c1 | exact h.c2 | exact h.c3 | exact h.c4
theorem Col.bt (i : Col) : 1 ≤ i.t ∧ i.t ≤ 2 := by cases i <;> decide
theorem Col.bc (i : Col) : 0 ≤ i.c ∧ i.c ≤ 2 := by cases i <;> decide
/-- what the columns hold at one column -/
structure ColEnt (prog : Program) (w : World) (news : List (Addr × Obj)) (d : Addr) (k : Cols) (i : Col) (o : Obj) (kvs : List (Int × Value)) (D l : Addr) (items : List Value) (n mm : Nat) (ta tc : Tok) : Prop where
  hd : (d, o) ∈ news
  ho : o.IsDictOf (intKind prog w) kvs
  hv : valueAt kvs i.t = some (.ref D)
  hD : (D, listOf items.toArray n) ∈ news
  hi : items[i.c.toNat]? = some (.ref l)
  hl : (l, listOf [.str (k.aff i) ta, .str (k.coll i) tc].toArray mm) ∈ news
theorem ColsIn.ent {prog : Program} {w : World} {news : List (Addr × Obj)} {cv : Value} {k : Cols} (h : ColsIn prog w news cv k) (i : Col) :
    ∃ d, cv = .ref d ∧ ∃ o kvs D l items n mm ta tc, ColEnt prog w news d k i o kvs D l items n mm ta tc := by
  cases h with
  | mk c1 c2 c3 c4 c5 c6 c7 c8 c9 =>
    refine ⟨_, rfl, ?_⟩
    cases i
    · exact ⟨_, _, _, _, _, _, _, _, _, c1, c2, rfl, c3, rfl, c5⟩
    · exact ⟨_, _, _, _, _, _, _, _, _, c1, c2, rfl, c3, rfl, c6⟩
    · exact ⟨_, _, _, _, _, _, _, _, _, c1, c2, rfl, c3, rfl, c7⟩
    · exact ⟨_, _, _, _, _, _, _, _, _, c1, c2, rfl, c4, rfl, c8⟩
    · exact ⟨_, _, _, _, _, _, _, _, _, c1, c2, rfl, c4, rfl, c9⟩
section
variable {prog : Program} {w : World} {A : Around} {E : Value → Shared → Prop} {s : Shared} {h₀ : Heap} {L : Addr} {news : List (Addr × Obj)} {la : Addr} {vs : List Value} {ln : Nat} {Q : Value → Shared → Prop}
theorem item_at {value slice : PySem.Expr} {k : Int} {u : Tok} {v : Value} (N : News h₀ L s.heap news) (hm : (la, listOf vs.toArray ln) ∈ news) (h0 : 0 ≤ k) (h1 : k ≤ 2) (hv : vs[k.toNat]? = some v) (h : Q v s)
    (hs : subscripted slice false (.ref la) (.int k u) = operate [.ref la, .int k u] (getItem (.ref la) (.int k u)) := by with_unfolding_all rfl) :
    wpAny (model prog w) A (subscriptTail value slice (.ref la) (.int k u)) Q E s := by
  have hL := News.isList N hm
  exact tail_any hL.typeIs slot_list_getitem.lookup (wpAny_getItem_list hL h0 (by omega) (by simpa using hv) h) hs
end
-- B7
theorem compEndA {h₀ : Heap} {L I C D : Addr} {m : Str → Option Value} {s₁ : Shared} {oI oC oD : Obj} {S : List (Addr × Obj) → Prop} {rest : Value → List (Addr × Obj) → Prop} {y : Value} {h' : Heap} {tk : Nat} {tl r : List (Addr × Obj)}
    (F : Fr h₀ L h' m) (N : News h₀ L h' (tl ++ (I, oI) :: (C, oC) :: (D, oD) :: r)) (ap : Apart ((I, oI) :: (C, oC) :: (D, oD) :: r) tl) (off : LCg.Off3 I C D r) (hS : S (tl ++ r)) (k : rest y (tl ++ r)) :
    LCg.CompEnd h₀ L m s₁ I oI C oC D oD S rest y { s₁ with heap := h', toks := tk } :=
  LCg.CompEnd.intro F N (tl ++ r) (by ktn_no "Mine.sub")
    (LCg.Off3.of fun p hp => by
      rcases List.mem_append.mp hp with hp | hp
      · exact ⟨ap (I, oI) (by simp) p hp, ap (C, oC) (by simp) p hp, ap (D, oD) (by simp) p hp⟩
      · exact LCg.Off3.mem off p hp) hS k
noncomputable abbrev ent (w : World) (nm : String) (tk : Tok) (v : Value) : DictEntry := ⟨PyData.keyHash w.params (Str.ofString nm), .str (Str.ofString nm) tk, v⟩
noncomputable abbrev tabS (i : Col) : Str := Str.ofString "t" ++ Str.ofString (toString i.t)
noncomputable abbrev colS (i : Col) : Str := Str.ofString "c" ++ Str.ofString (toString i.c)
/-- a node of the tree that is made of a side -/
inductive NodeIn (w : World) (k : Cols) (news : List (Addr × Obj)) : Value → Side → Prop
  | col {x dx : Addr} {n : Nat} {k1 k2 k3 k4 k5 k6 k7 a1 a2 a3 a4 a5 a6 a7 : Tok} (i : Col) : (x, instObj 116 dx) ∈ news →
      (dx, dictOf [ent w "table" k1 (.str (tabS i) a1), ent w "column" k2 (.str (colS i) a2), ent w "source" k3 (.int i.t a3), ent w "place" k4 (.int i.c a4), ent w "depth" k5 (.int 0 a5), ent w "affinity" k6 (.str (k.aff i) a6), ent w "collation" k7 (.str (k.coll i) a7)] n) ∈ news → NodeIn w k news (.ref x) (.col i)
  | lit {x dx : Addr} {n : Nat} {k1 : Tok} {v : Value} {lv : LV} : (x, instObj 90 dx) ∈ news → (dx, dictOf [ent w "value" k1 v] n) ∈ news → LVal v lv → NodeIn w k news (.ref x) (.lit lv)
  | cast {x dx : Addr} {n : Nat} {k1 k2 a2 : Tok} {v : Value} {d : Side} {ty : Str} : (x, instObj 374 dx) ∈ news → (dx, dictOf [ent w "value" k1 v, ent w "type_name" k2 (.str ty a2)] n) ∈ news → NodeIn w k news v d → NodeIn w k news (.ref x) (.cast d ty)
  | coll {x dx : Addr} {n : Nat} {k1 k2 a2 : Tok} {v : Value} {d : Side} {c : Str} : (x, instObj 400 dx) ∈ news → (dx, dictOf [ent w "value" k1 v, ent w "collation" k2 (.str c a2)] n) ∈ news → NodeIn w k news v d → NodeIn w k news (.ref x) (.coll d c)
theorem NodeIn.mono {w : World} {k : Cols} {news news' : List (Addr × Obj)} {v : Value} {d : Side} (h : NodeIn w k news v d) (hs : ∀ p ∈ news, p ∈ news') : NodeIn w k news' v d := by
  induction h with
  | col i h1 h2 => exact .col i (hs _ h1) (hs _ h2)
  | lit h1 h2 h3 => exact .lit (hs _ h1) (hs _ h2) h3
  | cast h1 h2 _ ih => exact .cast (hs _ h1) (hs _ h2) ih
  | coll h1 h2 _ ih => exact .coll (hs _ h1) (hs _ h2) ih
example : True := by
  (k_with "L60" => ((refine' NodeIn.mono ?sm1z60 ?sm2z60; (case sm1z60 => assumption); (case sm2z60 => ktn_no "Mine.sub"))))
  trivial
local macro_rules | `(tactic| ktn_no "Mine.rel") => `(tactic| k_extra "L60")
-- A7
section
example : True := by
  (k_with "L61" => (((with_reducible show wpAny _ _ (subscriptTail _ _ (Value.ref _) (Value.int _ _)) _ _ _); k_dflt (refine' item_at ?z1z61 ?z2z61 ?z3z61 ?z4z61 ?z5z61 ?_; (case z1z61 => k_asm); (case z2z61 => with_reducible assumption); (case z3z61 => decide); (case z4z61 => decide); (case z5z61 => rfl)))))
  trivial
local macro_rules | `(tactic| walk_at "subscriptTail") => `(tactic| k_extra "L61")
example : True := by
  (k_with "L62" => (((with_reducible show wpAny _ _ (subscriptTail _ _ (Value.ref _) (Value.int (Col.t _) _)) _ _ _); k_dflt (refine' kda_item (knd := PySem.intKind _ _) ?z1z62 ?z2z62 ?z3z62 (intKind_is _ _ _ _) ?z4z62 ?_; (case z1z62 => k_asm); (case z2z62 => with_reducible first | assumption | k_mem); (case z3z62 => assumption); (case z4z62 => assumption)))))
  trivial
local macro_rules | `(tactic| walk_at "subscriptTail") => `(tactic| k_extra "L62")
example : True := by
  (k_with "L63" => (((with_reducible show wpAny _ _ (subscriptTail _ _ (Value.ref _) (Value.int (Col.c _) _)) _ _ _); k_dflt (refine' item_at ?z1z63 ?z2z63 ?z3z63 ?z4z63 ?z5z63 ?_; (case z1z63 => k_asm); (case z2z63 => k_mem); (case z3z63 => omega); (case z4z63 => omega); (case z5z63 => assumption)))))
  trivial
local macro_rules | `(tactic| walk_at "subscriptTail") => `(tactic| k_extra "L63")
example : True := by
  (k_with "L64" => (((with_reducible show wpAny _ _ (assign (Expr.Tuple _ _ _) _ (Value.ref _)) _ _ _); k_dflt (refine' kun_list ?k1z64 ?k2z64 ?k3z64 ?k4z64 ?k5z64 ?k6z64 ?_; (case k1z64 => k_asm); (case k2z64 => k_asm); (case k3z64 => refine' News.isList ?Nz64 ?hz64; (case Nz64 => k_asm); (case hz64 => k_mem)); (case k4z64 => exact rfl); (case k5z64 => exact rfl); (case k6z64 => exact rfl); k_whole); intro h' F' N'; (try k_sweep))))
  trivial
local macro_rules | `(tactic| walk_at "assign Tuple") => `(tactic| k_extra "L64")
theorem node0_c {prog : Program} {w : World} {dp un : Nat} {gd : Option (List Code)} {cn : Str} {cs : Scope} {a : Addr} {ccd : Value} {cl : List (Str × Addr)} {outer : List Env} {A₀ : Around} {base h₀ : Heap} {L : Addr} {m : Str → Option Value} {p : Program} {loose : List Str} {mean : ExcName → Option Value} {mg mb : Str → Option Value} {hp : Heap} {gs : Array GenState} {dr : Drawn} {tk : Nat} {os : OsState} {Q E : Value → Shared → Prop} {news : List (Addr × Obj)} {v cv : Value} {d : Side} {k : Cols}
    (c : Cx w dp un 870 8840 cs A₀ base outer h₀ L hp m p loose mean mg mb) (N : News h₀ L hp (news)) (hR : SideIn news v d) (hB : d.Base) (hC : ColsIn prog w news cv k)
    (ret : ∀ r tl h₁ tk₁, Apart news tl → NodeIn w k tl r d → Fr h₀ L h₁ m → News h₀ L h₁ (tl ++ news) → Q r ⟨h₁, gs, dr, tk₁, os⟩) :
    wpAny (model prog w) (ktrTop dp un gd cn cs L a ccd cl outer) (call (.ref 702) [v, cv]) Q E ⟨hp, gs, dr, tk, os⟩ := by
  obtain ⟨B, F, X, T, hk, hdp, hun⟩ := c
  refine lowerK hdp hun ?_
  cases hB with
  | col i =>
    cases hR with
    | col _ hm =>
      obtain ⟨d, e, o, kvs, D, l, items, n, mm, ta, tc, he, ho, hv, hD, hi, hl⟩ := hC.ent i
      subst e
      have hbt := i.bt
      have hbc := i.bc
      k_dflt (refine' enterM (binds := [(Str.ofString "told", _), (Str.ofString "columns", _)]) ?k0 ?k1 ?k2 ?k3 ?k4 ?k5 ?kA ?kF ?kK ?k6 ?k7 ?k8 ?k9 ?kB ?c2 ?_; (case k0 => exact rfl); (case kA => exact rfl); (case kF => exact rfl); (case kK => assumption); (case k1 => k_asm); (case k2 => k_asm); (case k3 => k_asm); (case k4 => k_asm); (case k5 => k_asm); (case k6 => k_is); (case k7 => k_is); (case k8 => exact Nat.le_of_ble_eq_true rfl); (case k9 => kernel_rfl!); (case kB => kernel_rfl!); (case c2 => kernel_rfl!); k_whole; intro g' L' h' t' FG' F' N' B' X' T' e9 A9 qk ek)
      k_steps
      (refine' ret _ _ _ _ ?e48_0 ?e48_1 ?eF48 ?eN48; (case eN48 => exact tl3 (by k_asm)); (case eF48 => k_asm); (case e48_0 => ktn_no "Mine.apart"); (case e48_1 => (refine' NodeIn.col _ ?q47_0 ?q47_1; (case q47_0 => k_mem); (case q47_1 => k_mem))))
  | lit lv =>
    cases hR with
    | lit hm hv =>
      k_dflt (refine' enterM (binds := [(Str.ofString "told", _), (Str.ofString "columns", _)]) ?k0 ?k1 ?k2 ?k3 ?k4 ?k5 ?kA ?kF ?kK ?k6 ?k7 ?k8 ?k9 ?kB ?c2 ?_; (case k0 => exact rfl); (case kA => exact rfl); (case kF => exact rfl); (case kK => assumption); (case k1 => k_asm); (case k2 => k_asm); (case k3 => k_asm); (case k4 => k_asm); (case k5 => k_asm); (case k6 => k_is); (case k7 => k_is); (case k8 => exact Nat.le_of_ble_eq_true rfl); (case k9 => kernel_rfl!); (case kB => kernel_rfl!); (case c2 => kernel_rfl!); k_whole; intro g' L' h' t' FG' F' N' B' X' T' e9 A9 qk ek)
      k_steps
      (refine' ret _ _ _ _ ?e50_0 ?e50_1 ?eF50 ?eN50; (case eN50 => exact tl2 (by k_asm)); (case eF50 => k_asm); (case e50_0 => ktn_no "Mine.apart"); (case e50_1 => (refine' NodeIn.lit ?q49_0 ?q49_1 ?q49_2; (case q49_0 => k_mem); (case q49_1 => k_mem); (case q49_2 => assumption))))
example : True := by
  (k_with "L65" => (((with_reducible show wpAny _ _ (call (Value.ref 702) _) _ _ _); k_dflt (refine' node0_c ?cz65 ?Nz65 ?p0z65 ?p1z65 ?p2z65 ?_; (case cz65 => ktn_no "Mine.cx"); (case Nz65 => k_asm); (case p0z65 => ktn_no "Mine.rel"); (case p1z65 => k_asm); (case p2z65 => ktn_no "Mine.rel"); k_whole); intro r' tl' h' tk' ha' hn' F' N'; (try k_sweep); ktn_no "Mine.aft")))
  trivial
local macro_rules | `(tactic| walk_at "call ref") => `(tactic| k_extra "L65")
end
-- A8
section
example : True := by
  (k_with "L66" => ((refine' NodeIn.mono ?sm1z66 ?sm2z66; (case sm1z66 => assumption); (case sm2z66 => ktn_no "Mine.sub"))))
  trivial
local macro_rules | `(tactic| ktn_no "Mine.node") => `(tactic| k_extra "L66")
example : True := by
  (k_with "L67" => (((with_reducible show wpAny _ _ (call (Value.ref 702) _) _ _ _); k_dflt (refine' node0_c ?cz67 ?Nz67 ?p0z67 ?p1z67 ?p2z67 ?_; (case cz67 => ktn_no "Mine.cx"); (case Nz67 => k_asm); (case p0z67 => ktn_no "Mine.rel"); (case p1z67 => k_asm); (case p2z67 => ktn_no "Mine.rel"); k_whole); intro r' tl' h' tk' ha' hn' F' N'; (try k_sweep); ktn_no "Mine.aft")))
  trivial
local macro_rules | `(tactic| walk_at "call ref") => `(tactic| k_extra "L67")
theorem node1_c {prog : Program} {w : World} {dp un : Nat} {gd : Option (List Code)} {cn : Str} {cs : Scope} {a : Addr} {ccd : Value} {cl : List (Str × Addr)} {outer : List Env} {A₀ : Around} {base h₀ : Heap} {L : Addr} {m : Str → Option Value} {p : Program} {loose : List Str} {mean : ExcName → Option Value} {mg mb : Str → Option Value} {hp : Heap} {gs : Array GenState} {dr : Drawn} {tk : Nat} {os : OsState} {Q E : Value → Shared → Prop} {news : List (Addr × Obj)} {v cv : Value} {d : Side} {k : Cols}
    (c : Cx w dp un 855 8760 cs A₀ base outer h₀ L hp m p loose mean mg mb) (N : News h₀ L hp (news)) (hR : SideIn news v d) (hB : d.Ok) (hC : ColsIn prog w news cv k)
    (ret : ∀ r tl h₁ tk₁, Apart news tl → NodeIn w k tl r d → Fr h₀ L h₁ m → News h₀ L h₁ (tl ++ news) → Q r ⟨h₁, gs, dr, tk₁, os⟩) :
    wpAny (model prog w) (ktrTop dp un gd cn cs L a ccd cl outer) (call (.ref 702) [v, cv]) Q E ⟨hp, gs, dr, tk, os⟩ := by
  obtain ⟨B, F, X, T, hk, hdp, hun⟩ := c
  refine lowerK hdp hun ?_
  cases hB with
  | base hB => exact node0_c ⟨B, F, X, T, hk, by decide, by decide⟩ N hR hB hC ret
  | cast hB ht =>
    cases hR with
    | cast hm hx =>
      k_dflt (refine' enterM (binds := [(Str.ofString "told", _), (Str.ofString "columns", _)]) ?k0 ?k1 ?k2 ?k3 ?k4 ?k5 ?kA ?kF ?kK ?k6 ?k7 ?k8 ?k9 ?kB ?c2 ?_; (case k0 => exact rfl); (case kA => exact rfl); (case kF => exact rfl); (case kK => assumption); (case k1 => k_asm); (case k2 => k_asm); (case k3 => k_asm); (case k4 => k_asm); (case k5 => k_asm); (case k6 => k_is); (case k7 => k_is); (case k8 => exact Nat.le_of_ble_eq_true rfl); (case k9 => kernel_rfl!); (case kB => kernel_rfl!); (case c2 => kernel_rfl!); k_whole; intro g' L' h' t' FG' F' N' B' X' T' e9 A9 qk ek)
      k_steps
      (refine' ret _ _ _ _ ?e52_0 ?e52_1 ?eF52 ?eN52; (case eN52 => exact tA2 (by k_asm)); (case eF52 => k_asm); (case e52_0 => ktn_no "Mine.apart"); (case e52_1 => (refine' NodeIn.cast ?q51_0 ?q51_1 ?q51_2; (case q51_0 => k_mem); (case q51_1 => k_mem); (case q51_2 => ktn_no "Mine.node"))))
  | coll hB ht =>
    cases hR with
    | coll hm hx =>
      k_dflt (refine' enterM (binds := [(Str.ofString "told", _), (Str.ofString "columns", _)]) ?k0 ?k1 ?k2 ?k3 ?k4 ?k5 ?kA ?kF ?kK ?k6 ?k7 ?k8 ?k9 ?kB ?c2 ?_; (case k0 => exact rfl); (case kA => exact rfl); (case kF => exact rfl); (case kK => assumption); (case k1 => k_asm); (case k2 => k_asm); (case k3 => k_asm); (case k4 => k_asm); (case k5 => k_asm); (case k6 => k_is); (case k7 => k_is); (case k8 => exact Nat.le_of_ble_eq_true rfl); (case k9 => kernel_rfl!); (case kB => kernel_rfl!); (case c2 => kernel_rfl!); k_whole; intro g' L' h' t' FG' F' N' B' X' T' e9 A9 qk ek)
      k_steps
      (refine' ret _ _ _ _ ?e54_0 ?e54_1 ?eF54 ?eN54; (case eN54 => exact tA2 (by k_asm)); (case eF54 => k_asm); (case e54_0 => ktn_no "Mine.apart"); (case e54_1 => (refine' NodeIn.coll ?q53_0 ?q53_1 ?q53_2; (case q53_0 => k_mem); (case q53_1 => k_mem); (case q53_2 => ktn_no "Mine.node"))))
end
example : True := by
  (k_with "CR" => (((with_reducible show wpAny _ _ (call (Value.ref 702) _) _ _ _); k_dflt (refine' node1_c ?cz68 ?Nz68 ?p0z68 ?p1z68 ?p2z68 ?_; (case cz68 => ktn_no "Mine.cx"); (case Nz68 => k_asm); (case p0z68 => ktn_no "Mine.rel"); (case p1z68 => k_asm); (case p2z68 => ktn_no "Mine.rel"); k_whole); intro r' tl' h' tk' ha' hn' F' N'; (try k_sweep); ktn_no "Mine.aft")))
  trivial
-- B9
section
variable {h₀ h : Heap} {L : Addr} {q1 q2 q3 q4 : Addr × Obj} {t1 t2 t3 r : List (Addr × Obj)}
theorem tX0 (N : News h₀ L h (q1 :: q2 :: q3 :: (t1 ++ q4 :: r))) : News h₀ L h ((q1 :: q2 :: q3 :: (t1 ++ [q4])) ++ r) := cb_drop N (by ktn_no "Mine.sub")
theorem tX1 (N : News h₀ L h (q1 :: q2 :: q3 :: (t2 ++ (t1 ++ q4 :: r)))) : News h₀ L h ((q1 :: q2 :: q3 :: (t2 ++ (t1 ++ [q4]))) ++ r) := cb_drop N (by ktn_no "Mine.sub")
theorem tX2 (N : News h₀ L h (q1 :: q2 :: q3 :: (t3 ++ (t2 ++ (t1 ++ q4 :: r))))) : News h₀ L h ((q1 :: q2 :: q3 :: (t3 ++ (t2 ++ (t1 ++ [q4])))) ++ r) := cb_drop N (by ktn_no "Mine.sub")
theorem tXnull (N : News h₀ L h (q1 :: q2 :: (t1 ++ q4 :: r))) : News h₀ L h ((q1 :: q2 :: (t1 ++ [q4])) ++ r) := cb_drop N (by ktn_no "Mine.sub")
theorem tXop (N : News h₀ L h (q1 :: q2 :: (t2 ++ (t1 ++ q4 :: r)))) : News h₀ L h ((q1 :: q2 :: (t2 ++ (t1 ++ [q4]))) ++ r) := cb_drop N (by ktn_no "Mine.sub")
theorem tXbtw (N : News h₀ L h (q1 :: q2 :: (t3 ++ (t2 ++ (t1 ++ q4 :: r))))) : News h₀ L h ((q1 :: q2 :: (t3 ++ (t2 ++ (t1 ++ [q4])))) ++ r) := cb_drop N (by ktn_no "Mine.sub")
end
inductive NodesIn (w : World) (k : Cols) (news : List (Addr × Obj)) : List Value → List Side → Prop
  | nil : NodesIn w k news [] []
  | cons {v : Value} {vs : List Value} {d : Side} {ds : List Side} : NodeIn w k news v d → NodesIn w k news vs ds → NodesIn w k news (v :: vs) (d :: ds)
theorem NodesIn.mono {w : World} {k : Cols} {news news' : List (Addr × Obj)} {vs : List Value} {ds : List Side} (h : NodesIn w k news vs ds) (hs : ∀ p ∈ news, p ∈ news') : NodesIn w k news' vs ds := by
  induction h with
  | nil => exact .nil
  | cons h _ ih => exact .cons (h.mono hs) ih
inductive ExprIn (w : World) (k : Cols) (news : List (Addr × Obj)) : Value → Cond → Prop
  | op {x dx : Addr} {n : Nat} {k1 k2 k3 a1 : Tok} {o : Str} {v1 v2 : Value} {l r : Side} : (x, instObj 168 dx) ∈ news → (dx, dictOf [ent w "op" k1 (.str o a1), ent w "left" k2 v1, ent w "right" k3 v2] n) ∈ news → NodeIn w k news v1 l → NodeIn w k news v2 r → ExprIn w k news (.ref x) (.op o l r)
  | btw {x dx : Addr} {n : Nat} {k1 k2 k3 k4 : Tok} {v1 v2 v3 : Value} {v lo hi : Side} {neg : Bool} : (x, instObj 194 dx) ∈ news → (dx, dictOf [ent w "value" k1 v1, ent w "low" k2 v2, ent w "high" k3 v3, ent w "negated" k4 (.bool neg)] n) ∈ news → NodeIn w k news v1 v → NodeIn w k news v2 lo → NodeIn w k news v3 hi → ExprIn w k news (.ref x) (.btw v lo hi neg)
  | inn {x dx la : Addr} {n ln : Nat} {k1 k2 k3 : Tok} {v1 : Value} {v : Side} {vs : List Value} {ds : List Side} {neg : Bool} : (x, instObj 220 dx) ∈ news → (dx, dictOf [ent w "value" k1 v1, ent w "items" k2 (.ref la), ent w "negated" k3 (.bool neg)] n) ∈ news → NodeIn w k news v1 v → (la, listOf vs.toArray ln) ∈ news → NodesIn w k news vs ds → ExprIn w k news (.ref x) (.inn v ds neg)
  | null {x dx : Addr} {n : Nat} {k1 k2 : Tok} {v1 : Value} {v : Side} : (x, instObj 426 dx) ∈ news → (dx, dictOf [ent w "value" k1 v1, ent w "negated" k2 (.bool false)] n) ∈ news → NodeIn w k news v1 v → ExprIn w k news (.ref x) (.null v)
theorem ExprIn.mono {w : World} {k : Cols} {news news' : List (Addr × Obj)} {v : Value} {d : Cond} (h : ExprIn w k news v d) (hs : ∀ p ∈ news, p ∈ news') : ExprIn w k news' v d := by
  cases h with
  | op h1 h2 h3 h4 => exact .op (hs _ h1) (hs _ h2) (h3.mono hs) (h4.mono hs)
  | btw h1 h2 h3 h4 h5 => exact .btw (hs _ h1) (hs _ h2) (h3.mono hs) (h4.mono hs) (h5.mono hs)
  | inn h1 h2 h3 h4 h5 => exact .inn (hs _ h1) (hs _ h2) (h3.mono hs) (hs _ h4) (h5.mono hs)
  | null h1 h2 h3 => exact .null (hs _ h1) (hs _ h2) (h3.mono hs)
example : True := by
  (k_with "L69" => ((refine' ExprIn.mono ?sm1z69 ?sm2z69; (case sm1z69 => assumption); (case sm2z69 => ktn_no "Mine.sub"))))
  trivial
local macro_rules | `(tactic| ktn_no "Mine.rel") => `(tactic| k_extra "L69")
-- B29
theorem NodesIn.snoc {w : World} {k : Cols} {tl tl' : List (Addr × Obj)} {ys : List Value} {ds : List Side} {r : Value} {d : Side} (h : NodesIn w k tl ys ds) (hr : NodeIn w k tl' r d) : NodesIn w k (tl' ++ tl) (ys ++ [r]) (ds ++ [d]) := by
  induction h with
  | nil => exact .cons (hr.mono fun p hp => List.mem_append_left _ hp) .nil
  | cons hv _ ih => exact .cons (hv.mono fun p hp => List.mem_append_right _ hp) ih
section
variable {prog : Program} {w : World} {A : Around} {E : Value → Shared → Prop} {s : Shared} {h₀ : Heap} {L : Addr} {m : Str → Option Value} {env : Env}
theorem comp_nodes {k : Cols} {elt : Expr} {x : Str} {scope : Scope} {cl : List (Str × Addr)} {S : List (Addr × Obj) → Prop} {Fin : List Value → List (Addr × Obj) → Prop} {news n0 : List (Addr × Obj)} {vs : List Value} {ds : List Side} {cv : Value} (uhC : ColsIn prog w n0 cv k)
    (turn : ∀ v d tl ys (nx : Value → List (Addr × Obj) → Prop) I oI C oC D m₂ h tk (E' : Value → Shared → Prop), SideIn news v d → d.Ok → (∀ r tl', NodeIn w k tl' r d → Apart (tl ++ news) tl' → nx r (tl' ++ (tl ++ news))) →
      LCg.NsObj oC m₂ → m₂ x = some v → Fr h₀ L h m → News h₀ L h ((I, oI) :: (C, oC) :: (D, LCg.lst ys) :: (tl ++ news)) → LCg.Off3 I C D (tl ++ news) → ((@Ne Nat I C) ∧ (@Ne Nat I D) ∧ (@Ne Nat C D)) →
      wpAny (model prog w) A (eval elt (compEnvC scope cl C env)) (LCg.CompEnd h₀ L m { s with heap := h, toks := tk } I oI C oC D (LCg.lst ys) S nx) E' { s with heap := h, toks := tk })
    (fin : ∀ tl ys, NodesIn w k tl ys ds → Apart news tl → Fin ys (tl ++ news)) (hs : SidesIn news vs ds) (hok : ∀ d ∈ ds, d.Ok) :
    LCg.CompRest prog w A h₀ L m env elt x scope cl s S (fun i v => vs.toArray[i]? = some v) Fin vs.toArray.size 0 [] news := by
  have gen : ∀ {vs2 : List Value} {ds2 : List Side}, SidesIn news vs2 ds2 → ∀ (pre : List Value) (pd : List Side) (tl : List (Addr × Obj)) (ys : List Value), vs = pre ++ vs2 → ds = pd ++ ds2 → NodesIn w k tl ys pd → Apart news tl →
      LCg.CompRest prog w A h₀ L m env elt x scope cl s S (fun i v => vs.toArray[i]? = some v) Fin vs2.length pre.length ys (tl ++ news) := by
    intro vs2 ds2 h2
    induction h2 with
    | nil =>
      intro pre pd tl ys _ e hn ha
      rw [List.append_nil] at e
      exact LCg.CompRest.zero (fin tl ys (e ▸ hn) ha)
    | @cons v1 vs1 d1 ds1 hv _ ih =>
      intro pre pd tl ys e1 e2 hn ha
      refine LCg.CompRest.succ ?_
      intro v I oI C oC D m₂ h' tk E' hP hC hx F N off ne
      have ev : v = v1 := by
        have h3 : (pre ++ v1 :: vs1)[pre.length]? = some v := by rw [← e1]; simpa using hP
        rw [List.getElem?_append_right (Nat.le_refl _), Nat.sub_self] at h3
        exact (Option.some.inj h3).symm
      subst ev
      refine turn _ d1 tl ys _ I oI C oC D m₂ h' tk E' hv (hok _ (by rw [e2]; exact List.mem_append_right _ (List.mem_cons_self ..))) (fun r tl' hr ha' => ?_) hC hx F N off ne
      have := ih (pre ++ [v]) (pd ++ [d1]) (tl' ++ tl) (ys ++ [r]) (by rw [e1]; simp) (by rw [e2]; simp) (hn.snoc hr) (Apart.app (Apart.sub ha' fun p hp => List.mem_append_right _ hp) ha)
      rw [List.length_append, List.append_assoc] at this
      exact this
  have := gen hs [] [] [] [] rfl rfl .nil Apart.nil
  rwa [← List.size_toArray] at this
end
-- A9
theorem SidesIn.len {news : List (Addr × Obj)} {vs : List Value} {ds : List Side} (h : SidesIn news vs ds) : vs.length = ds.length := by
  induction h with
  | nil => rfl
  | cons _ _ ih => simp only [List.length_cons, ih]
section
example : True := by
  (k_with "L70" => ((k_dflt (refine LCg.ListComp_U (F₀ := by k_asm) (by with_unfolding_all rfl) (by decide) (by rfl) (by decide) (by rfl) ?_))))
  trivial
local macro_rules | `(tactic| walk_at "eval ListComp") => `(tactic| k_extra "L70")
example : True := by
  (k_with "L71" => ((k_here; k_dflt (refine' LCg.CompSrc.ledger (by rfl) ?z1z71 ?z2z71 ?z3z71 ?z4z71 ?_; (case z1z71 => k_asm); (case z2z71 => k_asm); (case z3z71 => k_mem); (case z4z71 => (rw [PySem.sizeLine_eq, List.size_toArray, SidesIn.len (by assumption)]; omega))); intro g'; k_dflt (refine comp_nodes (by assumption) ?_ ?_ (SidesIn.mono (by assumption) (by ktn_no "Mine.sub")) (by assumption)); intro v' d' tl' ys' nx' I' oI' C' oC' D' m' h' tk' E' hv' hd' hr' hC' hx' F' N' off' ne')))
  trivial
local macro_rules | `(tactic| walk_at "CompSrc") => `(tactic| k_extra "L71")
example : True := by
  (k_with "L72" => ((refine' compEndA ?z1z72 ?z2z72 ?z3z72 ?z4z72 ?z5z72 ?_; (case z1z72 => k_asm); (case z2z72 => k_asm); (case z3z72 => assumption); (case z4z72 => assumption); (case z5z72 => exact Or.inr ⟨_, by k_mem, rfl, _, rfl⟩))))
  trivial
local macro_rules | `(tactic| walk_at "CompEnd") => `(tactic| k_extra "L72")
theorem expr_c {prog : Program} {w : World} {dp un : Nat} {gd : Option (List Code)} {cn : Str} {cs : Scope} {a : Addr} {ccd : Value} {cl : List (Str × Addr)} {outer : List Env} {A₀ : Around} {base h₀ : Heap} {L : Addr} {m : Str → Option Value} {p : Program} {loose : List Str} {mean : ExcName → Option Value} {mg mb : Str → Option Value} {hp : Heap} {gs : Array GenState} {dr : Drawn} {tk : Nat} {os : OsState} {Q E : Value → Shared → Prop} {news : List (Addr × Obj)} {v cv : Value} {d : Cond} {k : Cols}
    (c : Cx w dp un 840 8680 cs A₀ base outer h₀ L hp m p loose mean mg mb) (N : News h₀ L hp (news)) (hR : CondIn news v d) (hB : d.Ok) (hC : ColsIn prog w news cv k)
    (ret : ∀ r tl h₁ tk₁, Apart news tl → ExprIn w k tl r d → Fr h₀ L h₁ m → News h₀ L h₁ (tl ++ news) → Q r ⟨h₁, gs, dr, tk₁, os⟩) :
    wpAny (model prog w) (ktrTop dp un gd cn cs L a ccd cl outer) (call (.ref 754) [v, cv]) Q E ⟨hp, gs, dr, tk, os⟩ := by
  obtain ⟨B, F, X, T, hk, hdp, hun⟩ := c
  refine lowerK hdp hun ?_
  obtain ⟨kind, names, gen, co, more⟩ := cs
  (try dsimp only at hk)
  subst hk
  cases hB with
  | inn hl hlen hds =>
    cases hR with
    | inn hm h1 h2 h3 =>
      have hok := fun d hd => Side.Ok.base (hds d hd)
      refine wpAny_call ?_
      k_dflt k_enter
      (first | (refine letA ?_; intro A9 e9) | skip)
      k_steps
      · (rename (∀ (_ : Value) (_ : List (Addr × Obj)), _ → _ → (_ : Value → List (Addr × Obj) → Prop) _ _) => hq9; exact hq9 _ _ (by assumption) (by ktn_no "Mine.apart"))
      · (refine' ret _ _ _ _ ?e57_0 ?e57_1 ?eF57 ?eN57; (case eN57 => exact tX1 (by k_asm)); (case eF57 => k_asm); (case e57_0 => ktn_no "Mine.apart"); (case e57_1 => (refine' ExprIn.inn ?q56_0 ?q56_1 ?q56_2 ?q56_3 ?q56_4; (case q56_0 => k_mem); (case q56_1 => k_mem); (case q56_2 => ktn_no "Mine.rel"); (case q56_3 => k_mem); (case q56_4 => (refine' NodesIn.mono ?q55_0 ?q55_1; (case q55_0 => assumption); (case q55_1 => ktn_no "Mine.sub"))))))
  | op ho hl hr =>
    cases hR with
    | op hm h1 h2 =>
      refine wpAny_call ?_
      k_dflt k_enter
      (first | (refine letA ?_; intro A9 e9) | skip)
      k_steps
      (refine' ret _ _ _ _ ?e59_0 ?e59_1 ?eF59 ?eN59; (case eN59 => exact tXop (by k_asm)); (case eF59 => k_asm); (case e59_0 => ktn_no "Mine.apart"); (case e59_1 => (refine' ExprIn.op ?q58_0 ?q58_1 ?q58_2 ?q58_3; (case q58_0 => k_mem); (case q58_1 => k_mem); (case q58_2 => ktn_no "Mine.rel"); (case q58_3 => ktn_no "Mine.rel"))))
  | btw hl hr hz =>
    cases hR with
    | btw hm h1 h2 h3 =>
      refine wpAny_call ?_
      k_dflt k_enter
      (first | (refine letA ?_; intro A9 e9) | skip)
      k_steps
      (refine' ret _ _ _ _ ?e61_0 ?e61_1 ?eF61 ?eN61; (case eN61 => exact tXbtw (by k_asm)); (case eF61 => k_asm); (case e61_0 => ktn_no "Mine.apart"); (case e61_1 => (refine' ExprIn.btw ?q60_0 ?q60_1 ?q60_2 ?q60_3 ?q60_4; (case q60_0 => k_mem); (case q60_1 => k_mem); (case q60_2 => ktn_no "Mine.rel"); (case q60_3 => ktn_no "Mine.rel"); (case q60_4 => ktn_no "Mine.rel"))))
  | null hl =>
    cases hR with
    | null hm h1 =>
      refine wpAny_call ?_
      k_dflt k_enter
      (first | (refine letA ?_; intro A9 e9) | skip)
      k_steps
      (refine' ret _ _ _ _ ?e63_0 ?e63_1 ?eF63 ?eN63; (case eN63 => exact tXnull (by k_asm)); (case eF63 => k_asm); (case e63_0 => ktn_no "Mine.apart"); (case e63_1 => (refine' ExprIn.null ?q62_0 ?q62_1 ?q62_2; (case q62_0 => k_mem); (case q62_1 => k_mem); (case q62_2 => ktn_no "Mine.rel"))))
end
example : True := by
  (k_with "CR" => (((with_reducible show wpAny _ _ (call (Value.ref 754) _) _ _ _); k_dflt (refine' expr_c ?cz73 ?Nz73 ?p0z73 ?p1z73 ?p2z73 ?_; (case cz73 => ktn_no "Mine.cx"); (case Nz73 => k_asm); (case p0z73 => ktn_no "Mine.rel"); (case p1z73 => k_asm); (case p2z73 => ktn_no "Mine.rel"); k_whole); intro r' tl' h' tk' ha' hn' F' N'; (try k_sweep); ktn_no "Mine.aft")))
  trivial
-- B10
section
variable {a b c : Str} {x y z : Value}
theorem vAt0 {inst : DecidableEq Str} : @valueAt Str inst [(a, x), (b, y), (c, z)] a = some x := by simp [valueAt]
theorem vAt1 {inst : DecidableEq Str} (h : a ≠ b) : @valueAt Str inst [(a, x), (b, y), (c, z)] b = some y := by simp [valueAt, h]
theorem vAt2 {inst : DecidableEq Str} (h : a ≠ c) (k : b ≠ c) : @valueAt Str inst [(a, x), (b, y), (c, z)] c = some z := by simp [valueAt, h, k]
end
theorem dict_get {prog : Program} {w : World} {A : Around} {E : Value → Shared → Prop} {s : Shared} {h₀ : Heap} {L d : Addr} {news : List (Addr × Obj)} {o : Obj} {kvs : List (Str × Value)} {x : Str} {t : Tok} {v : Value} {Q : Value → Shared → Prop}
    (N : News h₀ L s.heap news) (hp : (d, o) ∈ news) (hd : o.IsDictOf (PySem.strKind prog w) kvs) (hl : valueAt kvs x = some v) (h : Q v { s with toks := s.toks + 1 }) : wpAny (model prog w) A (getItem (.ref d) (.str x t)) Q E s :=
  wpAny_getItem_of (strKind_is _ _ _ _) (kda_dict N hp hd).mapOf hl h
inductive Aff where | integer | text | numeric | blob
noncomputable abbrev Aff.str : Aff → Str
  | .integer => Str.ofString "integer" | .text => Str.ofString "text" | .numeric => Str.ofString "numeric" | .blob => Str.ofString "blob"
theorem aff_of_mem {x : Str} (h : x ∈ AFFS) : ∃ a : Aff, x = a.str := by
  simp only [AFFS, List.mem_cons, List.not_mem_nil, or_false] at h
  rcases h with rfl | rfl | rfl | rfl
  · exact ⟨.integer, rfl⟩
  · exact ⟨.text, rfl⟩
  · exact ⟨.numeric, rfl⟩
  · exact ⟨.blob, rfl⟩
/-- the affinity of each column -/
structure Cols.AffIs (k : Cols) (f : Col → Aff) : Prop where
  is : ∀ i, k.aff i = (f i).str
theorem Cols.Ok.affIs {k : Cols} (h : k.Ok) : ∃ f : Col → Aff, k.AffIs f := by
  have : ∀ i, ∃ a : Aff, k.aff i = a.str := fun i => aff_of_mem (h.aff i)
  exact ⟨fun i => (this i).choose, ⟨fun i => (this i).choose_spec⟩⟩
inductive Ty where | int | text | blob
noncomputable abbrev Ty.str : Ty → Str
  | .int => Str.ofString "INT" | .text => Str.ofString "TEXT" | .blob => Str.ofString "BLOB"
noncomputable def Ty.aff : Ty → Aff
  | .int => .integer | .text => .text | .blob => .blob
theorem types_cases {x : Str} (h : x ∈ TYPES) : x = Str.ofString "INT" ∨ x = Str.ofString "TEXT" ∨ x = Str.ofString "BLOB" := by
  simpa only [TYPES, List.mem_cons, List.not_mem_nil, or_false] using h
theorem names_cases {x : Str} (h : x ∈ NAMES) : x = Str.ofString "nocase" ∨ x = Str.ofString "RTRIM" ∨ x = Str.ofString "binary" := by
  simpa only [NAMES, List.mem_cons, List.not_mem_nil, or_false] using h
open Classical in
noncomputable def tyAff (x : Str) : Aff := if x = Str.ofString "INT" then .integer else if x = Str.ofString "TEXT" then .text else .blob
open Classical in
noncomputable def lowS (x : Str) : Str := if x = Str.ofString "RTRIM" then Str.ofString "rtrim" else x
theorem tyAff_int : tyAff (Str.ofString "INT") = .integer := by unfold tyAff; rw [if_pos rfl]
theorem tyAff_text : tyAff (Str.ofString "TEXT") = .text := by unfold tyAff; rw [if_neg (by decide), if_pos rfl]
theorem tyAff_blob : tyAff (Str.ofString "BLOB") = .blob := by unfold tyAff; rw [if_neg (by decide), if_neg (by decide)]
theorem lowS_nocase : lowS (Str.ofString "nocase") = Str.ofString "nocase" := by unfold lowS; rw [if_neg (by decide)]
theorem lowS_rtrim : lowS (Str.ofString "RTRIM") = Str.ofString "rtrim" := by unfold lowS; rw [if_pos rfl]
theorem lowS_binary : lowS (Str.ofString "binary") = Str.ofString "binary" := by unfold lowS; rw [if_neg (by decide)]
theorem dict_ty {prog : Program} {w : World} {A : Around} {E : Value → Shared → Prop} {s : Shared} {h₀ : Heap} {L d : Addr} {news : List (Addr × Obj)} {o : Obj} {t1 t2 t3 : Tok} {x : Str} {t : Tok} {Q : Value → Shared → Prop}
    (N : News h₀ L s.heap news) (hd : o.IsDictOf (PySem.strKind prog w) [(Str.ofString "INT", .str (Str.ofString "integer") t1), (Str.ofString "TEXT", .str (Str.ofString "text") t2), (Str.ofString "BLOB", .str (Str.ofString "blob") t3)]) (hp : (d, o) ∈ news) (hx : x ∈ TYPES)
    (h : ∀ t', Q (.str (tyAff x).str t') { s with toks := s.toks + 1 }) : wpAny (model prog w) A (getItem (.ref d) (.str x t)) Q E s := by
  rcases types_cases hx with rfl | rfl | rfl
  · exact dict_get N hp hd vAt0 (by have := h t1; rw [tyAff_int] at this; exact this)
  · exact dict_get N hp hd (vAt1 (by decide)) (by have := h t2; rw [tyAff_text] at this; exact this)
  · exact dict_get N hp hd (vAt2 (by decide) (by decide)) (by have := h t3; rw [tyAff_blob] at this; exact this)
noncomputable def Side.affn (f : Col → Aff) : Side → Option Aff
  | .col i => some (f i) | .lit _ => none | .cast _ ty => some (tyAff ty) | .coll x _ => x.affn f
noncomputable def Side.expl : Side → Option Str
  | .col _ => none | .lit _ => none | .cast x _ => x.expl | .coll _ c => some (lowS c)
noncomputable def Side.ofcol (k : Cols) : Side → Option Str
  | .col i => some (k.coll i) | .lit _ => none | .cast x _ => x.ofcol k | .coll _ _ => none
noncomputable def Side.own : Side → Bool
  | .col i => i.t == 1 | .lit _ => false | .cast x _ => x.own | .coll x _ => x.own
inductive OA : Value → Option Aff → Prop
  | none : OA .none none
  | some (a : Aff) (t : Tok) : OA (.str a.str t) (some a)
inductive OS : Value → Option Str → Prop
  | none : OS .none none
  | some (x : Str) (t : Tok) : OS (.str x t) (some x)
/-- what an affinity does to the other's -/
noncomputable def ledS : Option Aff → Option Aff → Option Aff × Option Aff
  | some .integer, some .integer => (none, none) | some .integer, some .numeric => (none, none) | some .integer, _ => (none, some .numeric)
  | some .numeric, some .integer => (none, none) | some .numeric, some .numeric => (none, none) | some .numeric, _ => (none, some .numeric)
  | _, some .integer => (some .numeric, none) | _, some .numeric => (some .numeric, none)
  | some .text, none => (none, some .text) | none, some .text => (some .text, none)
  | _, _ => (none, none)
-- A10
theorem own0_c {prog : Program} {w : World} {dp un : Nat} {gd : Option (List Code)} {cn : Str} {cs : Scope} {a : Addr} {ccd : Value} {cl : List (Str × Addr)} {outer : List Env} {A₀ : Around} {base h₀ : Heap} {L : Addr} {m : Str → Option Value} {p : Program} {loose : List Str} {mean : ExcName → Option Value} {mg mb : Str → Option Value} {hp : Heap} {gs : Array GenState} {dr : Drawn} {tk : Nat} {os : OsState} {Q E : Value → Shared → Prop} {news : List (Addr × Obj)} {v : Value} {d : Side}
    (c : Cx w dp un 885 8920 cs A₀ base outer h₀ L hp m p loose mean mg mb) (N : News h₀ L hp (news)) (hR : SideIn news v d) (hB : d.Base)
    (ret : ∀ b h₁ tk₁, b = d.own → Fr h₀ L h₁ m → News h₀ L h₁ news → Q (.bool b) ⟨h₁, gs, dr, tk₁, os⟩) :
    wpAny (model prog w) (ktrTop dp un gd cn cs L a ccd cl outer) (call (.ref 735) [v]) Q E ⟨hp, gs, dr, tk, os⟩ := by
  obtain ⟨B, F, X, T, hk, hdp, hun⟩ := c
  refine lowerK hdp hun ?_
  cases hB with
  | col i =>
    cases hR with
    | col _ hm =>
      k_dflt (refine' enterM (binds := [(Str.ofString "told", _)]) ?k0 ?k1 ?k2 ?k3 ?k4 ?k5 ?kA ?kF ?kK ?k6 ?k7 ?k8 ?k9 ?kB ?c2 ?_; (case k0 => exact rfl); (case kA => exact rfl); (case kF => exact rfl); (case kK => assumption); (case k1 => k_asm); (case k2 => k_asm); (case k3 => k_asm); (case k4 => k_asm); (case k5 => k_asm); (case k6 => k_is); (case k7 => k_is); (case k8 => exact Nat.le_of_ble_eq_true rfl); (case k9 => kernel_rfl!); (case kB => kernel_rfl!); (case c2 => kernel_rfl!); k_whole; intro g' L' h' t' FG' F' N' B' X' T' e9 A9 qk ek)
      k_steps
      (refine' ret _ _ _ ?e64_0 ?eF64 ?eN64; (case eN64 => ktn_no "Mine.N"); (case eF64 => k_asm); (case e64_0 => rfl))
  | lit lv =>
    cases hR with
    | lit hm hv =>
      k_dflt (refine' enterM (binds := [(Str.ofString "told", _)]) ?k0 ?k1 ?k2 ?k3 ?k4 ?k5 ?kA ?kF ?kK ?k6 ?k7 ?k8 ?k9 ?kB ?c2 ?_; (case k0 => exact rfl); (case kA => exact rfl); (case kF => exact rfl); (case kK => assumption); (case k1 => k_asm); (case k2 => k_asm); (case k3 => k_asm); (case k4 => k_asm); (case k5 => k_asm); (case k6 => k_is); (case k7 => k_is); (case k8 => exact Nat.le_of_ble_eq_true rfl); (case k9 => kernel_rfl!); (case kB => kernel_rfl!); (case c2 => kernel_rfl!); k_whole; intro g' L' h' t' FG' F' N' B' X' T' e9 A9 qk ek)
      k_steps
      (refine' ret _ _ _ ?e65_0 ?eF65 ?eN65; (case eN65 => ktn_no "Mine.N"); (case eF65 => k_asm); (case e65_0 => exact bne_self_eq_false _))
example : True := by
  (k_with "CR" => (((with_reducible show wpAny _ _ (call (Value.ref 735) _) _ _ _); k_dflt (refine' own0_c ?cz74 ?Nz74 ?p0z74 ?p1z74 ?_; (case cz74 => ktn_no "Mine.cx"); (case Nz74 => k_asm); (case p0z74 => ktn_no "Mine.rel"); (case p1z74 => k_asm); k_whole); intro b' h' tk' e' F' N'; (try k_sweep); subst e'; ktn_no "Mine.aft")))
  trivial
theorem own1_c {prog : Program} {w : World} {dp un : Nat} {gd : Option (List Code)} {cn : Str} {cs : Scope} {a : Addr} {ccd : Value} {cl : List (Str × Addr)} {outer : List Env} {A₀ : Around} {base h₀ : Heap} {L : Addr} {m : Str → Option Value} {p : Program} {loose : List Str} {mean : ExcName → Option Value} {mg mb : Str → Option Value} {hp : Heap} {gs : Array GenState} {dr : Drawn} {tk : Nat} {os : OsState} {Q E : Value → Shared → Prop} {news : List (Addr × Obj)} {v : Value} {d : Side}
    (c : Cx w dp un 870 8840 cs A₀ base outer h₀ L hp m p loose mean mg mb) (N : News h₀ L hp (news)) (hR : SideIn news v d) (hB : d.Ok)
    (ret : ∀ b h₁ tk₁, b = d.own → Fr h₀ L h₁ m → News h₀ L h₁ news → Q (.bool b) ⟨h₁, gs, dr, tk₁, os⟩) :
    wpAny (model prog w) (ktrTop dp un gd cn cs L a ccd cl outer) (call (.ref 735) [v]) Q E ⟨hp, gs, dr, tk, os⟩ := by
  obtain ⟨B, F, X, T, hk, hdp, hun⟩ := c
  refine lowerK hdp hun ?_
  cases hB with
  | base hB => exact own0_c ⟨B, F, X, T, hk, by decide, by decide⟩ N hR hB ret
  | cast hB ht =>
    cases hR with
    | cast hm hx =>
      k_dflt (refine' enterM (binds := [(Str.ofString "told", _)]) ?k0 ?k1 ?k2 ?k3 ?k4 ?k5 ?kA ?kF ?kK ?k6 ?k7 ?k8 ?k9 ?kB ?c2 ?_; (case k0 => exact rfl); (case kA => exact rfl); (case kF => exact rfl); (case kK => assumption); (case k1 => k_asm); (case k2 => k_asm); (case k3 => k_asm); (case k4 => k_asm); (case k5 => k_asm); (case k6 => k_is); (case k7 => k_is); (case k8 => exact Nat.le_of_ble_eq_true rfl); (case k9 => kernel_rfl!); (case kB => kernel_rfl!); (case c2 => kernel_rfl!); k_whole; intro g' L' h' t' FG' F' N' B' X' T' e9 A9 qk ek)
      k_steps
      (refine' ret _ _ _ ?e66_0 ?eF66 ?eN66; (case eN66 => ktn_no "Mine.N"); (case eF66 => k_asm); (case e66_0 => (first | rfl | assumption)))
  | coll hB ht =>
    cases hR with
    | coll hm hx =>
      k_dflt (refine' enterM (binds := [(Str.ofString "told", _)]) ?k0 ?k1 ?k2 ?k3 ?k4 ?k5 ?kA ?kF ?kK ?k6 ?k7 ?k8 ?k9 ?kB ?c2 ?_; (case k0 => exact rfl); (case kA => exact rfl); (case kF => exact rfl); (case kK => assumption); (case k1 => k_asm); (case k2 => k_asm); (case k3 => k_asm); (case k4 => k_asm); (case k5 => k_asm); (case k6 => k_is); (case k7 => k_is); (case k8 => exact Nat.le_of_ble_eq_true rfl); (case k9 => kernel_rfl!); (case kB => kernel_rfl!); (case c2 => kernel_rfl!); k_whole; intro g' L' h' t' FG' F' N' B' X' T' e9 A9 qk ek)
      k_steps
      (refine' ret _ _ _ ?e67_0 ?eF67 ?eN67; (case eN67 => ktn_no "Mine.N"); (case eF67 => k_asm); (case e67_0 => (first | rfl | assumption)))
example : True := by
  (k_with "CR" => (((with_reducible show wpAny _ _ (call (Value.ref 735) _) _ _ _); k_dflt (refine' own1_c ?cz75 ?Nz75 ?p0z75 ?p1z75 ?_; (case cz75 => ktn_no "Mine.cx"); (case Nz75 => k_asm); (case p0z75 => ktn_no "Mine.rel"); (case p1z75 => k_asm); k_whole); intro b' h' tk' e' F' N'; (try k_sweep); subst e'; ktn_no "Mine.aft")))
  trivial
-- A11
section
example : True := by
  (k_with "L76" => (((try dsimp only); k_dflt (refine' kdp_made_str ?z1z76 ?z2z76 (Top.nolimit (by k_asm)) (by rfl) ?z3z76 (by rfl) ?_; (case z1z76 => k_asm); (case z2z76 => k_asm); (case z3z76 => (dsimp only [strPairs, List.map]; decide))); intro h' o' F' N' l1 lo' hd' hf' ap'; (try k_lt l1))))
  trivial
local macro_rules | `(tactic| walk_at "Exists") => `(tactic| k_extra "L76")
example : True := by
  (k_with "L77" => ((k_dflt (with_reducible refine' Dict_made_str ?z1z77 ?z2z77 ?z3z77 ?z4z77 (List.cons_ne_nil _ _) ?z5z77 ?_; (case z1z77 => rfl); (case z2z77 => with_reducible assumption); (case z3z77 => rfl); (case z4z77 => rfl); (case z5z77 => exact Nat.le_of_ble_eq_true rfl)); intro _)))
  trivial
local macro_rules | `(tactic| walk_at "eval Dict") => `(tactic| k_extra "L77")
example : True := by
  (k_with "L78" => ((k_dflt (refine' dict_ty ?z1z78 ?z3z78 ?z2z78 ?z4z78 ?_; (case z1z78 => k_asm); (case z3z78 => assumption); (case z2z78 => k_mem); (case z4z78 => assumption)); intro t'; (try dsimp only))))
  trivial
local macro_rules | `(tactic| walk_at "getItem ref str") => `(tactic| k_extra "L78")
example : True := by
  (k_with "L79" => (((with_reducible show wpAny _ _ (subscriptTail _ _ (Value.ref _) (Value.int _ _)) _ _ _); k_dflt (refine' item_at ?z1z79 ?z2z79 ?z3z79 ?z4z79 ?z5z79 ?_; (case z1z79 => k_asm); (case z2z79 => with_reducible assumption); (case z3z79 => decide); (case z4z79 => decide); (case z5z79 => rfl)))))
  trivial
local macro_rules | `(tactic| walk_at "subscriptTail") => `(tactic| k_extra "L79")
example : True := by
  (k_with "L80" => (((with_reducible show wpAny _ _ (subscriptTail _ _ (Value.ref _) (Value.int (Col.t _) _)) _ _ _); k_dflt (refine' kda_item (knd := PySem.intKind _ _) ?z1z80 ?z2z80 ?z3z80 (intKind_is _ _ _ _) ?z4z80 ?_; (case z1z80 => k_asm); (case z2z80 => with_reducible first | assumption | k_mem); (case z3z80 => assumption); (case z4z80 => assumption)))))
  trivial
local macro_rules | `(tactic| walk_at "subscriptTail") => `(tactic| k_extra "L80")
example : True := by
  (k_with "L81" => (((with_reducible show wpAny _ _ (subscriptTail _ _ (Value.ref _) (Value.int (Col.c _) _)) _ _ _); k_dflt (refine' item_at ?z1z81 ?z2z81 ?z3z81 ?z4z81 ?z5z81 ?_; (case z1z81 => k_asm); (case z2z81 => k_mem); (case z3z81 => omega); (case z4z81 => omega); (case z5z81 => assumption)))))
  trivial
local macro_rules | `(tactic| walk_at "subscriptTail") => `(tactic| k_extra "L81")
theorem aff0_c {prog : Program} {w : World} {dp un : Nat} {gd : Option (List Code)} {cn : Str} {cs : Scope} {a : Addr} {ccd : Value} {cl : List (Str × Addr)} {outer : List Env} {A₀ : Around} {base h₀ : Heap} {L : Addr} {m : Str → Option Value} {p : Program} {loose : List Str} {mean : ExcName → Option Value} {mg mb : Str → Option Value} {hp : Heap} {gs : Array GenState} {dr : Drawn} {tk : Nat} {os : OsState} {Q E : Value → Shared → Prop} {news : List (Addr × Obj)} {v : Value} {d : Side} {cv : Value} {k : Cols} {f : Col → Aff}
    (c : Cx w dp un 885 8920 cs A₀ base outer h₀ L hp m p loose mean mg mb) (N : News h₀ L hp (news)) (hR : SideIn news v d) (hB : d.Base) (hC : ColsIn prog w news cv k) (hK : k.AffIs f)
    (ret : ∀ r h₁ tk₁, OA r (d.affn f) → Fr h₀ L h₁ m → News h₀ L h₁ news → Q r ⟨h₁, gs, dr, tk₁, os⟩) :
    wpAny (model prog w) (ktrTop dp un gd cn cs L a ccd cl outer) (call (.ref 709) [v, cv]) Q E ⟨hp, gs, dr, tk, os⟩ := by
  obtain ⟨B, F, X, T, hk, hdp, hun⟩ := c
  refine lowerK hdp hun ?_
  cases hB with
  | col i =>
    cases hR with
    | col _ hm =>
      obtain ⟨d, e, o, kvs, D, l, items, n, mm, ta, tc, he, ho, hv, hD, hi, hl⟩ := hC.ent i
      subst e
      have hbt := i.bt
      have hbc := i.bc
      k_dflt (refine' enterM (binds := [(Str.ofString "told", _), (Str.ofString "columns", _)]) ?k0 ?k1 ?k2 ?k3 ?k4 ?k5 ?kA ?kF ?kK ?k6 ?k7 ?k8 ?k9 ?kB ?c2 ?_; (case k0 => exact rfl); (case kA => exact rfl); (case kF => exact rfl); (case kK => assumption); (case k1 => k_asm); (case k2 => k_asm); (case k3 => k_asm); (case k4 => k_asm); (case k5 => k_asm); (case k6 => k_is); (case k7 => k_is); (case k8 => exact Nat.le_of_ble_eq_true rfl); (case k9 => kernel_rfl!); (case kB => kernel_rfl!); (case c2 => kernel_rfl!); k_whole; intro g' L' h' t' FG' F' N' B' X' T' e9 A9 qk ek)
      k_steps
      (refine' ret _ _ _ ?e68_0 ?eF68 ?eN68; (case eN68 => ktn_no "Mine.N"); (case eF68 => k_asm); (case e68_0 => (rw [hK.is i]; exact OA.some (f i) _)))
  | lit lv =>
    cases hR with
    | lit hm hv =>
      k_dflt (refine' enterM (binds := [(Str.ofString "told", _), (Str.ofString "columns", _)]) ?k0 ?k1 ?k2 ?k3 ?k4 ?k5 ?kA ?kF ?kK ?k6 ?k7 ?k8 ?k9 ?kB ?c2 ?_; (case k0 => exact rfl); (case kA => exact rfl); (case kF => exact rfl); (case kK => assumption); (case k1 => k_asm); (case k2 => k_asm); (case k3 => k_asm); (case k4 => k_asm); (case k5 => k_asm); (case k6 => k_is); (case k7 => k_is); (case k8 => exact Nat.le_of_ble_eq_true rfl); (case k9 => kernel_rfl!); (case kB => kernel_rfl!); (case c2 => kernel_rfl!); k_whole; intro g' L' h' t' FG' F' N' B' X' T' e9 A9 qk ek)
      k_steps
      (refine' ret _ _ _ ?e69_0 ?eF69 ?eN69; (case eN69 => ktn_no "Mine.N"); (case eF69 => k_asm); (case e69_0 => exact OA.none))
example : True := by
  (k_with "L82" => (((with_reducible show wpAny _ _ (call (Value.ref 709) _) _ _ _); k_dflt (refine' aff0_c ?cz82 ?Nz82 ?p0z82 ?p1z82 ?p2z82 ?p3z82 ?_; (case cz82 => ktn_no "Mine.cx"); (case Nz82 => k_asm); (case p0z82 => ktn_no "Mine.rel"); (case p1z82 => k_asm); (case p2z82 => ktn_no "Mine.rel"); (case p3z82 => k_asm); k_whole); intro r' h' tk' hr' F' N'; (try k_sweep); ktn_no "Mine.aft")))
  trivial
local macro_rules | `(tactic| walk_at "call ref") => `(tactic| k_extra "L82")
theorem aff1_c {prog : Program} {w : World} {dp un : Nat} {gd : Option (List Code)} {cn : Str} {cs : Scope} {a : Addr} {ccd : Value} {cl : List (Str × Addr)} {outer : List Env} {A₀ : Around} {base h₀ : Heap} {L : Addr} {m : Str → Option Value} {p : Program} {loose : List Str} {mean : ExcName → Option Value} {mg mb : Str → Option Value} {hp : Heap} {gs : Array GenState} {dr : Drawn} {tk : Nat} {os : OsState} {Q E : Value → Shared → Prop} {news : List (Addr × Obj)} {v : Value} {d : Side} {cv : Value} {k : Cols} {f : Col → Aff}
    (c : Cx w dp un 870 8840 cs A₀ base outer h₀ L hp m p loose mean mg mb) (N : News h₀ L hp (news)) (hR : SideIn news v d) (hB : d.Ok) (hC : ColsIn prog w news cv k) (hK : k.AffIs f)
    (ret : ∀ r h₁ tk₁, OA r (d.affn f) → Fr h₀ L h₁ m → News h₀ L h₁ news → Q r ⟨h₁, gs, dr, tk₁, os⟩) :
    wpAny (model prog w) (ktrTop dp un gd cn cs L a ccd cl outer) (call (.ref 709) [v, cv]) Q E ⟨hp, gs, dr, tk, os⟩ := by
  obtain ⟨B, F, X, T, hk, hdp, hun⟩ := c
  refine lowerK hdp hun ?_
  cases hB with
  | base hB => exact aff0_c ⟨B, F, X, T, hk, by decide, by decide⟩ N hR hB hC hK ret
  | cast hB ht =>
    cases hR with
    | cast hm hx =>
      k_dflt (refine' enterM (binds := [(Str.ofString "told", _), (Str.ofString "columns", _)]) ?k0 ?k1 ?k2 ?k3 ?k4 ?k5 ?kA ?kF ?kK ?k6 ?k7 ?k8 ?k9 ?kB ?c2 ?_; (case k0 => exact rfl); (case kA => exact rfl); (case kF => exact rfl); (case kK => assumption); (case k1 => k_asm); (case k2 => k_asm); (case k3 => k_asm); (case k4 => k_asm); (case k5 => k_asm); (case k6 => k_is); (case k7 => k_is); (case k8 => exact Nat.le_of_ble_eq_true rfl); (case k9 => kernel_rfl!); (case kB => kernel_rfl!); (case c2 => kernel_rfl!); k_whole; intro g' L' h' t' FG' F' N' B' X' T' e9 A9 qk ek)
      k_steps
      (refine' ret _ _ _ ?e70_0 ?eF70 ?eN70; (case eN70 => ktn_no "Mine.N"); (case eF70 => k_asm); (case e70_0 => exact OA.some (tyAff _) _))
  | coll hB ht =>
    cases hR with
    | coll hm hx =>
      k_dflt (refine' enterM (binds := [(Str.ofString "told", _), (Str.ofString "columns", _)]) ?k0 ?k1 ?k2 ?k3 ?k4 ?k5 ?kA ?kF ?kK ?k6 ?k7 ?k8 ?k9 ?kB ?c2 ?_; (case k0 => exact rfl); (case kA => exact rfl); (case kF => exact rfl); (case kK => assumption); (case k1 => k_asm); (case k2 => k_asm); (case k3 => k_asm); (case k4 => k_asm); (case k5 => k_asm); (case k6 => k_is); (case k7 => k_is); (case k8 => exact Nat.le_of_ble_eq_true rfl); (case k9 => kernel_rfl!); (case kB => kernel_rfl!); (case c2 => kernel_rfl!); k_whole; intro g' L' h' t' FG' F' N' B' X' T' e9 A9 qk ek)
      k_steps
      (refine' ret _ _ _ ?e71_0 ?eF71 ?eN71; (case eN71 => ktn_no "Mine.N"); (case eF71 => k_asm); (case e71_0 => assumption))
end
example : True := by
  (k_with "CR" => (((with_reducible show wpAny _ _ (call (Value.ref 709) _) _ _ _); k_dflt (refine' aff1_c ?cz83 ?Nz83 ?p0z83 ?p1z83 ?p2z83 ?p3z83 ?_; (case cz83 => ktn_no "Mine.cx"); (case Nz83 => k_asm); (case p0z83 => ktn_no "Mine.rel"); (case p1z83 => k_asm); (case p2z83 => ktn_no "Mine.rel"); (case p3z83 => k_asm); k_whole); intro r' h' tk' hr' F' N'; (try k_sweep); ktn_no "Mine.aft")))
  trivial
-- A12
theorem exp0_c {prog : Program} {w : World} {dp un : Nat} {gd : Option (List Code)} {cn : Str} {cs : Scope} {a : Addr} {ccd : Value} {cl : List (Str × Addr)} {outer : List Env} {A₀ : Around} {base h₀ : Heap} {L : Addr} {m : Str → Option Value} {p : Program} {loose : List Str} {mean : ExcName → Option Value} {mg mb : Str → Option Value} {hp : Heap} {gs : Array GenState} {dr : Drawn} {tk : Nat} {os : OsState} {Q E : Value → Shared → Prop} {news : List (Addr × Obj)} {v : Value} {d : Side}
    (c : Cx w dp un 885 8920 cs A₀ base outer h₀ L hp m p loose mean mg mb) (N : News h₀ L hp (news)) (hR : SideIn news v d) (hB : d.Base)
    (ret : ∀ r h₁ tk₁, OS r d.expl → Fr h₀ L h₁ m → News h₀ L h₁ news → Q r ⟨h₁, gs, dr, tk₁, os⟩) :
    wpAny (model prog w) (ktrTop dp un gd cn cs L a ccd cl outer) (call (.ref 716) [v]) Q E ⟨hp, gs, dr, tk, os⟩ := by
  obtain ⟨B, F, X, T, hk, hdp, hun⟩ := c
  refine lowerK hdp hun ?_
  cases hB with
  | col i =>
    cases hR with
    | col _ hm =>
      k_dflt (refine' enterM (binds := [(Str.ofString "told", _)]) ?k0 ?k1 ?k2 ?k3 ?k4 ?k5 ?kA ?kF ?kK ?k6 ?k7 ?k8 ?k9 ?kB ?c2 ?_; (case k0 => exact rfl); (case kA => exact rfl); (case kF => exact rfl); (case kK => assumption); (case k1 => k_asm); (case k2 => k_asm); (case k3 => k_asm); (case k4 => k_asm); (case k5 => k_asm); (case k6 => k_is); (case k7 => k_is); (case k8 => exact Nat.le_of_ble_eq_true rfl); (case k9 => kernel_rfl!); (case kB => kernel_rfl!); (case c2 => kernel_rfl!); k_whole; intro g' L' h' t' FG' F' N' B' X' T' e9 A9 qk ek)
      k_steps
      (refine' ret _ _ _ ?e72_0 ?eF72 ?eN72; (case eN72 => ktn_no "Mine.N"); (case eF72 => k_asm); (case e72_0 => exact OS.none))
  | lit lv =>
    cases hR with
    | lit hm hv =>
      k_dflt (refine' enterM (binds := [(Str.ofString "told", _)]) ?k0 ?k1 ?k2 ?k3 ?k4 ?k5 ?kA ?kF ?kK ?k6 ?k7 ?k8 ?k9 ?kB ?c2 ?_; (case k0 => exact rfl); (case kA => exact rfl); (case kF => exact rfl); (case kK => assumption); (case k1 => k_asm); (case k2 => k_asm); (case k3 => k_asm); (case k4 => k_asm); (case k5 => k_asm); (case k6 => k_is); (case k7 => k_is); (case k8 => exact Nat.le_of_ble_eq_true rfl); (case k9 => kernel_rfl!); (case kB => kernel_rfl!); (case c2 => kernel_rfl!); k_whole; intro g' L' h' t' FG' F' N' B' X' T' e9 A9 qk ek)
      k_steps
      (refine' ret _ _ _ ?e73_0 ?eF73 ?eN73; (case eN73 => ktn_no "Mine.N"); (case eF73 => k_asm); (case e73_0 => exact OS.none))
example : True := by
  (k_with "CR" => (((with_reducible show wpAny _ _ (call (Value.ref 716) _) _ _ _); k_dflt (refine' exp0_c ?cz84 ?Nz84 ?p0z84 ?p1z84 ?_; (case cz84 => ktn_no "Mine.cx"); (case Nz84 => k_asm); (case p0z84 => ktn_no "Mine.rel"); (case p1z84 => k_asm); k_whole); intro r' h' tk' hr' F' N'; (try k_sweep); ktn_no "Mine.aft")))
  trivial
theorem exp1_c {prog : Program} {w : World} {dp un : Nat} {gd : Option (List Code)} {cn : Str} {cs : Scope} {a : Addr} {ccd : Value} {cl : List (Str × Addr)} {outer : List Env} {A₀ : Around} {base h₀ : Heap} {L : Addr} {m : Str → Option Value} {p : Program} {loose : List Str} {mean : ExcName → Option Value} {mg mb : Str → Option Value} {hp : Heap} {gs : Array GenState} {dr : Drawn} {tk : Nat} {os : OsState} {Q E : Value → Shared → Prop} {news : List (Addr × Obj)} {v : Value} {d : Side}
    (c : Cx w dp un 870 8840 cs A₀ base outer h₀ L hp m p loose mean mg mb) (N : News h₀ L hp (news)) (hR : SideIn news v d) (hB : d.Ok)
    (ret : ∀ r h₁ tk₁, OS r d.expl → Fr h₀ L h₁ m → News h₀ L h₁ news → Q r ⟨h₁, gs, dr, tk₁, os⟩) :
    wpAny (model prog w) (ktrTop dp un gd cn cs L a ccd cl outer) (call (.ref 716) [v]) Q E ⟨hp, gs, dr, tk, os⟩ := by
  obtain ⟨B, F, X, T, hk, hdp, hun⟩ := c
  refine lowerK hdp hun ?_
  cases hB with
  | base hB => exact exp0_c ⟨B, F, X, T, hk, by decide, by decide⟩ N hR hB ret
  | cast hB ht =>
    cases hR with
    | cast hm hx =>
      k_dflt (refine' enterM (binds := [(Str.ofString "told", _)]) ?k0 ?k1 ?k2 ?k3 ?k4 ?k5 ?kA ?kF ?kK ?k6 ?k7 ?k8 ?k9 ?kB ?c2 ?_; (case k0 => exact rfl); (case kA => exact rfl); (case kF => exact rfl); (case kK => assumption); (case k1 => k_asm); (case k2 => k_asm); (case k3 => k_asm); (case k4 => k_asm); (case k5 => k_asm); (case k6 => k_is); (case k7 => k_is); (case k8 => exact Nat.le_of_ble_eq_true rfl); (case k9 => kernel_rfl!); (case kB => kernel_rfl!); (case c2 => kernel_rfl!); k_whole; intro g' L' h' t' FG' F' N' B' X' T' e9 A9 qk ek)
      k_steps
      (refine' ret _ _ _ ?e74_0 ?eF74 ?eN74; (case eN74 => ktn_no "Mine.N"); (case eF74 => k_asm); (case e74_0 => assumption))
  | coll hB ht =>
    cases hR with
    | coll hm hx =>
      rcases names_cases ht with rfl | rfl | rfl
      · refine wpAny_call ?_
        k_dflt ktr_enter
        (first | (refine letA ?_; intro A9 e9) | skip)
        k_steps
        (refine' ret _ _ _ ?e75_0 ?eF75 ?eN75; (case eN75 => ktn_no "Mine.N"); (case eF75 => k_asm); (case e75_0 => (simp only [Side.expl, lowS_nocase]; first | exact OS.some _ _ | (trace_state; fail))))
      · refine wpAny_call ?_
        k_dflt ktr_enter
        (first | (refine letA ?_; intro A9 e9) | skip)
        k_steps
        (refine' ret _ _ _ ?e76_0 ?eF76 ?eN76; (case eN76 => ktn_no "Mine.N"); (case eF76 => k_asm); (case e76_0 => (simp only [Side.expl, lowS_rtrim]; first | exact OS.some _ _ | (trace_state; fail))))
      · refine wpAny_call ?_
        k_dflt ktr_enter
        (first | (refine letA ?_; intro A9 e9) | skip)
        k_steps
        (refine' ret _ _ _ ?e77_0 ?eF77 ?eN77; (case eN77 => ktn_no "Mine.N"); (case eF77 => k_asm); (case e77_0 => (simp only [Side.expl, lowS_binary]; first | exact OS.some _ _ | (trace_state; fail))))

example : True := by
  (k_with "CR" => (((with_reducible show wpAny _ _ (call (Value.ref 716) _) _ _ _); k_dflt (refine' exp1_c ?cz85 ?Nz85 ?p0z85 ?p1z85 ?_; (case cz85 => ktn_no "Mine.cx"); (case Nz85 => k_asm); (case p0z85 => ktn_no "Mine.rel"); (case p1z85 => k_asm); k_whole); intro r' h' tk' hr' F' N'; (try k_sweep); ktn_no "Mine.aft")))
  trivial
-- A13
section
example : True := by
  (k_with "L86" => (((with_reducible show wpAny _ _ (subscriptTail _ _ (Value.ref _) (Value.int _ _)) _ _ _); k_dflt (refine' item_at ?z1z86 ?z2z86 ?z3z86 ?z4z86 ?z5z86 ?_; (case z1z86 => k_asm); (case z2z86 => with_reducible assumption); (case z3z86 => decide); (case z4z86 => decide); (case z5z86 => rfl)))))
  trivial
local macro_rules | `(tactic| walk_at "subscriptTail") => `(tactic| k_extra "L86")
example : True := by
  (k_with "L87" => (((with_reducible show wpAny _ _ (subscriptTail _ _ (Value.ref _) (Value.int (Col.t _) _)) _ _ _); k_dflt (refine' kda_item (knd := PySem.intKind _ _) ?z1z87 ?z2z87 ?z3z87 (intKind_is _ _ _ _) ?z4z87 ?_; (case z1z87 => k_asm); (case z2z87 => with_reducible first | assumption | k_mem); (case z3z87 => assumption); (case z4z87 => assumption)))))
  trivial
local macro_rules | `(tactic| walk_at "subscriptTail") => `(tactic| k_extra "L87")
example : True := by
  (k_with "L88" => (((with_reducible show wpAny _ _ (subscriptTail _ _ (Value.ref _) (Value.int (Col.c _) _)) _ _ _); k_dflt (refine' item_at ?z1z88 ?z2z88 ?z3z88 ?z4z88 ?z5z88 ?_; (case z1z88 => k_asm); (case z2z88 => k_mem); (case z3z88 => omega); (case z4z88 => omega); (case z5z88 => assumption)))))
  trivial
local macro_rules | `(tactic| walk_at "subscriptTail") => `(tactic| k_extra "L88")
theorem ofc0_c {prog : Program} {w : World} {dp un : Nat} {gd : Option (List Code)} {cn : Str} {cs : Scope} {a : Addr} {ccd : Value} {cl : List (Str × Addr)} {outer : List Env} {A₀ : Around} {base h₀ : Heap} {L : Addr} {m : Str → Option Value} {p : Program} {loose : List Str} {mean : ExcName → Option Value} {mg mb : Str → Option Value} {hp : Heap} {gs : Array GenState} {dr : Drawn} {tk : Nat} {os : OsState} {Q E : Value → Shared → Prop} {news : List (Addr × Obj)} {v : Value} {d : Side} {cv : Value} {k : Cols}
    (c : Cx w dp un 885 8920 cs A₀ base outer h₀ L hp m p loose mean mg mb) (N : News h₀ L hp (news)) (hR : SideIn news v d) (hB : d.Base) (hC : ColsIn prog w news cv k)
    (ret : ∀ r h₁ tk₁, OS r (d.ofcol k) → Fr h₀ L h₁ m → News h₀ L h₁ news → Q r ⟨h₁, gs, dr, tk₁, os⟩) :
    wpAny (model prog w) (ktrTop dp un gd cn cs L a ccd cl outer) (call (.ref 723) [v, cv]) Q E ⟨hp, gs, dr, tk, os⟩ := by
  obtain ⟨B, F, X, T, hk, hdp, hun⟩ := c
  refine lowerK hdp hun ?_
  cases hB with
  | col i =>
    cases hR with
    | col _ hm =>
      obtain ⟨d, e, o, kvs, D, l, items, n, mm, ta, tc, he, ho, hv, hD, hi, hl⟩ := hC.ent i
      subst e
      have hbt := i.bt
      have hbc := i.bc
      k_dflt (refine' enterM (binds := [(Str.ofString "told", _), (Str.ofString "columns", _)]) ?k0 ?k1 ?k2 ?k3 ?k4 ?k5 ?kA ?kF ?kK ?k6 ?k7 ?k8 ?k9 ?kB ?c2 ?_; (case k0 => exact rfl); (case kA => exact rfl); (case kF => exact rfl); (case kK => assumption); (case k1 => k_asm); (case k2 => k_asm); (case k3 => k_asm); (case k4 => k_asm); (case k5 => k_asm); (case k6 => k_is); (case k7 => k_is); (case k8 => exact Nat.le_of_ble_eq_true rfl); (case k9 => kernel_rfl!); (case kB => kernel_rfl!); (case c2 => kernel_rfl!); k_whole; intro g' L' h' t' FG' F' N' B' X' T' e9 A9 qk ek)
      k_steps
      (refine' ret _ _ _ ?e78_0 ?eF78 ?eN78; (case eN78 => ktn_no "Mine.N"); (case eF78 => k_asm); (case e78_0 => exact OS.some _ _))
  | lit lv =>
    cases hR with
    | lit hm hv =>
      k_dflt (refine' enterM (binds := [(Str.ofString "told", _), (Str.ofString "columns", _)]) ?k0 ?k1 ?k2 ?k3 ?k4 ?k5 ?kA ?kF ?kK ?k6 ?k7 ?k8 ?k9 ?kB ?c2 ?_; (case k0 => exact rfl); (case kA => exact rfl); (case kF => exact rfl); (case kK => assumption); (case k1 => k_asm); (case k2 => k_asm); (case k3 => k_asm); (case k4 => k_asm); (case k5 => k_asm); (case k6 => k_is); (case k7 => k_is); (case k8 => exact Nat.le_of_ble_eq_true rfl); (case k9 => kernel_rfl!); (case kB => kernel_rfl!); (case c2 => kernel_rfl!); k_whole; intro g' L' h' t' FG' F' N' B' X' T' e9 A9 qk ek)
      k_steps
      (refine' ret _ _ _ ?e79_0 ?eF79 ?eN79; (case eN79 => ktn_no "Mine.N"); (case eF79 => k_asm); (case e79_0 => exact OS.none))
example : True := by
  (k_with "L89" => (((with_reducible show wpAny _ _ (call (Value.ref 723) _) _ _ _); k_dflt (refine' ofc0_c ?cz89 ?Nz89 ?p0z89 ?p1z89 ?p2z89 ?_; (case cz89 => ktn_no "Mine.cx"); (case Nz89 => k_asm); (case p0z89 => ktn_no "Mine.rel"); (case p1z89 => k_asm); (case p2z89 => ktn_no "Mine.rel"); k_whole); intro r' h' tk' hr' F' N'; (try k_sweep); ktn_no "Mine.aft")))
  trivial
local macro_rules | `(tactic| walk_at "call ref") => `(tactic| k_extra "L89")
theorem ofc1_c {prog : Program} {w : World} {dp un : Nat} {gd : Option (List Code)} {cn : Str} {cs : Scope} {a : Addr} {ccd : Value} {cl : List (Str × Addr)} {outer : List Env} {A₀ : Around} {base h₀ : Heap} {L : Addr} {m : Str → Option Value} {p : Program} {loose : List Str} {mean : ExcName → Option Value} {mg mb : Str → Option Value} {hp : Heap} {gs : Array GenState} {dr : Drawn} {tk : Nat} {os : OsState} {Q E : Value → Shared → Prop} {news : List (Addr × Obj)} {v : Value} {d : Side} {cv : Value} {k : Cols}
    (c : Cx w dp un 870 8840 cs A₀ base outer h₀ L hp m p loose mean mg mb) (N : News h₀ L hp (news)) (hR : SideIn news v d) (hB : d.Ok) (hC : ColsIn prog w news cv k)
    (ret : ∀ r h₁ tk₁, OS r (d.ofcol k) → Fr h₀ L h₁ m → News h₀ L h₁ news → Q r ⟨h₁, gs, dr, tk₁, os⟩) :
    wpAny (model prog w) (ktrTop dp un gd cn cs L a ccd cl outer) (call (.ref 723) [v, cv]) Q E ⟨hp, gs, dr, tk, os⟩ := by
  obtain ⟨B, F, X, T, hk, hdp, hun⟩ := c
  refine lowerK hdp hun ?_
  cases hB with
  | base hB => exact ofc0_c ⟨B, F, X, T, hk, by decide, by decide⟩ N hR hB hC ret
  | cast hB ht =>
    cases hR with
    | cast hm hx =>
      k_dflt (refine' enterM (binds := [(Str.ofString "told", _), (Str.ofString "columns", _)]) ?k0 ?k1 ?k2 ?k3 ?k4 ?k5 ?kA ?kF ?kK ?k6 ?k7 ?k8 ?k9 ?kB ?c2 ?_; (case k0 => exact rfl); (case kA => exact rfl); (case kF => exact rfl); (case kK => assumption); (case k1 => k_asm); (case k2 => k_asm); (case k3 => k_asm); (case k4 => k_asm); (case k5 => k_asm); (case k6 => k_is); (case k7 => k_is); (case k8 => exact Nat.le_of_ble_eq_true rfl); (case k9 => kernel_rfl!); (case kB => kernel_rfl!); (case c2 => kernel_rfl!); k_whole; intro g' L' h' t' FG' F' N' B' X' T' e9 A9 qk ek)
      k_steps
      (refine' ret _ _ _ ?e80_0 ?eF80 ?eN80; (case eN80 => ktn_no "Mine.N"); (case eF80 => k_asm); (case e80_0 => assumption))
  | coll hB ht =>
    cases hR with
    | coll hm hx =>
      k_dflt (refine' enterM (binds := [(Str.ofString "told", _), (Str.ofString "columns", _)]) ?k0 ?k1 ?k2 ?k3 ?k4 ?k5 ?kA ?kF ?kK ?k6 ?k7 ?k8 ?k9 ?kB ?c2 ?_; (case k0 => exact rfl); (case kA => exact rfl); (case kF => exact rfl); (case kK => assumption); (case k1 => k_asm); (case k2 => k_asm); (case k3 => k_asm); (case k4 => k_asm); (case k5 => k_asm); (case k6 => k_is); (case k7 => k_is); (case k8 => exact Nat.le_of_ble_eq_true rfl); (case k9 => kernel_rfl!); (case kB => kernel_rfl!); (case c2 => kernel_rfl!); k_whole; intro g' L' h' t' FG' F' N' B' X' T' e9 A9 qk ek)
      k_steps
      (refine' ret _ _ _ ?e81_0 ?eF81 ?eN81; (case eN81 => ktn_no "Mine.N"); (case eF81 => k_asm); (case e81_0 => exact OS.none))
end
example : True := by
  (k_with "CR" => (((with_reducible show wpAny _ _ (call (Value.ref 723) _) _ _ _); k_dflt (refine' ofc1_c ?cz90 ?Nz90 ?p0z90 ?p1z90 ?p2z90 ?_; (case cz90 => ktn_no "Mine.cx"); (case Nz90 => k_asm); (case p0z90 => ktn_no "Mine.rel"); (case p1z90 => k_asm); (case p2z90 => ktn_no "Mine.rel"); k_whole); intro r' h' tk' hr' F' N'; (try k_sweep); ktn_no "Mine.aft")))
  trivial
-- B14
noncomputable def collS (k : Cols) (l r : Side) : Str :=
  match l.expl, r.expl, l.ofcol k, r.ofcol k with
  | some x, _, _, _ => x
  | none, some x, _, _ => x
  | none, none, some x, _ => x
  | none, none, none, some x => x
  | none, none, none, none => Str.ofString "binary"
theorem collS_1 {k : Cols} {l r : Side} {x : Str} (h : l.expl = some x) : collS k l r = x := by unfold collS; rw [h]
theorem collS_2 {k : Cols} {l r : Side} {x : Str} (h : l.expl = none) (h2 : r.expl = some x) : collS k l r = x := by unfold collS; rw [h, h2]
theorem collS_3 {k : Cols} {l r : Side} {x : Str} (h : l.expl = none) (h2 : r.expl = none) (h3 : l.ofcol k = some x) : collS k l r = x := by unfold collS; rw [h, h2, h3]
theorem collS_4 {k : Cols} {l r : Side} {x : Str} (h : l.expl = none) (h2 : r.expl = none) (h3 : l.ofcol k = none) (h4 : r.ofcol k = some x) : collS k l r = x := by unfold collS; rw [h, h2, h3, h4]
theorem collS_5 {k : Cols} {l r : Side} (h : l.expl = none) (h2 : r.expl = none) (h3 : l.ofcol k = none) (h4 : r.ofcol k = none) : collS k l r = Str.ofString "binary" := by unfold collS; rw [h, h2, h3, h4]
theorem os_cases {v : Value} {o : Option Str} (h : OS v o) : (v = .none ∧ o = none) ∨ ∃ x t, v = .str x t ∧ o = some x := by
  cases h with
  | none => exact .inl ⟨rfl, rfl⟩
  | some x t => exact .inr ⟨x, t, rfl, rfl⟩
-- B20
noncomputable def Side.src : Side → Option Int
  | .col i => some i.t | .lit _ => none | .cast x _ => x.src | .coll x _ => x.src
noncomputable def Side.isCol1 : Side → Bool
  | .col i => i.t == 1 | _ => false
-- P1
theorem iscol_c {prog : Program} {w : World} {dp un : Nat} {gd : Option (List Code)} {cn : Str} {cs : Scope} {a : Addr} {ccd : Value} {cl : List (Str × Addr)} {outer : List Env} {A₀ : Around} {base h₀ : Heap} {L : Addr} {m : Str → Option Value} {p : Program} {loose : List Str} {mean : ExcName → Option Value} {mg mb : Str → Option Value} {hp : Heap} {gs : Array GenState} {dr : Drawn} {tk : Nat} {os : OsState} {Q E : Value → Shared → Prop} {news : List (Addr × Obj)} {v : Value} {d : Side} {k : Cols} {tn : Tok}
    (c : Cx w dp un 885 8920 cs A₀ base outer h₀ L hp m p loose mean mg mb) (N : News h₀ L hp (news)) (hR : NodeIn w k news v d) (hB : d.Ok)
    (ret : ∀ b h₁ tk₁, b = d.isCol1 → Fr h₀ L h₁ m → News h₀ L h₁ news → Q (.bool b) ⟨h₁, gs, dr, tk₁, os⟩) :
    wpAny (model prog w) (ktrTop dp un gd cn cs L a ccd cl outer) (call (.ref 547) [v, .int 1 tn]) Q E ⟨hp, gs, dr, tk, os⟩ := by
  obtain ⟨B, F, X, T, hk, hdp, hun⟩ := c
  refine lowerK hdp hun ?_
  rcases hB with (i | lv) | ⟨hB, ht⟩ | ⟨hB, ht⟩
  · cases hR with
    | col _ hm hm2 =>
      have hbt := i.bt
      have hbc := i.bc
      k_dflt (refine' enterM (binds := [(Str.ofString "expr", _), (Str.ofString "number", _)]) ?k0 ?k1 ?k2 ?k3 ?k4 ?k5 ?kA ?kF ?kK ?k6 ?k7 ?k8 ?k9 ?kB ?c2 ?_; (case k0 => exact rfl); (case kA => exact rfl); (case kF => exact rfl); (case kK => assumption); (case k1 => k_asm); (case k2 => k_asm); (case k3 => k_asm); (case k4 => k_asm); (case k5 => k_asm); (case k6 => k_is); (case k7 => k_is); (case k8 => exact Nat.le_of_ble_eq_true rfl); (case k9 => kernel_rfl!); (case kB => kernel_rfl!); (case c2 => kernel_rfl!); k_whole; intro g' L' h' t' FG' F' N' B' X' T' e9 A9 qk ek)
      k_steps
      (refine' ret _ _ _ ?e82_0 ?eF82 ?eN82; (case eN82 => ktn_no "Mine.N"); (case eF82 => k_asm); (case e82_0 => rfl))
  · cases hR with
    | lit hm hm2 hv =>
      k_dflt (refine' enterM (binds := [(Str.ofString "expr", _), (Str.ofString "number", _)]) ?k0 ?k1 ?k2 ?k3 ?k4 ?k5 ?kA ?kF ?kK ?k6 ?k7 ?k8 ?k9 ?kB ?c2 ?_; (case k0 => exact rfl); (case kA => exact rfl); (case kF => exact rfl); (case kK => assumption); (case k1 => k_asm); (case k2 => k_asm); (case k3 => k_asm); (case k4 => k_asm); (case k5 => k_asm); (case k6 => k_is); (case k7 => k_is); (case k8 => exact Nat.le_of_ble_eq_true rfl); (case k9 => kernel_rfl!); (case kB => kernel_rfl!); (case c2 => kernel_rfl!); k_whole; intro g' L' h' t' FG' F' N' B' X' T' e9 A9 qk ek)
      k_steps
      (refine' ret _ _ _ ?e83_0 ?eF83 ?eN83; (case eN83 => ktn_no "Mine.N"); (case eF83 => k_asm); (case e83_0 => rfl))
  · cases hR with
    | cast hm hm2 hx =>
      k_dflt (refine' enterM (binds := [(Str.ofString "expr", _), (Str.ofString "number", _)]) ?k0 ?k1 ?k2 ?k3 ?k4 ?k5 ?kA ?kF ?kK ?k6 ?k7 ?k8 ?k9 ?kB ?c2 ?_; (case k0 => exact rfl); (case kA => exact rfl); (case kF => exact rfl); (case kK => assumption); (case k1 => k_asm); (case k2 => k_asm); (case k3 => k_asm); (case k4 => k_asm); (case k5 => k_asm); (case k6 => k_is); (case k7 => k_is); (case k8 => exact Nat.le_of_ble_eq_true rfl); (case k9 => kernel_rfl!); (case kB => kernel_rfl!); (case c2 => kernel_rfl!); k_whole; intro g' L' h' t' FG' F' N' B' X' T' e9 A9 qk ek)
      k_steps
      (refine' ret _ _ _ ?e84_0 ?eF84 ?eN84; (case eN84 => ktn_no "Mine.N"); (case eF84 => k_asm); (case e84_0 => rfl))
  · cases hR with
    | coll hm hm2 hx =>
      k_dflt (refine' enterM (binds := [(Str.ofString "expr", _), (Str.ofString "number", _)]) ?k0 ?k1 ?k2 ?k3 ?k4 ?k5 ?kA ?kF ?kK ?k6 ?k7 ?k8 ?k9 ?kB ?c2 ?_; (case k0 => exact rfl); (case kA => exact rfl); (case kF => exact rfl); (case kK => assumption); (case k1 => k_asm); (case k2 => k_asm); (case k3 => k_asm); (case k4 => k_asm); (case k5 => k_asm); (case k6 => k_is); (case k7 => k_is); (case k8 => exact Nat.le_of_ble_eq_true rfl); (case k9 => kernel_rfl!); (case kB => kernel_rfl!); (case c2 => kernel_rfl!); k_whole; intro g' L' h' t' FG' F' N' B' X' T' e9 A9 qk ek)
      k_steps
      (refine' ret _ _ _ ?e85_0 ?eF85 ?eN85; (case eN85 => ktn_no "Mine.N"); (case eF85 => k_asm); (case e85_0 => rfl))
example : True := by
  (k_with "CR" => (((with_reducible show wpAny _ _ (call (Value.ref 547) _) _ _ _); k_dflt (refine' iscol_c ?cz91 ?Nz91 ?p0z91 ?p1z91 ?_; (case cz91 => ktn_no "Mine.cx"); (case Nz91 => k_asm); (case p0z91 => ktn_no "Mine.rel"); (case p1z91 => k_asm); k_whole); intro b' h' tk' e' F' N'; (try k_sweep); subst e'; ktn_no "Mine.aft")))
  trivial
-- B15
section
variable {prog : Program} {w : World} {A : Around} {E : Value → Shared → Prop} {s : Shared} {h₀ : Heap} {L : Addr} {m : Str → Option Value} {env : Env}
noncomputable def CompS (prog : Program) (w : World) (A : Around) (h₀ : Heap) (L : Addr) (m : Str → Option Value) (env : Env) (elt : Expr) (x : Str) (scope : Scope) (cl : List (Str × Addr)) (s : Shared) (Fin : List Value → List (Addr × Obj) → Prop) : List Str → List Value → List (Addr × Obj) → Prop
  | [], ys, news => Fin ys news
  | c :: r, ys, news => ∀ t I oI C oC D m₂ h tk (E' : Value → Shared → Prop), LCg.NsObj oC m₂ → m₂ x = some (.str c t) → Fr h₀ L h m → News h₀ L h ((I, oI) :: (C, oC) :: (D, LCg.lst ys) :: news) → LCg.Off3 I C D news → ((@Ne Nat I C) ∧ (@Ne Nat I D) ∧ (@Ne Nat C D)) →
      wpAny (model prog w) A (eval elt (compEnvC scope cl C env)) (LCg.CompEnd h₀ L m { s with heap := h, toks := tk } I oI C oC D (LCg.lst ys) (fun _ => True) (fun y news' => CompS prog w A h₀ L m env elt x scope cl s Fin r (ys ++ [y]) news')) E' { s with heap := h, toks := tk }
theorem CompS.nil {elt : Expr} {x : Str} {scope : Scope} {cl : List (Str × Addr)} {Fin : List Value → List (Addr × Obj) → Prop} {ys : List Value} {news : List (Addr × Obj)} (h : Fin ys news) : CompS prog w A h₀ L m env elt x scope cl s Fin [] ys news := h
theorem CompS.cons {elt : Expr} {x : Str} {scope : Scope} {cl : List (Str × Addr)} {Fin : List Value → List (Addr × Obj) → Prop} {c : Str} {r : List Str} {ys : List Value} {news : List (Addr × Obj)}
    (h : ∀ t I oI C oC D m₂ h tk (E' : Value → Shared → Prop), LCg.NsObj oC m₂ → m₂ x = some (.str c t) → Fr h₀ L h m → News h₀ L h ((I, oI) :: (C, oC) :: (D, LCg.lst ys) :: news) → LCg.Off3 I C D news → ((@Ne Nat I C) ∧ (@Ne Nat I D) ∧ (@Ne Nat C D)) →
      wpAny (model prog w) A (eval elt (compEnvC scope cl C env)) (LCg.CompEnd h₀ L m { s with heap := h, toks := tk } I oI C oC D (LCg.lst ys) (fun _ => True) (fun y news' => CompS prog w A h₀ L m env elt x scope cl s Fin r (ys ++ [y]) news')) E' { s with heap := h, toks := tk }) :
    CompS prog w A h₀ L m env elt x scope cl s Fin (c :: r) ys news := h
theorem compS_rest {elt : Expr} {x : Str} {scope : Scope} {cl : List (Str × Addr)} {Fin : List Value → List (Addr × Obj) → Prop} {text : Str} {all : List Str} (hall : text.cps.toList.map (fun c => Str.mk #[c]) = all) :
    ∀ (k i : Nat) (ys : List Value) (news : List (Addr × Obj)), i + k = text.cps.size → CompS prog w A h₀ L m env elt x scope cl s Fin (all.drop i) ys news →
      LCg.CompRest prog w A h₀ L m env elt x scope cl s (fun _ => True) (SignAt text) Fin k i ys news := by
  subst hall
  intro k
  induction k with
  | zero =>
    intro i ys news hi h
    have e : (text.cps.toList.map (fun c => Str.mk #[c])).drop i = [] := List.drop_eq_nil_of_le (by rw [List.length_map, Array.length_toList]; omega)
    rw [e] at h
    exact LCg.CompRest.zero h
  | succ k ih =>
    intro i ys news hi h
    have hlt : i < (text.cps.toList.map (fun c => Str.mk #[c])).length := by rw [List.length_map, Array.length_toList]; omega
    rw [List.drop_eq_getElem_cons hlt] at h
    refine LCg.CompRest.succ ?_
    intro v I oI C oC D m₂ h' tk E' hv hC hx F N off ne
    obtain ⟨c, u, hc, rfl⟩ := hv
    have e : (text.cps.toList.map (fun c => Str.mk #[c]))[i] = Str.mk #[c] := by
      rw [List.getElem_map]
      have h2 : text.cps.toList[i]? = some c := by rw [Array.getElem?_toList]; exact hc
      exact congrArg (fun c => Str.mk #[c]) (Option.some.inj ((List.getElem?_eq_getElem _).symm.trans h2))
    rw [e] at h
    refine wpAny_mono (h u I oI C oC D m₂ h' tk E' hC hx F N off ne) (fun y s₂ hq => ?_) fun _ _ e => e
    obtain ⟨h₂, tk₂, nw, e₂, F₂, N₂, off₂, hS, r⟩ := hq
    exact ⟨h₂, tk₂, nw, e₂, F₂, N₂, off₂, hS, ih (i + 1) _ _ (by omega) r⟩
theorem ListComp_str {elt : Expr} {x y : Str} {px py : Pos} {scope : Scope} {cl : List (Str × Addr)} {pos : Pos} {Q : Value → Shared → Prop} {text : Str} {t : Tok} {all : List Str} {news : List (Addr × Obj)} (F₀ : Fr h₀ L s.heap m) (N₀ : News h₀ L s.heap news) (hh : A.handled = none)
    (h : wpAny (model prog w) A (eval (.Name y py) env) (fun v s₁ => v = .str text t ∧ s₁ = s) E s)
    (hclos : closureFor scope env = pure cl) (hcell : ∀ y ∈ scope.names, y.2 ≠ .cell) (hkind : scope.kind = .function)
    (hnames : ∀ y ∈ scope.names, y.2 = .local → scope.names.lookup y.1 = some .local) (hx : scope.names.lookup x = some .local)
    (ha : text.cps.all (· < 128) = true) (hall : text.cps.toList.map (fun c => Str.mk #[c]) = all) (hsz : text.cps.size ≤ sizeLine)
    (R : ∀ g, CompS prog w A h₀ L m env elt x scope cl { s with heap := g } (LCg.FinE h₀ L m { s with heap := g } Q) all [] news)
    (hs : ∀ x, foldedSetIterable (.Name y py) env x = pure x := by intro _; rfl) :
    wpAny (model prog w) A (eval (.ListComp elt [⟨.Name x px, .Name y py, [], 0⟩] scope pos) env) Q E s := by
  rw [eval_ListComp]
  refine wpAny_comprehension_free (use := none) rfl hs hclos hkind hnames (wpAny_mono h (fun xv s₁ h₁ => ?_) fun _ _ e => e)
  obtain ⟨rfl, rfl⟩ := h₁
  refine wpAny_pyIter_ascii ha ?_
  refine LCg.block_U (Walks.strAscii hh s₁.heap.objs.size text t) hsz (fun i h st => by obtain ⟨o, e, _⟩ := st; exact ⟨o, e⟩) (fun i h h' o nw st e e' _ _ _ => by obtain ⟨o', q, r⟩ := st; rw [e] at q; cases q; exact ⟨o, e', r⟩) hcell hkind hx ⟨_, Heap.get?_push_size _ rfl, rfl, rfl⟩ (fun b hb => ?_)
    (F₀.keeps fun _ _ e => Heap.get?_push_of_some _ e) (N₀.grown fun _ _ e => Heap.get?_push_of_some _ e) (Nat.ne_of_lt F₀.ns.lt) (next_is_new F₀) (fun p hp => Nat.ne_of_lt (Heap.lt_size (N₀ p hp).1)) trivial (compS_rest hall _ 0 [] news (Nat.zero_add _) (R _)) ?_
  · rw [List.mem_singleton.mp hb]
    show s₁.heap.objs.size < (s₁.heap.push _).objs.size
    rw [Heap.size_push]; exact Nat.lt_succ_self _
  · intro D C h tk m' ys news' F' N' o1 hn hC₀ hD₀ hCL hDL hCD offC fin
    refine ⟨m', hn, fun h'' hs'' => fin D h'' tk (F'.change hs'' hCL hC₀) (fun p hp => ?_) o1⟩
    refine ⟨hs''.extBut _ _ ?_ (N' p hp).1, (N' p hp).2⟩
    rcases List.mem_cons.mp hp with rfl | hp
    · exact Ne.symm hCD
    · exact offC p hp
end
theorem letGo_str {prog : Program} {w : World} {A : Around} {E : Value → Shared → Prop} {target : Expr} {I : Addr} {ty : String} {x : Str} {t : Tok} {i : Nat} {v : Value} {Q' : Unit → Shared → Prop} {s' : Shared} (hty : ty = "str_ascii_iterator") (hit : s'.heap.IsStrIter I ty x t i) (h : Q' () s') :
    wpAny (model prog w) A (letOwnedTupleGo target (.ref I) v) Q' E s' := by
  obtain ⟨o, ho, hc, hd⟩ := hit
  subst hty
  unfold letOwnedTupleGo
  cases target <;> first
    | exact wpAny_pure h
    | (cases v <;> first
        | exact wpAny_pure h
        | (refine wpAny_bind (wpAny_load ho ?_)
           rw [hc, hd]
           exact wpAny_pure h))
section
variable {prog : Program} {w : World} {A : Around} {E : Value → Shared → Prop} {s : Shared} {h₀ : Heap} {m : Str → Option Value} {env : Env} {target : Expr} {body : List Stmt} {Q : Flow → Shared → Prop}
theorem iter_strTurns {text : Str} {t : Tok} {all : List Str} {m₀ : Str → Option Value} {news : List (Addr × Obj)}
    (hh : A.handled = none) (F : Fr h₀ env.locals s.heap m₀) (N : News h₀ env.locals s.heap news) (ha : text.cps.all (· < 128) = true) (hall : text.cps.toList.map (fun c => Str.mk #[c]) = all)
    (rest₀ : ∀ I : Addr, (∀ p ∈ news, p.1 < I) → ItemsRest prog w A E h₀ env target body Q s [(I, "str_ascii_iterator")] [] (all.map fun c => .tok (fun t => .str c t)) m₀ news) :
    wpAny (model prog w) A (pyIter (.str text t)) (fun it s₂ => TurnsAt prog w A h₀ env target body Q E it s₂) E s := by
  subst hall
  refine wpAny_pyIter_ascii ha ?_
  refine ktu_core (tk0 := s.toks) (keep := []) (KTurns.ofWalks (Walks.strAscii hh s.heap.objs.size text t) fun i v s Q E st q => letGo_str rfl st q) (by simp) (fun i v h hp => ?_) (fun i h st => ?_) (fun b hb => ?_) (fun b hb => by simpa using hb) (fun b hb => .inl (by simpa using hb)) ?_ (fun p hp hI => ?_) ?_ (F.push _) (fun p hp => ⟨Heap.get?_push_of_some _ (N p hp).1, (N p hp).2⟩) trivial (rest₀ _ fun p hp => Heap.lt_size (N p hp).1)
  · obtain ⟨c, u, hc, rfl⟩ := hp
    refine ⟨.tok (fun t => .str (Str.mk #[c]) t), ?_, ⟨u, rfl⟩⟩
    rw [List.getElem?_map, List.getElem?_map, Array.getElem?_toList, hc]
    rfl
  · obtain ⟨it, hit, hic, _⟩ := st
    exact ⟨[(s.heap.objs.size, it)], ⟨⟨rfl, hic⟩, trivial⟩, fun p hp => by rw [List.mem_singleton.mp hp]; exact hit⟩
  · have hb' : b = s.heap.objs.size := by simpa using hb
    rw [hb']
    exact ⟨List.mem_cons_self .., next_is_new F⟩
  · intro hI
    exact absurd F.ns.lt ((List.mem_singleton.mp hI) ▸ Nat.lt_irrefl _)
  · exact absurd (Heap.lt_size (N p hp).1) ((List.mem_singleton.mp hI) ▸ Nat.lt_irrefl _)
  · exact ⟨_, Heap.get?_push_size _ rfl, rfl, rfl⟩
end
theorem compEnd0 {h₀ : Heap} {L I C D : Addr} {m : Str → Option Value} {s₁ : Shared} {oI oC oD : Obj} {S : List (Addr × Obj) → Prop} {rest : Value → List (Addr × Obj) → Prop} {y : Value} {h' : Heap} {tk : Nat} {r : List (Addr × Obj)}
    (F : Fr h₀ L h' m) (N : News h₀ L h' ((I, oI) :: (C, oC) :: (D, oD) :: r)) (off : LCg.Off3 I C D r) (hS : S r) (k : rest y r) :
    LCg.CompEnd h₀ L m s₁ I oI C oC D oD S rest y { s₁ with heap := h', toks := tk } := compEndA (tl := []) F N (fun _ _ _ h => nomatch h) off hS k
theorem in_lit {prog : Program} {w : World} {A : Around} {E : Value → Shared → Prop} {s : Shared} {x y : Str} {t u : Tok} {b : Bool} {Q : Value → Shared → Prop} (hb : (!(Builtin.Str.occurrences x y 0 x.length 1).isEmpty) = b) (h : Q (.bool b) s) : wpAny (model prog w) A (compareOp .In (.str y u) (.str x t)) Q E s := by
  subst hb; exact PyProof.Rows.in_str h
theorem unrW1 {h₀ : Heap} {L I : Addr} {it : Obj} {rest : (Str → Option Value) → List (Addr × Obj) → Prop} {s₁ : Shared} {h' : Heap} {tk : Nat} {m' : Str → Option Value} {r : List (Addr × Obj)} (F : Fr h₀ L h' m')
    (N : News h₀ L h' ((I, it) :: r)) (off : ∀ p ∈ r, p.1 ≠ I) (k : rest m' r) : UnrEndW h₀ L s₁ [(I, it)] rest { s₁ with heap := h', toks := tk } :=
  ⟨h', tk, m', r, rfl, F, N, fun p hp q hq => by rw [List.mem_singleton.mp hq]; exact off p hp, k⟩
-- B25
/-- one sign and what folding makes of it -/
inductive Sgn : Str → Str → Prop
  | up (n : Nat) : 65 ≤ n → n ≤ 90 → Sgn ⟨#[n]⟩ ⟨#[n + 32]⟩
  | lo (n : Nat) : 97 ≤ n → Sgn ⟨#[n]⟩ ⟨#[n]⟩
inductive Sgns : List Str → List Str → Prop
  | nil : Sgns [] []
  | cons {c d : Str} {r q : List Str} : Sgn c d → Sgns r q → Sgns (c :: r) (d :: q)
noncomputable def lets (x : Str) : List Str := x.cps.toList.map fun c => Str.mk #[c]
theorem sgn_A {n : Nat} (h : 65 ≤ n) : (!decide ((Str.mk #[n]).cps.toList < (Str.ofString "A").cps.toList)) = true := by
  have e : (Str.ofString "A").cps.toList = [65] := by decide
  rw [e]
  have : ¬ ([n] < [65]) := by intro h'; rcases List.cons_lt_cons_iff.mp h' with h' | ⟨_, h'⟩ <;> first | omega | exact absurd h' (List.not_lt_nil _)
  simp [this]
theorem sgn_Z {n : Nat} (h : n ≤ 90) : (!decide ((Str.ofString "Z").cps.toList < (Str.mk #[n]).cps.toList)) = true := by
  have e : (Str.ofString "Z").cps.toList = [90] := by decide
  rw [e]
  have : ¬ ([90] < [n]) := by intro h'; rcases List.cons_lt_cons_iff.mp h' with h' | ⟨_, h'⟩ <;> first | omega | exact absurd h' (List.not_lt_nil _)
  simp [this]
theorem sgn_Zf {n : Nat} (h : 97 ≤ n) : (!decide ((Str.ofString "Z").cps.toList < (Str.mk #[n]).cps.toList)) = false := by
  have e : (Str.ofString "Z").cps.toList = [90] := by decide
  rw [e]
  have : [90] < [n] := List.cons_lt_cons_iff.mpr (Or.inl (by omega))
  simp [this]
theorem le_known {prog : Program} {w : World} {A : Around} {E : Value → Shared → Prop} {s : Shared} {x y : Str} {t u : Tok} {b : Bool} {Q : Value → Shared → Prop} (hb : (!decide (y.cps.toList < x.cps.toList)) = b) (h : Q (.bool b) s) : wpAny (model prog w) A (compareOp .LtE (.str x t) (.str y u)) Q E s := by
  subst hb; exact P.le_str h
structure NmFacts (x : Str) : Prop where
  asc : x.cps.all (· < 128) = true
  siz : x.cps.size ≤ sizeLine
  sg : Sgns (lets x) (lets (lowS x))
  jn : Txt.join (Str.ofString "") (lets (lowS x)) = lowS x
  wt : ((lets (lowS x)).map (·.length)).sum + (lets (lowS x)).length ≤ 1048576
theorem nm_facts {x : Str} (h : x ∈ NAMES) : NmFacts x := by
  rcases names_cases h with rfl | rfl | rfl
  · refine ⟨by decide +kernel, by rw [PySem.sizeLine_eq]; decide +kernel, ?_, ?_, ?_⟩
    · rw [lowS_nocase]; exact .cons (.lo 110 (by decide)) (.cons (.lo 111 (by decide)) (.cons (.lo 99 (by decide)) (.cons (.lo 97 (by decide)) (.cons (.lo 115 (by decide)) (.cons (.lo 101 (by decide)) .nil)))))
    · rw [lowS_nocase]; decide +kernel
    · rw [lowS_nocase]; decide +kernel
  · refine ⟨by decide +kernel, by rw [PySem.sizeLine_eq]; decide +kernel, ?_, ?_, ?_⟩
    · rw [lowS_rtrim]; exact .cons (.up 82 (by decide) (by decide)) (.cons (.up 84 (by decide) (by decide)) (.cons (.up 82 (by decide) (by decide)) (.cons (.up 73 (by decide) (by decide)) (.cons (.up 77 (by decide) (by decide)) .nil))))
    · rw [lowS_rtrim]; decide +kernel
    · rw [lowS_rtrim]; decide +kernel
  · refine ⟨by decide +kernel, by rw [PySem.sizeLine_eq]; decide +kernel, ?_, ?_, ?_⟩
    · rw [lowS_binary]; exact .cons (.lo 98 (by decide)) (.cons (.lo 105 (by decide)) (.cons (.lo 110 (by decide)) (.cons (.lo 97 (by decide)) (.cons (.lo 114 (by decide)) (.cons (.lo 121 (by decide)) .nil)))))
    · rw [lowS_binary]; decide +kernel
    · rw [lowS_binary]; decide +kernel
theorem strs_snoc {vs ws : List Value} {xs ys : List Str} (h : StrsAre vs xs) (k : StrsAre ws ys) : StrsAre (vs ++ ws) (xs ++ ys) := by
  induction h with
  | nil => exact k
  | cons y t _ ih => exact .cons y t ih
section
variable {prog : Program} {w : World} {A : Around} {E : Value → Shared → Prop} {s : Shared} {h₀ : Heap} {L : Addr} {m : Str → Option Value} {env : Env}
theorem compS_ind {elt : Expr} {x : Str} {scope : Scope} {cl : List (Str × Addr)} {Fin : List Value → List (Addr × Obj) → Prop}
    (turn : ∀ (c d : Str) (ys : List Value) (news : List (Addr × Obj)) (k : Value → List (Addr × Obj) → Prop), Sgn c d → (∀ t, k (.str d t) news) → ∀ t I oI C oC D m₂ h tk (E' : Value → Shared → Prop), LCg.NsObj oC m₂ → m₂ x = some (.str c t) → Fr h₀ L h m → News h₀ L h ((I, oI) :: (C, oC) :: (D, LCg.lst ys) :: news) → LCg.Off3 I C D news → ((@Ne Nat I C) ∧ (@Ne Nat I D) ∧ (@Ne Nat C D)) →
      wpAny (model prog w) A (eval elt (compEnvC scope cl C env)) (LCg.CompEnd h₀ L m { s with heap := h, toks := tk } I oI C oC D (LCg.lst ys) (fun _ => True) k) E' { s with heap := h, toks := tk })
    {cs ds : List Str} (hs : Sgns cs ds) : ∀ (ys : List Value) (news : List (Addr × Obj)), (∀ ys', StrsAre ys' ds → Fin (ys ++ ys') news) → CompS prog w A h₀ L m env elt x scope cl s Fin cs ys news := by
  induction hs with
  | nil => exact fun ys news h => CompS.nil (by have := h [] .nil; rwa [List.append_nil] at this)
  | cons hc _ ih =>
    intro ys news h
    refine CompS.cons ?_
    intro t I oI C oC D m₂ h' tk E' hC hx F N off ne
    refine turn _ _ ys news _ hc (fun t' => ?_) t I oI C oC D m₂ h' tk E' hC hx F N off ne
    refine ih _ _ fun ys' hy => ?_
    rw [List.append_assoc]
    exact h _ (.cons _ _ hy)
end
-- P2
section
example : True := by
  (k_with "L92" => ((k_dflt (refine ListComp_str (by k_asm) (by k_asm) (by rfl) (by (refine ld (by k_asm) (by rfl) ?_; exact ⟨rfl, rfl⟩)) (by with_unfolding_all rfl) (by decide) (by rfl) (by decide) (by rfl) (NmFacts.asc (by assumption)) (show _ = lets _ from rfl) (NmFacts.siz (by assumption)) ?_); intro g')))
  trivial
local macro_rules | `(tactic| walk_at "eval ListComp") => `(tactic| k_extra "L92")
example : True := by
  (k_with "L93" => ((refine compS_ind ?_ (NmFacts.sg (by assumption)) _ _ ?_; intro c' d' ys' news' k' hS' hk'; rcases hS' with ⟨_, l1', l2'⟩ | ⟨_, l1'⟩)))
  trivial
local macro_rules | `(tactic| walk_at "CompS") => `(tactic| k_extra "L93")
example : True := by
  (k_with "L94" => ((refine' compEnd0 ?z1z94 ?z2z94 ?z3z94 ?z4z94 ?_; (case z1z94 => k_asm); (case z2z94 => k_asm); (case z3z94 => assumption); (case z4z94 => trivial))))
  trivial
local macro_rules | `(tactic| walk_at "CompEnd") => `(tactic| k_extra "L94")
example : True := by
  (k_with "L95" => ((refine le_known (by first | exact sgn_A (by omega) | exact sgn_Z (by assumption) | exact sgn_Zf (by assumption)) ?_)))
  trivial
local macro_rules | `(tactic| walk_at "compareOp LtE str str") => `(tactic| k_extra "L95")
example : True := by
  (k_with "L96" => ((refine' join_listW ?j1z96 ?j2z96 ?j3z96 ?j4z96 ?_; (case j1z96 => exact News.isList (by k_asm) (by k_mem)); (case j2z96 => assumption); (case j3z96 => decide); (case j4z96 => exact NmFacts.wt (by assumption)); intro t' k')))
  trivial
local macro_rules | `(tactic| walk_at "call builtin:str.join") => `(tactic| k_extra "L96")
theorem fold_c {prog : Program} {w : World} {dp un : Nat} {gd : Option (List Code)} {cn : Str} {cs : Scope} {a : Addr} {ccd : Value} {cl : List (Str × Addr)} {outer : List Env} {A₀ : Around} {base h₀ : Heap} {L : Addr} {m : Str → Option Value} {p : Program} {loose : List Str} {mean : ExcName → Option Value} {mg mb : Str → Option Value} {hp : Heap} {gs : Array GenState} {dr : Drawn} {tk : Nat} {os : OsState} {Q E : Value → Shared → Prop} {news : List (Addr × Obj)} {x : Str} {t : Tok}
    (c : Cx w dp un 885 8920 cs A₀ base outer h₀ L hp m p loose mean mg mb) (N : News h₀ L hp (news)) (hx : x ∈ NAMES)
    (ret : ∀ t2 h₁ tk₁, Fr h₀ L h₁ m → News h₀ L h₁ news → Q (.str (lowS x) t2) ⟨h₁, gs, dr, tk₁, os⟩) :
    wpAny (model prog w) (ktrTop dp un gd cn cs L a ccd cl outer) (call (.ref 481) [.str x t]) Q E ⟨hp, gs, dr, tk, os⟩ := by
  obtain ⟨B, F, X, T, hk, hdp, hun⟩ := c
  refine lowerK hdp hun ?_
  have nf := nm_facts hx
  k_dflt (refine' enterM (binds := [(Str.ofString "name", _)]) ?k0 ?k1 ?k2 ?k3 ?k4 ?k5 ?kA ?kF ?kK ?k6 ?k7 ?k8 ?k9 ?kB ?c2 ?_; (case k0 => exact rfl); (case kA => exact rfl); (case kF => exact rfl); (case kK => assumption); (case k1 => k_asm); (case k2 => k_asm); (case k3 => k_asm); (case k4 => k_asm); (case k5 => k_asm); (case k6 => k_is); (case k7 => k_is); (case k8 => exact Nat.le_of_ble_eq_true rfl); (case k9 => kernel_rfl!); (case kB => kernel_rfl!); (case c2 => kernel_rfl!); k_whole; intro g' L' h' t' FG' F' N' B' X' T' e9 A9 qk ek)
  k_steps
  · (rename (∀ t : Tok, (_ : Value → List (Addr × Obj) → Prop) (Value.str _ t) _) => hq9; exact hq9 _)
  · (rename (∀ t : Tok, (_ : Value → List (Addr × Obj) → Prop) (Value.str _ t) _) => hq9; exact hq9 _)
  · (rw [nf.jn]; (refine' ret _ _ _  ?eF86 ?eN86; (case eN86 => ktn_no "Mine.N"); (case eF86 => k_asm)))
end
example : True := by
  (k_with "CR" => (((with_reducible show wpAny _ _ (call (Value.ref 481) _) _ _ _); k_dflt (refine' fold_c ?cz97 ?Nz97 ?p0z97 ?_; (case cz97 => ktn_no "Mine.cx"); (case Nz97 => k_asm); (case p0z97 => k_asm); k_whole); intro t' h' tk' F' N'; (try k_sweep); ktn_no "Mine.aft")))
  trivial
-- B26
open Classical in
noncomputable def lowT (x : Str) : Str := if x = Str.ofString "INT" then Str.ofString "int" else if x = Str.ofString "TEXT" then Str.ofString "text" else Str.ofString "blob"
theorem lowT_int : lowT (Str.ofString "INT") = Str.ofString "int" := by unfold lowT; rw [if_pos rfl]
theorem lowT_text : lowT (Str.ofString "TEXT") = Str.ofString "text" := by unfold lowT; rw [if_neg (by decide), if_pos rfl]
theorem lowT_blob : lowT (Str.ofString "BLOB") = Str.ofString "blob" := by unfold lowT; rw [if_neg (by decide), if_neg (by decide)]
structure TyFacts (x : Str) : Prop where
  asc : x.cps.all (· < 128) = true
  sg : Sgns (lets x) (lets (lowT x))
  jn : Txt.join (Str.ofString "") (lets (lowT x)) = lowT x
  wt : ((lets (lowT x)).map (·.length)).sum + (lets (lowT x)).length ≤ 1048576
  len : (lets (lowT x)).length ≤ 8
theorem ty_facts {x : Str} (h : x ∈ TYPES) : TyFacts x := by
  rcases types_cases h with rfl | rfl | rfl
  · refine ⟨by decide +kernel, ?_, ?_, ?_, ?_⟩ <;> rw [lowT_int]
    · exact .cons (.up 73 (by decide) (by decide)) (.cons (.up 78 (by decide) (by decide)) (.cons (.up 84 (by decide) (by decide)) .nil))
    all_goals decide +kernel
  · refine ⟨by decide +kernel, ?_, ?_, ?_, ?_⟩ <;> rw [lowT_text]
    · exact .cons (.up 84 (by decide) (by decide)) (.cons (.up 69 (by decide) (by decide)) (.cons (.up 88 (by decide) (by decide)) (.cons (.up 84 (by decide) (by decide)) .nil)))
    all_goals decide +kernel
  · refine ⟨by decide +kernel, ?_, ?_, ?_, ?_⟩ <;> rw [lowT_blob]
    · exact .cons (.up 66 (by decide) (by decide)) (.cons (.up 76 (by decide) (by decide)) (.cons (.up 79 (by decide) (by decide)) (.cons (.up 66 (by decide) (by decide)) .nil)))
    all_goals decide +kernel
noncomputable def SgJ (l : Addr) (news0 : List (Addr × Obj)) (ds0 : List Str) (m₀ : Str → Option Value) (x : Str) (q : List Str) (m : Str → Option Value) (news : List (Addr × Obj)) : Prop :=
  ∃ ya ys n sv, news = (l, listOf ya n) :: news0 ∧ StrsAre ya.toList ys ∧ ys ++ q = ds0 ∧ m = updO m₀ x sv
theorem sgJ_start {l : Addr} {news0 : List (Addr × Obj)} {ds : List Str} {m₀ : Str → Option Value} {x : Str} {ya : Array Value} {n : Nat} (hy : StrsAre ya.toList []) (h : m₀ x = none) : SgJ l news0 ds m₀ x ds m₀ ((l, listOf ya n) :: news0) := ⟨ya, [], n, none, rfl, hy, rfl, updO_none h⟩
theorem sgJ_size {ya : Array Value} {ys q ds0 : List Str} (h : StrsAre ya.toList ys) (e : ys ++ q = ds0) (hl : ds0.length ≤ 8) : ya.size ≤ 8 := by
  have := h.len_eq
  rw [Array.length_toList] at this
  rw [this]
  have : ys.length ≤ ds0.length := by rw [← e, List.length_append]; omega
  omega
theorem sgJ_push {l : Addr} {news0 : List (Addr × Obj)} {ds0 : List Str} {m₀ : Str → Option Value} {x d : Str} {q ys : List Str} {sv : Option Value} {v : Value} {ya : Array Value} {n : Nat} {t : Tok} (hy : StrsAre ya.toList ys) (he : ys ++ d :: q = ds0) :
    SgJ l news0 ds0 m₀ x q (fun y => if y = x then some v else updO m₀ x sv y) ((l, listOf (ya.push (.str d t)) n) :: news0) :=
  ⟨_, ys ++ [d], _, _, rfl, by rw [Array.toList_push]; exact strs_snoc hy (.cons _ _ .nil), by rw [List.append_assoc]; exact he, updO_set⟩
section
variable {prog : Program} {w : World} {A : Around} {E : Value → Shared → Prop} {s : Shared} {h₀ : Heap} {env : Env} {target : Expr} {body : List Stmt} {Q : Flow → Shared → Prop}
theorem turns_ind {I l : Addr} {ty : String} {news0 : List (Addr × Obj)} {ds0 : List Str} {m₀ : Str → Option Value} {x : Str} (hl : ds0.length ≤ 8)
    (turn : ∀ c d (ya : Array Value) n sv (it : Obj) t h tk (rest : (Str → Option Value) → List (Addr × Obj) → Prop), Sgn c d → ya.size ≤ 8 → (∀ v t' n', rest (fun y => if y = x then some v else updO m₀ x sv y) ((l, listOf (ya.push (.str d t')) n') :: news0)) → it.cls = .type ty →
      Fr h₀ env.locals h (updO m₀ x sv) → News h₀ env.locals h ((I, it) :: (l, listOf ya n) :: news0) →
      wpAny (model prog w) A (assign target env (.str c t)) (fun _ s₂ => wpAny (model prog w) A (execs body env) (UnrPostW h₀ env.locals { s with heap := h, toks := tk } [(I, it)] rest Q) E s₂) E { s with heap := h, toks := tk })
    (done : ∀ (ya : Array Value) n sv h tk, StrsAre ya.toList ds0 → Fr h₀ env.locals h (updO m₀ x sv) → News h₀ env.locals h ((l, listOf ya n) :: news0) → Q .next { s with heap := h, toks := tk })
    {cs ds : List Str} (hs : Sgns cs ds) : ∀ m news, SgJ l news0 ds0 m₀ x ds m news → ItemsRest prog w A E h₀ env target body Q s [(I, ty)] [] (cs.map fun c => .tok (fun t => .str c t)) m news := by
  induction hs with
  | nil =>
    rintro m news ⟨ya, ys, n, sv, rfl, hy, he, rfl⟩ h tk F N
    rw [List.append_nil] at he
    exact done ya n sv h tk (he ▸ hy) F N
  | cons hc _ ih =>
    rintro m news ⟨ya, ys, n, sv, rfl, hy, he, rfl⟩
    refine ItemsRest.tok fun t h tk F it hit N => ?_
    refine wpAny_mono (turn _ _ ya n sv it t h tk (SgJ l news0 ds0 m₀ x _) hc (sgJ_size hy he hl) (fun v t' n' => sgJ_push hy he) hit F N) (fun _ s₂ h₂ => wpAny_mono h₂ (fun f s₃ h₃ => ?_) fun _ _ e => e) fun _ _ e => e
    cases f with
    | ret v => exact h₃
    | brk => exact h₃
    | next => obtain ⟨h', tk', m', news', e, F', N', off, r⟩ := h₃; exact ⟨h', tk', m', news', e, F', N', off, trivial, ih _ _ r⟩
    | cont => obtain ⟨h', tk', m', news', e, F', N', off, r⟩ := h₃; exact ⟨h', tk', m', news', e, F', N', off, trivial, ih _ _ r⟩
end
-- P23
section
example : True := by
  (k_with "L98" => (((rename Fr _ _ _ _ => lF'); (with_unfolding_all refine' For_turns lF' ?_; k_whole))))
  trivial
local macro_rules | `(tactic| walk_at "exec For Name Name cons nil") => `(tactic| k_extra "L98")
example : True := by
  (k_with "L99" => ((k_dflt (refine' iter_strTurns ?hhz99 ?Fz99 ?Nz99 ?haz99 ?hlz99 ?_; (case hhz99 => rfl); (case Fz99 => k_asm); (case Nz99 => k_asm); (case haz99 => exact TyFacts.asc (by assumption)); (case hlz99 => exact (show _ = lets _ from rfl))); intro I' l9; (try k_lt l9))))
  trivial
local macro_rules | `(tactic| walk_at "pyIter str") => `(tactic| k_extra "L99")
example : True := by
  (k_with "L100" => ((k_dflt (refine turns_ind (x := Str.ofString "sign") (TyFacts.len (by assumption)) ?_ ?_ (TyFacts.sg (by assumption)) _ _ (sgJ_start StrsAre.nil rfl)); intro c' d' ya' n' sv' it' t' h' tk' rest' hS' hz' hr' hc' F' N'; rcases hS' with ⟨_, l1', l2'⟩ | ⟨_, l1'⟩)))
  trivial
local macro_rules | `(tactic| walk_at "ItemsRest") => `(tactic| k_extra "L100")
example : True := by
  (k_with "L101" => ((refine' unrW1 ?Fz101 ?Nz101 ?offz101 ?_; (case Fz101 => k_asm); (case Nz101 => first | k_asm | exact rot1 (by k_asm)); (case offz101 => k_all))))
  trivial
local macro_rules | `(tactic| walk_at "UnrEndW") => `(tactic| k_extra "L101")
example : True := by
  (k_with "L102" => ((refine le_known (by first | exact sgn_A (by omega) | exact sgn_Z (by assumption) | exact sgn_Zf (by assumption)) ?_)))
  trivial
local macro_rules | `(tactic| walk_at "compareOp LtE str str") => `(tactic| k_extra "L102")
example : True := by
  (k_with "L103" => ((refine' join_listW ?j1z103 ?j2z103 ?j3z103 ?j4z103 ?_; (case j1z103 => exact News.isList (by k_asm) (by k_mem)); (case j2z103 => assumption); (case j3z103 => decide); (case j4z103 => exact TyFacts.wt (by assumption)); intro t' k')))
  trivial
local macro_rules | `(tactic| walk_at "call builtin:str.join") => `(tactic| k_extra "L103")
theorem fasc_c {prog : Program} {w : World} {dp un : Nat} {gd : Option (List Code)} {cn : Str} {cs : Scope} {a : Addr} {ccd : Value} {cl : List (Str × Addr)} {outer : List Env} {A₀ : Around} {base h₀ : Heap} {L : Addr} {m : Str → Option Value} {p : Program} {loose : List Str} {mean : ExcName → Option Value} {mg mb : Str → Option Value} {hp : Heap} {gs : Array GenState} {dr : Drawn} {tk : Nat} {os : OsState} {Q E : Value → Shared → Prop} {news : List (Addr × Obj)} {x : Str} {t : Tok}
    (c : Cx w dp un 900 9000 cs A₀ base outer h₀ L hp m p loose mean mg mb) (N : News h₀ L hp (news)) (hx : x ∈ TYPES)
    (ret : ∀ t2 h₁ tk₁, Fr h₀ L h₁ m → News h₀ L h₁ news → Q (.str (lowT x) t2) ⟨h₁, gs, dr, tk₁, os⟩) :
    wpAny (model prog w) (ktrTop dp un gd cn cs L a ccd cl outer) (call (.ref 462) [.str x t]) Q E ⟨hp, gs, dr, tk, os⟩ := by
  obtain ⟨B, F, X, T, hk, hdp, hun⟩ := c
  refine lowerK hdp hun ?_
  have nf := ty_facts hx
  k_dflt (refine' enterM (binds := [(Str.ofString "text", _)]) ?k0 ?k1 ?k2 ?k3 ?k4 ?k5 ?kA ?kF ?kK ?k6 ?k7 ?k8 ?k9 ?kB ?c2 ?_; (case k0 => exact rfl); (case kA => exact rfl); (case kF => exact rfl); (case kK => assumption); (case k1 => k_asm); (case k2 => k_asm); (case k3 => k_asm); (case k4 => k_asm); (case k5 => k_asm); (case k6 => k_is); (case k7 => k_is); (case k8 => exact Nat.le_of_ble_eq_true rfl); (case k9 => kernel_rfl!); (case kB => kernel_rfl!); (case c2 => kernel_rfl!); k_whole; intro g' L' h' t' FG' F' N' B' X' T' e9 A9 qk ek)
  k_steps
  · (rename (∀ (_ : Value) (_ : Tok) (_ : Nat), (_ : (Str → Option Value) → List (Addr × Obj) → Prop) _ _) => hq9; exact hq9 _ _ _)
  · (rename (∀ (_ : Value) (_ : Tok) (_ : Nat), (_ : (Str → Option Value) → List (Addr × Obj) → Prop) _ _) => hq9; exact hq9 _ _ _)
  · (rw [nf.jn]; (refine' ret _ _ _  ?eF87 ?eN87; (case eN87 => ktn_no "Mine.N"); (case eF87 => k_asm)))
end
example : True := by
  (k_with "CR" => (((with_reducible show wpAny _ _ (call (Value.ref 462) _) _ _ _); k_dflt (refine' fasc_c ?cz104 ?Nz104 ?p0z104 ?_; (case cz104 => ktn_no "Mine.cx"); (case Nz104 => k_asm); (case p0z104 => k_asm); k_whole); intro t' h' tk' F' N'; (try k_sweep); (try simp only [lowT_int, lowT_text, lowT_blob]); ktn_no "Mine.aft")))
  trivial
-- P3
section
example : True := by
  (k_with "L105" => (((rename Fr _ _ _ _ => lF'); (with_unfolding_all refine' For_turns lF' ?_; k_whole))))
  trivial
local macro_rules | `(tactic| walk_at "exec For Name Name cons nil") => `(tactic| k_extra "L105")
example : True := by
  (k_with "L106" => ((k_dflt (refine' iter_strTurns ?hhz106 ?Fz106 ?Nz106 ?haz106 ?hlz106 ?_; (case hhz106 => rfl); (case Fz106 => k_asm); (case Nz106 => k_asm); (case haz106 => decide +kernel); (case hlz106 => first | exact (show List.map (fun c => Str.mk #[c]) (Str.ofString "INT").cps.toList = [Str.ofString "I", Str.ofString "N", Str.ofString "T"] from by decide) | exact (show List.map (fun c => Str.mk #[c]) (Str.ofString "TEXT").cps.toList = [Str.ofString "T", Str.ofString "E", Str.ofString "X", Str.ofString "T"] from by decide) | exact (show List.map (fun c => Str.mk #[c]) (Str.ofString "BLOB").cps.toList = [Str.ofString "B", Str.ofString "L", Str.ofString "O", Str.ofString "B"] from by decide))); intro I' l9; (try k_lt l9))))
  trivial
local macro_rules | `(tactic| walk_at "pyIter str") => `(tactic| k_extra "L106")
example : True := by
  (k_with "L107" => (first | (refine' unrW1 ?Fz107 ?Nz107 ?offz107 ?_; (case Fz107 => k_asm); (case Nz107 => k_asm); (case offz107 => k_all); (first | (refine And.intro trivial ?_) | (refine And.intro (And.intro (by k_mem) trivial) ?_)))))
  trivial
local macro_rules | `(tactic| walk_at "UnrEndW") => `(tactic| k_extra "L107")
example : True := by
  (k_with "L108" => (((with_reducible show wpAny _ _ (pyIter (Value.ref _)) (fun it s₂ => TurnsAt _ _ _ _ _ _ _ _ _ it s₂) _ _); k_dflt (refine' iter_tupTurns ?hhz108 ?Fz108 ?Nz108 ?hmz108 ?hcz108 ?hdz108 ?_; (case hhz108 => rfl); (case Fz108 => k_asm); (case Nz108 => k_asm); (case hmz108 => k_mem); (case hcz108 => rfl); (case hdz108 => rfl)); intro I' l9; (try k_lt l9))))
  trivial
local macro_rules | `(tactic| walk_at "pyIter ref") => `(tactic| k_extra "L108")
example : True := by
  (k_with "L109" => (first | (refine' in_lit (b := true) ?bz109 ?_; (case bz109 => decide +kernel)) | (refine' in_lit (b := false) ?bz109 ?_; (case bz109 => decide +kernel))))
  trivial
local macro_rules | `(tactic| walk_at "compareOp In str str") => `(tactic| k_extra "L109")
theorem atype_c {prog : Program} {w : World} {dp un : Nat} {gd : Option (List Code)} {cn : Str} {cs : Scope} {a : Addr} {ccd : Value} {cl : List (Str × Addr)} {outer : List Env} {A₀ : Around} {base h₀ : Heap} {L : Addr} {m : Str → Option Value} {p : Program} {loose : List Str} {mean : ExcName → Option Value} {mg mb : Str → Option Value} {hp : Heap} {gs : Array GenState} {dr : Drawn} {tk : Nat} {os : OsState} {Q E : Value → Shared → Prop} {news : List (Addr × Obj)} {x : Str} {t : Tok}
    (c : Cx w dp un 885 8920 cs A₀ base outer h₀ L hp m p loose mean mg mb) (N : News h₀ L hp (news)) (hx : x ∈ TYPES)
    (ret : ∀ t2 h₁ tk₁, Fr h₀ L h₁ m → News h₀ L h₁ news → Q (.str (tyAff x).str t2) ⟨h₁, gs, dr, tk₁, os⟩) :
    wpAny (model prog w) (ktrTop dp un gd cn cs L a ccd cl outer) (call (.ref 469) [.str x t]) Q E ⟨hp, gs, dr, tk, os⟩ := by
  obtain ⟨B, F, X, T, hk, hdp, hun⟩ := c
  refine lowerK hdp hun ?_
  rcases types_cases hx with rfl | rfl | rfl
  · refine wpAny_call ?_
    k_dflt ktr_enter
    (first | (refine letA ?_; intro A9 e9) | skip)
    k_steps
    (refine' ret _ _ _  ?eF88 ?eN88; (case eN88 => ktn_no "Mine.N"); (case eF88 => k_asm))
  · refine wpAny_call ?_
    k_dflt ktr_enter
    (first | (refine letA ?_; intro A9 e9) | skip)
    k_steps
    (refine' ret _ _ _  ?eF89 ?eN89; (case eN89 => ktn_no "Mine.N"); (case eF89 => k_asm))
  · refine wpAny_call ?_
    k_dflt ktr_enter
    (first | (refine letA ?_; intro A9 e9) | skip)
    k_steps
    (refine' ret _ _ _  ?eF90 ?eN90; (case eN90 => ktn_no "Mine.N"); (case eF90 => k_asm))
end
example : True := by
  (k_with "CR" => (((with_reducible show wpAny _ _ (call (Value.ref 469) _) _ _ _); k_dflt (refine' atype_c ?cz110 ?Nz110 ?p0z110 ?_; (case cz110 => ktn_no "Mine.cx"); (case Nz110 => k_asm); (case p0z110 => k_asm); k_whole); intro t' h' tk' F' N'; (try k_sweep); ktn_no "Mine.aft")))
  trivial
-- B16
noncomputable def someV : Value → Bool
  | .none => false | _ => true
theorem isnot_someV {M : Model} {A : Around} {E : Value → Shared → Prop} {s : Shared} {v : Value} {Q : Value → Shared → Prop} (h : Q (.bool (someV v)) s) : wpAny M A (compareOp .IsNot v .none) Q E s := by
  by_cases hv : v = .none
  · subst hv; exact wpAny_isNot_self rfl h
  · have e : someV v = true := by cases v <;> first | rfl | exact absurd rfl hv
    exact isnot_none_ne hv (by rw [e] at h; exact h)
section
variable {prog : Program} {w : World} {A : Around} {E : Value → Shared → Prop} {s : Shared} {h₀ : Heap} {L : Addr} {m : Str → Option Value} {env : Env}
theorem some_rest {x : Str} {p1 p2 p3 p4 : Pos} {kk : Nat} {scope : Scope} {cl : List (Str × Addr)} {S : List (Addr × Obj) → Prop} {vs : List Value} {Fin : List Value → List (Addr × Obj) → Prop} {news : List (Addr × Obj)} (hS : S news)
    (hk : ∀ C, (compEnvC scope cl C env).scope.kind = .function) (hl : ∀ C, (compEnvC scope cl C env).kindOf x = some .local) (hd : (x == ("__debug__" : Str)) = false) :
    ∀ (k i : Nat) (ys : List Value), i + k = vs.length → Fin (ys ++ (vs.drop i).filter someV) news →
      LCt.CompRestT prog w A h₀ L m env (.Compare (.Name x p1) [.IsNot] [.Constant .none kk p2] p3) (.Name x p4) x scope cl s S (fun i v => vs.toArray[i]? = some v) Fin k i ys news := by
  intro k
  induction k with
  | zero =>
    intro i ys hi h
    have e : vs.drop i = [] := List.drop_eq_nil_of_le (by omega)
    rw [e] at h
    exact LCt.CompRestT.zero (by simpa using h)
  | succ k ih =>
    intro i ys hi h
    have hlt : i < vs.length := by omega
    rw [List.drop_eq_getElem_cons hlt] at h
    refine LCt.CompRestT.succ ?_
    intro v I oI C oC D m₂ h' tk E' hv hC hx F N off ne
    have e : vs[i] = v := Option.some.inj ((List.getElem?_eq_getElem hlt).symm.trans (by simpa using hv))
    rw [e] at h
    refine wpAny_isTrue_Compare1 (LCgL.ld_own N (by simp) hC hx (wpAny_Constant_none (isnot_someV (wpAny_truthy_bool ?_))) (hk _) (hl _) hd)
    cases hb : someV v
    · rw [List.filter_cons, hb] at h
      simp only [Bool.false_eq_true, if_false] at h ⊢
      exact compEnd0 F N off hS (ih (i + 1) ys (by omega) h)
    · rw [List.filter_cons, hb] at h
      simp only [if_true] at h ⊢
      refine LCgL.ld_own N (by simp) hC hx ?_ (hk _) (hl _) hd
      exact compEnd0 F N off hS (ih (i + 1) (ys ++ [v]) (by omega) (by simpa using h))
theorem ne_off {a : Addr} {l : List (Addr × Obj)} (h : LCg.Off1 a l) : ∀ p ∈ l, p.1 ≠ a := ne_off1 h
theorem ListComp_some {x y : Str} {px py p1 p2 p3 p4 pos : Pos} {kk : Nat} {scope : Scope} {cl : List (Str × Addr)} {Q : Value → Shared → Prop} {la : Addr} {vs : List Value} {n : Nat} {news : List (Addr × Obj)} (F₀ : Fr h₀ L s.heap m) (N₀ : News h₀ L s.heap news) (hh : A.handled = none)
    (h : wpAny (model prog w) A (eval (.Name y py) env) (fun v s₁ => v = .ref la ∧ s₁ = s) E s)
    (hm : (la, listOf vs.toArray n) ∈ news)
    (hclos : closureFor scope env = pure cl) (hcell : ∀ y ∈ scope.names, y.2 ≠ .cell) (hkind : scope.kind = .function)
    (hnames : ∀ y ∈ scope.names, y.2 = .local → scope.names.lookup y.1 = some .local) (hx : scope.names.lookup x = some .local)
    (hd : (x == ("__debug__" : Str)) = false) (hsz : vs.length ≤ 100)
    (R : ∀ D h tk, Fr h₀ L h m → News h₀ L h ((D, LCg.lst (vs.filter someV)) :: news) → (∀ p ∈ news, p.1 ≠ D) → Q (.ref D) { s with heap := h, toks := tk })
    (hs : ∀ x, foldedSetIterable (.Name y py) env x = pure x := by intro _; rfl) :
    wpAny (model prog w) A (eval (.ListComp (.Name x p4) [⟨.Name x px, .Name y py, [.Compare (.Name x p1) [.IsNot] [.Constant .none kk p2] p3], 0⟩] scope pos) env) Q E s := by
  refine LCt.ListComp_T F₀ hclos hcell hkind hnames hx (wpAny_mono h (fun xv s₁ h₁ => ?_) fun _ _ e => e) hs
  obtain ⟨rfl, rfl⟩ := h₁
  refine LCt.CompSrcT.ledger hh F₀ N₀ hm (by rw [PySem.sizeLine_eq, List.size_toArray]; omega) fun g => ?_
  rw [List.size_toArray]
  refine some_rest (.inr ⟨_, hm, rfl, _, rfl⟩) (fun C => hkind) (fun C => lookup_relabel_local hx) hd _ 0 [] (Nat.zero_add _) ?_
  intro D h₂ tk F₂ N₂ o1
  exact R D h₂ tk F₂ (by simpa using N₂) (ne_off1 o1)
end
noncomputable def pick4 (r1 r2 r3 r4 d : Value) : Value := if someV r1 then r1 else if someV r2 then r2 else if someV r3 then r3 else if someV r4 then r4 else d
theorem pick4_item (r1 r2 r3 r4 : Value) (x : Str) (t : Tok) : ([r1, r2, r3, r4, .str x t].filter someV)[(0 : Int).toNat]? = some (pick4 r1 r2 r3 r4 (.str x t)) := by
  unfold pick4
  have hd : someV (.str x t) = true := rfl
  by_cases h1 : someV r1 <;> by_cases h2 : someV r2 <;> by_cases h3 : someV r3 <;> by_cases h4 : someV r4 <;> simp [List.filter_cons, h1, h2, h3, h4, hd]
theorem os_someV {v : Value} {o : Option Str} (h : OS v o) : someV v = o.isSome := by cases h <;> rfl
theorem os_str {v : Value} {x : Str} (h : OS v (some x)) : ∃ t, v = .str x t := by cases h with | some x t => exact ⟨t, rfl⟩
theorem pick4_os {k : Cols} {l r : Side} {r1 r2 r3 r4 : Value} {t : Tok} (h1 : OS r1 l.expl) (h2 : OS r2 r.expl) (h3 : OS r3 (l.ofcol k)) (h4 : OS r4 (r.ofcol k)) : OS (pick4 r1 r2 r3 r4 (.str (Str.ofString "binary") t)) (some (collS k l r)) := by
  unfold pick4
  rw [(os_someV h1), (os_someV h2), (os_someV h3), (os_someV h4)]
  cases e1 : l.expl with
  | some x => rw [e1] at h1; rw [collS_1 e1]; exact h1
  | none =>
    cases e2 : r.expl with
    | some x => rw [e2] at h2; rw [collS_2 e1 e2]; exact h2
    | none =>
      cases e3 : l.ofcol k with
      | some x => rw [e3] at h3; rw [collS_3 e1 e2 e3]; exact h3
      | none =>
        cases e4 : r.ofcol k with
        | some x => rw [e4] at h4; rw [collS_4 e1 e2 e3 e4]; exact h4
        | none => rw [collS_5 e1 e2 e3 e4]; exact OS.some _ _
theorem os_1 {k : Cols} {l r : Side} {v : Value} (h : OS v l.expl) (b : someV v = true) : OS v (some (collS k l r)) := by
  cases e : l.expl with
  | some x => rw [e] at h; rw [collS_1 e]; exact h
  | none => rw [(os_someV h), e] at b; cases b
theorem os_none {v : Value} {o : Option Str} (h : OS v o) (b : someV v = false) : o = none := by
  cases e : o with
  | none => rfl
  | some x => rw [(os_someV h), e] at b; cases b
theorem os_2 {k : Cols} {l r : Side} {u v : Value} (h1 : OS u l.expl) (b1 : someV u = false) (h : OS v r.expl) (b : someV v = true) : OS v (some (collS k l r)) := by
  cases e : r.expl with
  | some x => rw [e] at h; rw [collS_2 (os_none h1 b1) e]; exact h
  | none => rw [(os_someV h), e] at b; cases b
theorem os_3 {k : Cols} {l r : Side} {u1 u2 v : Value} (h1 : OS u1 l.expl) (b1 : someV u1 = false) (h2 : OS u2 r.expl) (b2 : someV u2 = false) (h : OS v (l.ofcol k)) (b : someV v = true) : OS v (some (collS k l r)) := by
  cases e : l.ofcol k with
  | some x => rw [e] at h; rw [collS_3 (os_none h1 b1) (os_none h2 b2) e]; exact h
  | none => rw [(os_someV h), e] at b; cases b
theorem os_4 {k : Cols} {l r : Side} {u1 u2 u3 v : Value} (h1 : OS u1 l.expl) (b1 : someV u1 = false) (h2 : OS u2 r.expl) (b2 : someV u2 = false) (h3 : OS u3 (l.ofcol k)) (b3 : someV u3 = false) (h : OS v (r.ofcol k)) (b : (r.ofcol k).isSome = true) : OS v (some (collS k l r)) := by
  cases e : r.ofcol k with
  | some x => rw [e] at h; rw [collS_4 (os_none h1 b1) (os_none h2 b2) (os_none h3 b3) e]; exact h
  | none => rw [e] at b; cases b
theorem os_5 {k : Cols} {l r : Side} {u1 u2 u3 : Value} {t : Tok} (h1 : OS u1 l.expl) (b1 : someV u1 = false) (h2 : OS u2 r.expl) (b2 : someV u2 = false) (h3 : OS u3 (l.ofcol k)) (b3 : someV u3 = false) (b : (r.ofcol k).isSome = false) : OS (.str (Str.ofString "binary") t) (some (collS k l r)) := by
  cases e : r.ofcol k with
  | some x => rw [e] at b; cases b
  | none => rw [collS_5 (os_none h1 b1) (os_none h2 b2) (os_none h3 b3) e]; exact OS.some _ _
theorem ofcol_mem {k : Cols} (hk : k.Ok) {d : Side} {x : Str} : d.ofcol k = some x → x ∈ COLLS := by
  induction d with
  | col i => intro h; cases h; exact hk.coll i
  | lit v => intro h; cases h
  | cast d ty ih => exact ih
  | coll d c ih => intro h; cases h
theorem truthy_coll {prog : Program} {w : World} {A : Around} {E : Value → Shared → Prop} {s : Shared} {x : Str} {t : Tok} {Q : Bool → Shared → Prop} (hx : x ∈ COLLS) (h : Q true { s with toks := s.toks + 1 + 1 }) : wpAny (model prog w) A (truthy (.str x t)) Q E s := by
  have e : ((x.length : Int) != 0) = true ∧ ¬ (x.length : Int) ≥ 2 ^ 63 := by
    simp only [COLLS, List.mem_cons, List.not_mem_nil, or_false] at hx
    rcases hx with rfl | rfl | rfl <;> exact ⟨by decide, by decide⟩
  exact PySem.P.truthy_str e.2 (by rw [e.1]; exact h)
theorem truthy_os {prog : Program} {w : World} {A : Around} {E : Value → Shared → Prop} {s : Shared} {v : Value} {o : Option Str} {Q : Bool → Shared → Prop} (h : OS v o) (hm : ∀ x, o = some x → x ∈ COLLS) (k : ∀ tk, Q o.isSome { s with toks := tk }) : wpAny (model prog w) A (truthy v) Q E s := by
  cases h with
  | none => exact fun _ _ _ => k s.toks
  | some x t => exact truthy_coll (hm x rfl) (k _)
-- A14
section
example : True := by
  (k_with "L111" => ((k_dflt (refine ListComp_some (by k_asm) (by k_asm) (by rfl) (by (refine ld (by k_asm) (by rfl) ?_; exact ⟨rfl, rfl⟩)) (by k_mem) (by with_unfolding_all rfl) (by decide) (by rfl) (by decide) (by rfl) (by decide) (by exact Nat.le_of_ble_eq_true rfl) ?_); intro D' h' tk' F' N' l9)))
  trivial
local macro_rules | `(tactic| walk_at "eval ListComp") => `(tactic| k_extra "L111")
example : True := by
  (k_with "L112" => (((with_reducible show wpAny _ _ (subscriptTail _ _ (Value.ref _) (Value.int _ _)) _ _ _); k_dflt (refine' item_at ?z1z112 ?z2z112 ?z3z112 ?z4z112 ?z5z112 ?_; (case z1z112 => k_asm); (case z2z112 => k_mem); (case z3z112 => decide); (case z4z112 => decide); (case z5z112 => exact pick4_item _ _ _ _ _ _)))))
  trivial
local macro_rules | `(tactic| walk_at "subscriptTail") => `(tactic| k_extra "L112")
theorem coll_c {prog : Program} {w : World} {dp un : Nat} {gd : Option (List Code)} {cn : Str} {cs : Scope} {a : Addr} {ccd : Value} {cl : List (Str × Addr)} {outer : List Env} {A₀ : Around} {base h₀ : Heap} {L : Addr} {m : Str → Option Value} {p : Program} {loose : List Str} {mean : ExcName → Option Value} {mg mb : Str → Option Value} {hp : Heap} {gs : Array GenState} {dr : Drawn} {tk : Nat} {os : OsState} {Q E : Value → Shared → Prop} {news : List (Addr × Obj)} {v1 v2 cv : Value} {l r : Side} {k : Cols}
    (c : Cx w dp un 855 8760 cs A₀ base outer h₀ L hp m p loose mean mg mb) (N : News h₀ L hp (news)) (hR1 : SideIn news v1 l) (hR2 : SideIn news v2 r) (hB1 : l.Ok) (hB2 : r.Ok) (hC : ColsIn prog w news cv k)
    (ret : ∀ v h₁ tk₁, OS v (some (collS k l r)) → Fr h₀ L h₁ m → News h₀ L h₁ news → Q v ⟨h₁, gs, dr, tk₁, os⟩) :
    wpAny (model prog w) (ktrTop dp un gd cn cs L a ccd cl outer) (call (.ref 728) [v1, v2, cv]) Q E ⟨hp, gs, dr, tk, os⟩ := by
  obtain ⟨B, F, X, T, hk, hdp, hun⟩ := c
  refine lowerK hdp hun ?_
  k_dflt (refine' enterM (binds := [(Str.ofString "left", _), (Str.ofString "right", _), (Str.ofString "columns", _)]) ?k0 ?k1 ?k2 ?k3 ?k4 ?k5 ?kA ?kF ?kK ?k6 ?k7 ?k8 ?k9 ?kB ?c2 ?_; (case k0 => exact rfl); (case kA => exact rfl); (case kF => exact rfl); (case kK => assumption); (case k1 => k_asm); (case k2 => k_asm); (case k3 => k_asm); (case k4 => k_asm); (case k5 => k_asm); (case k6 => k_is); (case k7 => k_is); (case k8 => exact Nat.le_of_ble_eq_true rfl); (case k9 => kernel_rfl!); (case kB => kernel_rfl!); (case c2 => kernel_rfl!); k_whole; intro g' L' h' t' FG' F' N' B' X' T' e9 A9 qk ek)
  k_steps
  (refine' ret _ _ _ ?e91_0 ?eF91 ?eN91; (case eN91 => ktn_no "Mine.N"); (case eF91 => k_asm); (case e91_0 => exact pick4_os (by assumption) (by assumption) (by assumption) (by assumption)))
end
example : True := by
  (k_with "CR" => (((with_reducible show wpAny _ _ (call (Value.ref 728) _) _ _ _); k_dflt (refine' coll_c ?cz113 ?Nz113 ?p0z113 ?p1z113 ?p2z113 ?p3z113 ?p4z113 ?_; (case cz113 => ktn_no "Mine.cx"); (case Nz113 => k_asm); (case p0z113 => ktn_no "Mine.rel"); (case p1z113 => ktn_no "Mine.rel"); (case p2z113 => k_asm); (case p3z113 => k_asm); (case p4z113 => ktn_no "Mine.rel"); k_whole); intro v' h' tk' hv' F' N'; (try k_sweep); obtain ⟨t', e'⟩ := os_str hv'; subst e'; clear hv'; ktn_no "Mine.aft")))
  trivial
-- P4
theorem pe0_c {prog : Program} {w : World} {dp un : Nat} {gd : Option (List Code)} {cn : Str} {cs : Scope} {a : Addr} {ccd : Value} {cl : List (Str × Addr)} {outer : List Env} {A₀ : Around} {base h₀ : Heap} {L : Addr} {m : Str → Option Value} {p : Program} {loose : List Str} {mean : ExcName → Option Value} {mg mb : Str → Option Value} {hp : Heap} {gs : Array GenState} {dr : Drawn} {tk : Nat} {os : OsState} {Q E : Value → Shared → Prop} {news : List (Addr × Obj)} {v : Value} {d : Side} {k : Cols}
    (c : Cx w dp un 870 8840 cs A₀ base outer h₀ L hp m p loose mean mg mb) (N : News h₀ L hp (news)) (hR : NodeIn w k news v d) (hB : d.Base)
    (ret : ∀ r h₁ tk₁, OS r d.expl → Fr h₀ L h₁ m → News h₀ L h₁ news → Q r ⟨h₁, gs, dr, tk₁, os⟩) :
    wpAny (model prog w) (ktrTop dp un gd cn cs L a ccd cl outer) (call (.ref 517) [v]) Q E ⟨hp, gs, dr, tk, os⟩ := by
  obtain ⟨B, F, X, T, hk, hdp, hun⟩ := c
  refine lowerK hdp hun ?_
  rcases hB with i | lv
  · cases hR with
    | col _ hm hm2 =>
      have hbt := i.bt
      have hbc := i.bc
      k_dflt (refine' enterM (binds := [(Str.ofString "expr", _)]) ?k0 ?k1 ?k2 ?k3 ?k4 ?k5 ?kA ?kF ?kK ?k6 ?k7 ?k8 ?k9 ?kB ?c2 ?_; (case k0 => exact rfl); (case kA => exact rfl); (case kF => exact rfl); (case kK => assumption); (case k1 => k_asm); (case k2 => k_asm); (case k3 => k_asm); (case k4 => k_asm); (case k5 => k_asm); (case k6 => k_is); (case k7 => k_is); (case k8 => exact Nat.le_of_ble_eq_true rfl); (case k9 => kernel_rfl!); (case kB => kernel_rfl!); (case c2 => kernel_rfl!); k_whole; intro g' L' h' t' FG' F' N' B' X' T' e9 A9 qk ek)
      k_steps
      (refine' ret _ _ _ ?e92_0 ?eF92 ?eN92; (case eN92 => ktn_no "Mine.N"); (case eF92 => k_asm); (case e92_0 => exact OS.none))
  · cases hR with
    | lit hm hm2 hv =>
      k_dflt (refine' enterM (binds := [(Str.ofString "expr", _)]) ?k0 ?k1 ?k2 ?k3 ?k4 ?k5 ?kA ?kF ?kK ?k6 ?k7 ?k8 ?k9 ?kB ?c2 ?_; (case k0 => exact rfl); (case kA => exact rfl); (case kF => exact rfl); (case kK => assumption); (case k1 => k_asm); (case k2 => k_asm); (case k3 => k_asm); (case k4 => k_asm); (case k5 => k_asm); (case k6 => k_is); (case k7 => k_is); (case k8 => exact Nat.le_of_ble_eq_true rfl); (case k9 => kernel_rfl!); (case kB => kernel_rfl!); (case c2 => kernel_rfl!); k_whole; intro g' L' h' t' FG' F' N' B' X' T' e9 A9 qk ek)
      k_steps
      (refine' ret _ _ _ ?e93_0 ?eF93 ?eN93; (case eN93 => ktn_no "Mine.N"); (case eF93 => k_asm); (case e93_0 => exact OS.none))
example : True := by
  (k_with "CR" => (((with_reducible show wpAny _ _ (call (Value.ref 517) _) _ _ _); k_dflt (refine' pe0_c ?cz114 ?Nz114 ?p0z114 ?p1z114 ?_; (case cz114 => ktn_no "Mine.cx"); (case Nz114 => k_asm); (case p0z114 => ktn_no "Mine.rel"); (case p1z114 => k_asm); k_whole); intro r' h' tk' hr' F' N'; (try k_sweep); ktn_no "Mine.aft")))
  trivial
theorem pe1_c {prog : Program} {w : World} {dp un : Nat} {gd : Option (List Code)} {cn : Str} {cs : Scope} {a : Addr} {ccd : Value} {cl : List (Str × Addr)} {outer : List Env} {A₀ : Around} {base h₀ : Heap} {L : Addr} {m : Str → Option Value} {p : Program} {loose : List Str} {mean : ExcName → Option Value} {mg mb : Str → Option Value} {hp : Heap} {gs : Array GenState} {dr : Drawn} {tk : Nat} {os : OsState} {Q E : Value → Shared → Prop} {news : List (Addr × Obj)} {v : Value} {d : Side} {k : Cols}
    (c : Cx w dp un 855 8760 cs A₀ base outer h₀ L hp m p loose mean mg mb) (N : News h₀ L hp (news)) (hR : NodeIn w k news v d) (hB : d.Ok)
    (ret : ∀ r h₁ tk₁, OS r d.expl → Fr h₀ L h₁ m → News h₀ L h₁ news → Q r ⟨h₁, gs, dr, tk₁, os⟩) :
    wpAny (model prog w) (ktrTop dp un gd cn cs L a ccd cl outer) (call (.ref 517) [v]) Q E ⟨hp, gs, dr, tk, os⟩ := by
  obtain ⟨B, F, X, T, hk, hdp, hun⟩ := c
  refine lowerK hdp hun ?_
  rcases hB with hB | ⟨hB, ht⟩ | ⟨hB, ht⟩
  · exact pe0_c ⟨B, F, X, T, hk, by decide, by decide⟩ N hR hB ret
  · cases hR with
    | cast hm hm2 hx =>
      k_dflt (refine' enterM (binds := [(Str.ofString "expr", _)]) ?k0 ?k1 ?k2 ?k3 ?k4 ?k5 ?kA ?kF ?kK ?k6 ?k7 ?k8 ?k9 ?kB ?c2 ?_; (case k0 => exact rfl); (case kA => exact rfl); (case kF => exact rfl); (case kK => assumption); (case k1 => k_asm); (case k2 => k_asm); (case k3 => k_asm); (case k4 => k_asm); (case k5 => k_asm); (case k6 => k_is); (case k7 => k_is); (case k8 => exact Nat.le_of_ble_eq_true rfl); (case k9 => kernel_rfl!); (case kB => kernel_rfl!); (case c2 => kernel_rfl!); k_whole; intro g' L' h' t' FG' F' N' B' X' T' e9 A9 qk ek)
      k_steps
      (refine' ret _ _ _ ?e94_0 ?eF94 ?eN94; (case eN94 => ktn_no "Mine.N"); (case eF94 => k_asm); (case e94_0 => assumption))
  · cases hR with
    | coll hm hm2 hx =>
      k_dflt (refine' enterM (binds := [(Str.ofString "expr", _)]) ?k0 ?k1 ?k2 ?k3 ?k4 ?k5 ?kA ?kF ?kK ?k6 ?k7 ?k8 ?k9 ?kB ?c2 ?_; (case k0 => exact rfl); (case kA => exact rfl); (case kF => exact rfl); (case kK => assumption); (case k1 => k_asm); (case k2 => k_asm); (case k3 => k_asm); (case k4 => k_asm); (case k5 => k_asm); (case k6 => k_is); (case k7 => k_is); (case k8 => exact Nat.le_of_ble_eq_true rfl); (case k9 => kernel_rfl!); (case kB => kernel_rfl!); (case c2 => kernel_rfl!); k_whole; intro g' L' h' t' FG' F' N' B' X' T' e9 A9 qk ek)
      k_steps
      (refine' ret _ _ _ ?e95_0 ?eF95 ?eN95; (case eN95 => ktn_no "Mine.N"); (case eF95 => k_asm); (case e95_0 => exact OS.some _ _))
example : True := by
  (k_with "CR" => (((with_reducible show wpAny _ _ (call (Value.ref 517) _) _ _ _); k_dflt (refine' pe1_c ?cz115 ?Nz115 ?p0z115 ?p1z115 ?_; (case cz115 => ktn_no "Mine.cx"); (case Nz115 => k_asm); (case p0z115 => ktn_no "Mine.rel"); (case p1z115 => k_asm); k_whole); intro r' h' tk' hr' F' N'; (try k_sweep); ktn_no "Mine.aft")))
  trivial
-- P5
theorem pc0_c {prog : Program} {w : World} {dp un : Nat} {gd : Option (List Code)} {cn : Str} {cs : Scope} {a : Addr} {ccd : Value} {cl : List (Str × Addr)} {outer : List Env} {A₀ : Around} {base h₀ : Heap} {L : Addr} {m : Str → Option Value} {p : Program} {loose : List Str} {mean : ExcName → Option Value} {mg mb : Str → Option Value} {hp : Heap} {gs : Array GenState} {dr : Drawn} {tk : Nat} {os : OsState} {Q E : Value → Shared → Prop} {news : List (Addr × Obj)} {v : Value} {d : Side} {k : Cols}
    (c : Cx w dp un 870 8840 cs A₀ base outer h₀ L hp m p loose mean mg mb) (N : News h₀ L hp (news)) (hR : NodeIn w k news v d) (hB : d.Base)
    (ret : ∀ r h₁ tk₁, OS r (d.ofcol k) → Fr h₀ L h₁ m → News h₀ L h₁ news → Q r ⟨h₁, gs, dr, tk₁, os⟩) :
    wpAny (model prog w) (ktrTop dp un gd cn cs L a ccd cl outer) (call (.ref 524) [v]) Q E ⟨hp, gs, dr, tk, os⟩ := by
  obtain ⟨B, F, X, T, hk, hdp, hun⟩ := c
  refine lowerK hdp hun ?_
  rcases hB with i | lv
  · cases hR with
    | col _ hm hm2 =>
      have hbt := i.bt
      have hbc := i.bc
      k_dflt (refine' enterM (binds := [(Str.ofString "expr", _)]) ?k0 ?k1 ?k2 ?k3 ?k4 ?k5 ?kA ?kF ?kK ?k6 ?k7 ?k8 ?k9 ?kB ?c2 ?_; (case k0 => exact rfl); (case kA => exact rfl); (case kF => exact rfl); (case kK => assumption); (case k1 => k_asm); (case k2 => k_asm); (case k3 => k_asm); (case k4 => k_asm); (case k5 => k_asm); (case k6 => k_is); (case k7 => k_is); (case k8 => exact Nat.le_of_ble_eq_true rfl); (case k9 => kernel_rfl!); (case kB => kernel_rfl!); (case c2 => kernel_rfl!); k_whole; intro g' L' h' t' FG' F' N' B' X' T' e9 A9 qk ek)
      k_steps
      (refine' ret _ _ _ ?e96_0 ?eF96 ?eN96; (case eN96 => ktn_no "Mine.N"); (case eF96 => k_asm); (case e96_0 => exact OS.some _ _))
  · cases hR with
    | lit hm hm2 hv =>
      k_dflt (refine' enterM (binds := [(Str.ofString "expr", _)]) ?k0 ?k1 ?k2 ?k3 ?k4 ?k5 ?kA ?kF ?kK ?k6 ?k7 ?k8 ?k9 ?kB ?c2 ?_; (case k0 => exact rfl); (case kA => exact rfl); (case kF => exact rfl); (case kK => assumption); (case k1 => k_asm); (case k2 => k_asm); (case k3 => k_asm); (case k4 => k_asm); (case k5 => k_asm); (case k6 => k_is); (case k7 => k_is); (case k8 => exact Nat.le_of_ble_eq_true rfl); (case k9 => kernel_rfl!); (case kB => kernel_rfl!); (case c2 => kernel_rfl!); k_whole; intro g' L' h' t' FG' F' N' B' X' T' e9 A9 qk ek)
      k_steps
      (refine' ret _ _ _ ?e97_0 ?eF97 ?eN97; (case eN97 => ktn_no "Mine.N"); (case eF97 => k_asm); (case e97_0 => exact OS.none))
example : True := by
  (k_with "CR" => (((with_reducible show wpAny _ _ (call (Value.ref 524) _) _ _ _); k_dflt (refine' pc0_c ?cz116 ?Nz116 ?p0z116 ?p1z116 ?_; (case cz116 => ktn_no "Mine.cx"); (case Nz116 => k_asm); (case p0z116 => ktn_no "Mine.rel"); (case p1z116 => k_asm); k_whole); intro r' h' tk' hr' F' N'; (try k_sweep); ktn_no "Mine.aft")))
  trivial
theorem pc1_c {prog : Program} {w : World} {dp un : Nat} {gd : Option (List Code)} {cn : Str} {cs : Scope} {a : Addr} {ccd : Value} {cl : List (Str × Addr)} {outer : List Env} {A₀ : Around} {base h₀ : Heap} {L : Addr} {m : Str → Option Value} {p : Program} {loose : List Str} {mean : ExcName → Option Value} {mg mb : Str → Option Value} {hp : Heap} {gs : Array GenState} {dr : Drawn} {tk : Nat} {os : OsState} {Q E : Value → Shared → Prop} {news : List (Addr × Obj)} {v : Value} {d : Side} {k : Cols}
    (c : Cx w dp un 855 8760 cs A₀ base outer h₀ L hp m p loose mean mg mb) (N : News h₀ L hp (news)) (hR : NodeIn w k news v d) (hB : d.Ok)
    (ret : ∀ r h₁ tk₁, OS r (d.ofcol k) → Fr h₀ L h₁ m → News h₀ L h₁ news → Q r ⟨h₁, gs, dr, tk₁, os⟩) :
    wpAny (model prog w) (ktrTop dp un gd cn cs L a ccd cl outer) (call (.ref 524) [v]) Q E ⟨hp, gs, dr, tk, os⟩ := by
  obtain ⟨B, F, X, T, hk, hdp, hun⟩ := c
  refine lowerK hdp hun ?_
  rcases hB with hB | ⟨hB, ht⟩ | ⟨hB, ht⟩
  · exact pc0_c ⟨B, F, X, T, hk, by decide, by decide⟩ N hR hB ret
  · cases hR with
    | cast hm hm2 hx =>
      k_dflt (refine' enterM (binds := [(Str.ofString "expr", _)]) ?k0 ?k1 ?k2 ?k3 ?k4 ?k5 ?kA ?kF ?kK ?k6 ?k7 ?k8 ?k9 ?kB ?c2 ?_; (case k0 => exact rfl); (case kA => exact rfl); (case kF => exact rfl); (case kK => assumption); (case k1 => k_asm); (case k2 => k_asm); (case k3 => k_asm); (case k4 => k_asm); (case k5 => k_asm); (case k6 => k_is); (case k7 => k_is); (case k8 => exact Nat.le_of_ble_eq_true rfl); (case k9 => kernel_rfl!); (case kB => kernel_rfl!); (case c2 => kernel_rfl!); k_whole; intro g' L' h' t' FG' F' N' B' X' T' e9 A9 qk ek)
      k_steps
      (refine' ret _ _ _ ?e98_0 ?eF98 ?eN98; (case eN98 => ktn_no "Mine.N"); (case eF98 => k_asm); (case e98_0 => assumption))
  · cases hR with
    | coll hm hm2 hx =>
      k_dflt (refine' enterM (binds := [(Str.ofString "expr", _)]) ?k0 ?k1 ?k2 ?k3 ?k4 ?k5 ?kA ?kF ?kK ?k6 ?k7 ?k8 ?k9 ?kB ?c2 ?_; (case k0 => exact rfl); (case kA => exact rfl); (case kF => exact rfl); (case kK => assumption); (case k1 => k_asm); (case k2 => k_asm); (case k3 => k_asm); (case k4 => k_asm); (case k5 => k_asm); (case k6 => k_is); (case k7 => k_is); (case k8 => exact Nat.le_of_ble_eq_true rfl); (case k9 => kernel_rfl!); (case kB => kernel_rfl!); (case c2 => kernel_rfl!); k_whole; intro g' L' h' t' FG' F' N' B' X' T' e9 A9 qk ek)
      k_steps
      (refine' ret _ _ _ ?e99_0 ?eF99 ?eN99; (case eN99 => ktn_no "Mine.N"); (case eF99 => k_asm); (case e99_0 => exact OS.none))
example : True := by
  (k_with "CR" => (((with_reducible show wpAny _ _ (call (Value.ref 524) _) _ _ _); k_dflt (refine' pc1_c ?cz117 ?Nz117 ?p0z117 ?p1z117 ?_; (case cz117 => ktn_no "Mine.cx"); (case Nz117 => k_asm); (case p0z117 => ktn_no "Mine.rel"); (case p1z117 => k_asm); k_whole); intro r' h' tk' hr' F' N'; (try k_sweep); ktn_no "Mine.aft")))
  trivial
-- P6
theorem pa0_c {prog : Program} {w : World} {dp un : Nat} {gd : Option (List Code)} {cn : Str} {cs : Scope} {a : Addr} {ccd : Value} {cl : List (Str × Addr)} {outer : List Env} {A₀ : Around} {base h₀ : Heap} {L : Addr} {m : Str → Option Value} {p : Program} {loose : List Str} {mean : ExcName → Option Value} {mg mb : Str → Option Value} {hp : Heap} {gs : Array GenState} {dr : Drawn} {tk : Nat} {os : OsState} {Q E : Value → Shared → Prop} {news : List (Addr × Obj)} {v : Value} {d : Side} {k : Cols} {f : Col → Aff}
    (c : Cx w dp un 855 8760 cs A₀ base outer h₀ L hp m p loose mean mg mb) (N : News h₀ L hp (news)) (hR : NodeIn w k news v d) (hB : d.Base) (hK : k.AffIs f)
    (ret : ∀ r h₁ tk₁, OA r (d.affn f) → Fr h₀ L h₁ m → News h₀ L h₁ news → Q r ⟨h₁, gs, dr, tk₁, os⟩) :
    wpAny (model prog w) (ktrTop dp un gd cn cs L a ccd cl outer) (call (.ref 510) [v, .none]) Q E ⟨hp, gs, dr, tk, os⟩ := by
  obtain ⟨B, F, X, T, hk, hdp, hun⟩ := c
  refine lowerK hdp hun ?_
  obtain ⟨kind, names, gen, co, more⟩ := cs
  (try dsimp only at hk)
  subst hk
  rcases hB with i | lv
  · cases hR with
    | col _ hm hm2 =>
      have hbt := i.bt
      have hbc := i.bc
      refine wpAny_call ?_
      k_dflt k_enter
      (first | (refine letA ?_; intro A9 e9) | skip)
      k_steps
      (refine' ret _ _ _ ?e100_0 ?eF100 ?eN100; (case eN100 => ktn_no "Mine.N"); (case eF100 => k_asm); (case e100_0 => (rw [hK.is i]; exact OA.some (f i) _)))
  · cases hR with
    | lit hm hm2 hv =>
      refine wpAny_call ?_
      k_dflt k_enter
      (first | (refine letA ?_; intro A9 e9) | skip)
      k_steps
      (refine' ret _ _ _ ?e101_0 ?eF101 ?eN101; (case eN101 => ktn_no "Mine.N"); (case eF101 => k_asm); (case e101_0 => exact OA.none))
example : True := by
  (k_with "CR" => (((with_reducible show wpAny _ _ (call (Value.ref 510) _) _ _ _); k_dflt (refine' pa0_c ?cz118 ?Nz118 ?p0z118 ?p1z118 ?p2z118 ?_; (case cz118 => ktn_no "Mine.cx"); (case Nz118 => k_asm); (case p0z118 => ktn_no "Mine.rel"); (case p1z118 => k_asm); (case p2z118 => k_asm); k_whole); intro r' h' tk' hr' F' N'; (try k_sweep); ktn_no "Mine.aft")))
  trivial
theorem pa1_c {prog : Program} {w : World} {dp un : Nat} {gd : Option (List Code)} {cn : Str} {cs : Scope} {a : Addr} {ccd : Value} {cl : List (Str × Addr)} {outer : List Env} {A₀ : Around} {base h₀ : Heap} {L : Addr} {m : Str → Option Value} {p : Program} {loose : List Str} {mean : ExcName → Option Value} {mg mb : Str → Option Value} {hp : Heap} {gs : Array GenState} {dr : Drawn} {tk : Nat} {os : OsState} {Q E : Value → Shared → Prop} {news : List (Addr × Obj)} {v : Value} {d : Side} {k : Cols} {f : Col → Aff}
    (c : Cx w dp un 840 8680 cs A₀ base outer h₀ L hp m p loose mean mg mb) (N : News h₀ L hp (news)) (hR : NodeIn w k news v d) (hB : d.Ok) (hK : k.AffIs f)
    (ret : ∀ r h₁ tk₁, OA r (d.affn f) → Fr h₀ L h₁ m → News h₀ L h₁ news → Q r ⟨h₁, gs, dr, tk₁, os⟩) :
    wpAny (model prog w) (ktrTop dp un gd cn cs L a ccd cl outer) (call (.ref 510) [v]) Q E ⟨hp, gs, dr, tk, os⟩ := by
  obtain ⟨B, F, X, T, hk, hdp, hun⟩ := c
  refine lowerK hdp hun ?_
  obtain ⟨kind, names, gen, co, more⟩ := cs
  (try dsimp only at hk)
  subst hk
  rcases hB with (i | lv) | ⟨hB, ht⟩ | ⟨hB, ht⟩
  · cases hR with
    | col _ hm hm2 =>
      have hbt := i.bt
      have hbc := i.bc
      refine wpAny_call ?_
      k_dflt k_enter
      (first | (refine letA ?_; intro A9 e9) | skip)
      k_steps
      (refine' ret _ _ _ ?e102_0 ?eF102 ?eN102; (case eN102 => ktn_no "Mine.N"); (case eF102 => k_asm); (case e102_0 => (rw [hK.is i]; exact OA.some (f i) _)))
  · cases hR with
    | lit hm hm2 hv =>
      refine wpAny_call ?_
      k_dflt k_enter
      (first | (refine letA ?_; intro A9 e9) | skip)
      k_steps
      (refine' ret _ _ _ ?e103_0 ?eF103 ?eN103; (case eN103 => ktn_no "Mine.N"); (case eF103 => k_asm); (case e103_0 => exact OA.none))
  · cases hR with
    | cast hm hm2 hx =>
      refine wpAny_call ?_
      k_dflt k_enter
      (first | (refine letA ?_; intro A9 e9) | skip)
      k_steps
      (refine' ret _ _ _ ?e104_0 ?eF104 ?eN104; (case eN104 => ktn_no "Mine.N"); (case eF104 => k_asm); (case e104_0 => exact OA.some (tyAff _) _))
  · cases hR with
    | coll hm hm2 hx =>
      refine wpAny_call ?_
      k_dflt k_enter
      (first | (refine letA ?_; intro A9 e9) | skip)
      k_steps
      (refine' ret _ _ _ ?e105_0 ?eF105 ?eN105; (case eN105 => ktn_no "Mine.N"); (case eF105 => k_asm); (case e105_0 => assumption))
example : True := by
  (k_with "CR" => (((with_reducible show wpAny _ _ (call (Value.ref 510) _) _ _ _); k_dflt (refine' pa1_c ?cz119 ?Nz119 ?p0z119 ?p1z119 ?p2z119 ?_; (case cz119 => ktn_no "Mine.cx"); (case Nz119 => k_asm); (case p0z119 => ktn_no "Mine.rel"); (case p1z119 => k_asm); (case p2z119 => k_asm); k_whole); intro r' h' tk' hr' F' N'; (try k_sweep); ktn_no "Mine.aft")))
  trivial
-- P7
section
example : True := by
  (k_with "L120" => (refine isnot_someV ?_))
  trivial
local macro_rules | `(tactic| walk_at "compareOp IsNot") => `(tactic| k_extra "L120")
example : True := by
  (k_with "L121" => (((with_reducible show wpAny _ _ (pyIter (Value.ref _)) (fun it s₂ => TurnsAt _ _ _ _ _ _ _ _ _ it s₂) _ _); k_dflt (refine' iter_tupTurns ?hhz121 ?Fz121 ?Nz121 ?hmz121 ?hcz121 ?hdz121 ?_; (case hhz121 => rfl); (case Fz121 => k_asm); (case Nz121 => k_asm); (case hmz121 => k_mem); (case hcz121 => rfl); (case hdz121 => rfl)); intro I' l9; (try k_lt l9))))
  trivial
local macro_rules | `(tactic| walk_at "pyIter ref") => `(tactic| k_extra "L121")
example : True := by
  (k_with "L122" => ((refine' unrW1 ?Fz122 ?Nz122 ?offz122 ?_; (case Fz122 => k_asm); (case Nz122 => k_asm); (case offz122 => k_all); (refine And.intro (And.intro (by k_mem) trivial) ?_))))
  trivial
local macro_rules | `(tactic| walk_at "UnrEndW") => `(tactic| k_extra "L122")
example : True := by
  (k_with "L123" => ((refine truthy_os (by assumption) (fun _ => ofcol_mem (by assumption)) ?_; intro tk')))
  trivial
local macro_rules | `(tactic| walk_at "truthy") => `(tactic| k_extra "L123")
theorem pcc_c {prog : Program} {w : World} {dp un : Nat} {gd : Option (List Code)} {cn : Str} {cs : Scope} {a : Addr} {ccd : Value} {cl : List (Str × Addr)} {outer : List Env} {A₀ : Around} {base h₀ : Heap} {L : Addr} {m : Str → Option Value} {p : Program} {loose : List Str} {mean : ExcName → Option Value} {mg mb : Str → Option Value} {hp : Heap} {gs : Array GenState} {dr : Drawn} {tk : Nat} {os : OsState} {Q E : Value → Shared → Prop} {news : List (Addr × Obj)} {v1 v2 : Value} {l r : Side} {k : Cols}
    (c : Cx w dp un 840 8680 cs A₀ base outer h₀ L hp m p loose mean mg mb) (N : News h₀ L hp (news)) (hR1 : NodeIn w k news v1 l) (hR2 : NodeIn w k news v2 r) (hB1 : l.Ok) (hB2 : r.Ok) (hK : k.Ok)
    (ret : ∀ v h₁ tk₁, OS v (some (collS k l r)) → Fr h₀ L h₁ m → News h₀ L h₁ news → Q v ⟨h₁, gs, dr, tk₁, os⟩) :
    wpAny (model prog w) (ktrTop dp un gd cn cs L a ccd cl outer) (call (.ref 539) [v1, v2]) Q E ⟨hp, gs, dr, tk, os⟩ := by
  obtain ⟨B, F, X, T, hk, hdp, hun⟩ := c
  refine lowerK hdp hun ?_
  k_dflt (refine' enterM (binds := [(Str.ofString "left", _), (Str.ofString "right", _)]) ?k0 ?k1 ?k2 ?k3 ?k4 ?k5 ?kA ?kF ?kK ?k6 ?k7 ?k8 ?k9 ?kB ?c2 ?_; (case k0 => exact rfl); (case kA => exact rfl); (case kF => exact rfl); (case kK => assumption); (case k1 => k_asm); (case k2 => k_asm); (case k3 => k_asm); (case k4 => k_asm); (case k5 => k_asm); (case k6 => k_is); (case k7 => k_is); (case k8 => exact Nat.le_of_ble_eq_true rfl); (case k9 => kernel_rfl!); (case kB => kernel_rfl!); (case c2 => kernel_rfl!); k_whole; intro g' L' h' t' FG' F' N' B' X' T' e9 A9 qk ek)
  k_steps
  · (refine' ret _ _ _ ?e106_0 ?eF106 ?eN106; (case eN106 => ktn_no "Mine.N"); (case eF106 => k_asm); (case e106_0 => first | exact os_1 (by assumption) (by assumption) | exact os_2 (by assumption) (by assumption) (by assumption) (by assumption) | exact os_3 (by assumption) (by assumption) (by assumption) (by assumption) (by assumption) (by assumption) | exact os_4 (by assumption) (by assumption) (by assumption) (by assumption) (by assumption) (by assumption) (by assumption) (by assumption) | exact os_5 (by assumption) (by assumption) (by assumption) (by assumption) (by assumption) (by assumption) (by assumption)))
  · (refine' ret _ _ _ ?e107_0 ?eF107 ?eN107; (case eN107 => ktn_no "Mine.N"); (case eF107 => k_asm); (case e107_0 => first | exact os_1 (by assumption) (by assumption) | exact os_2 (by assumption) (by assumption) (by assumption) (by assumption) | exact os_3 (by assumption) (by assumption) (by assumption) (by assumption) (by assumption) (by assumption) | exact os_4 (by assumption) (by assumption) (by assumption) (by assumption) (by assumption) (by assumption) (by assumption) (by assumption) | exact os_5 (by assumption) (by assumption) (by assumption) (by assumption) (by assumption) (by assumption) (by assumption)))
  · (refine' ret _ _ _ ?e108_0 ?eF108 ?eN108; (case eN108 => ktn_no "Mine.N"); (case eF108 => k_asm); (case e108_0 => first | exact os_1 (by assumption) (by assumption) | exact os_2 (by assumption) (by assumption) (by assumption) (by assumption) | exact os_3 (by assumption) (by assumption) (by assumption) (by assumption) (by assumption) (by assumption) | exact os_4 (by assumption) (by assumption) (by assumption) (by assumption) (by assumption) (by assumption) (by assumption) (by assumption) | exact os_5 (by assumption) (by assumption) (by assumption) (by assumption) (by assumption) (by assumption) (by assumption)))
  · (refine' ret _ _ _ ?e109_0 ?eF109 ?eN109; (case eN109 => ktn_no "Mine.N"); (case eF109 => k_asm); (case e109_0 => first | exact os_1 (by assumption) (by assumption) | exact os_2 (by assumption) (by assumption) (by assumption) (by assumption) | exact os_3 (by assumption) (by assumption) (by assumption) (by assumption) (by assumption) (by assumption) | exact os_4 (by assumption) (by assumption) (by assumption) (by assumption) (by assumption) (by assumption) (by assumption) (by assumption) | exact os_5 (by assumption) (by assumption) (by assumption) (by assumption) (by assumption) (by assumption) (by assumption)))
  · (refine' ret _ _ _ ?e110_0 ?eF110 ?eN110; (case eN110 => ktn_no "Mine.N"); (case eF110 => k_asm); (case e110_0 => first | exact os_1 (by assumption) (by assumption) | exact os_2 (by assumption) (by assumption) (by assumption) (by assumption) | exact os_3 (by assumption) (by assumption) (by assumption) (by assumption) (by assumption) (by assumption) | exact os_4 (by assumption) (by assumption) (by assumption) (by assumption) (by assumption) (by assumption) (by assumption) (by assumption) | exact os_5 (by assumption) (by assumption) (by assumption) (by assumption) (by assumption) (by assumption) (by assumption)))
end
example : True := by
  (k_with "CR" => (((with_reducible show wpAny _ _ (call (Value.ref 539) _) _ _ _); k_dflt (refine' pcc_c ?cz124 ?Nz124 ?p0z124 ?p1z124 ?p2z124 ?p3z124 ?p4z124 ?_; (case cz124 => ktn_no "Mine.cx"); (case Nz124 => k_asm); (case p0z124 => ktn_no "Mine.rel"); (case p1z124 => ktn_no "Mine.rel"); (case p2z124 => k_asm); (case p3z124 => k_asm); (case p4z124 => k_asm); k_whole); intro v' h' tk' hv' F' N'; (try k_sweep); obtain ⟨t', e'⟩ := os_str hv'; subst e'; clear hv'; ktn_no "Mine.aft")))
  trivial
-- B17
noncomputable def affD : Option Aff → PyData
  | none => .none | some a => .str a.str
theorem oa_reads {h : Heap} {v : Value} {a : Option Aff} (x : OA v a) : Reads h v (affD a) [] := by
  cases x with
  | none => exact Reads.none
  | some a t => exact Reads.str _ _
theorem oa_some {v : Value} {a : Option Aff} (x : OA v a) : someV v = a.isSome := by cases x <;> rfl
noncomputable def isNum : Option Aff → Bool
  | some .integer => true | some .numeric => true | _ => false
noncomputable def isTxt : Option Aff → Bool
  | some .text => true | _ => false
noncomputable abbrev numD : List PyData := [.str (Str.ofString "integer"), .str (Str.ofString "numeric")]
theorem num_any (a : Option Aff) : decide (PySem.Spec.countIn (affD a) numD ≠ 0) = isNum a := by
  rcases a with _ | (_ | _ | _ | _) <;> decide +kernel
theorem num_mix (a : Option Aff) : ∀ y ∈ numD, PySem.SeqAt.noMix y (affD a) = true := by
  rcases a with _ | (_ | _ | _ | _) <;> decide +kernel
theorem aff_shaped (a : Option Aff) : SeqAt.shaped (affD a) = true := by
  rcases a with _ | (_ | _ | _ | _) <;> decide +kernel
theorem txt_eqv (a : Option Aff) : PyData.eqv (affD a) (.str (Str.ofString "text")) = isTxt a := by
  rcases a with _ | (_ | _ | _ | _) <;> decide +kernel
section
variable {prog : Program} {w : World} {A : Around} {E : Value → Shared → Prop} {s : Shared} {h₀ : Heap} {L c : Addr} {m : Str → Option Value} {news : List (Addr × Obj)} {v : Value} {a : Option Aff} {Q : Value → Shared → Prop} {t1 t2 t : Tok} {n : Nat} {x1 x2 : Str} {lo : Obj}
theorem num_reads_list (N : News h₀ L s.heap news) (hm : (c, listOf [.str (Str.ofString "integer") t1, .str (Str.ofString "numeric") t2].toArray n) ∈ news) : Reads s.heap (.ref c) (.list numD) [c] :=
  Reads.list (N _ hm).1 rfl rfl (ReadsAll.cons (Reads.str _ _) (ReadsAll.cons (Reads.str _ _) ReadsAll.nil))
theorem in_num_list (N : News h₀ L s.heap news) (hm : (c, listOf [.str (Str.ofString "integer") t1, .str (Str.ofString "numeric") t2].toArray n) ∈ news) (x : OA v a) (hu : A.units + 65 < cLine) (h : Q (.bool (isNum a)) s) :
    wpAny (model prog w) A (compareOp .In v (.ref c)) Q E s :=
  in_list_dataH (num_reads_list N hm) (oa_reads x) (by decide +kernel) (aff_shaped a) hu (num_mix a) (by rw [num_any]; exact h)
theorem num_reads_top {K : Frag} (F : Fr h₀ L s.heap m) (X : K.In h₀) (hk : K.lookup c = some lo) (hc : lo.cls = .type "tuple") (hd : lo.data = .seq #[.str x1 t1, .str x2 t2] n) (h1 : x1 = Str.ofString "integer") (h2 : x2 = Str.ofString "numeric") : Reads s.heap (.ref c) (.tuple numD) [] := by
  subst h1; subst h2
  exact Reads.tuple (F.keep _ _ (X _ _ hk)) hc hd (ReadsAll.cons (Reads.str _ _) (ReadsAll.cons (Reads.str _ _) ReadsAll.nil))
theorem in_num_top {K : Frag} (F : Fr h₀ L s.heap m) (X : K.In h₀) (hk : K.lookup c = some lo) (hc : lo.cls = .type "tuple") (hd : lo.data = .seq #[.str x1 t1, .str x2 t2] n) (h1 : x1 = Str.ofString "integer") (h2 : x2 = Str.ofString "numeric") (x : OA v a) (hu : A.units + 65 < cLine) (h : Q (.bool (isNum a)) s) :
    wpAny (model prog w) A (compareOp .In v (.ref c)) Q E s :=
  in_tuple_dataH (num_reads_top F X hk hc hd h1 h2) (oa_reads x) (by decide +kernel) (aff_shaped a) hu (num_mix a) (by rw [num_any]; exact h)
theorem notin_num_top {K : Frag} (F : Fr h₀ L s.heap m) (X : K.In h₀) (hk : K.lookup c = some lo) (hc : lo.cls = .type "tuple") (hd : lo.data = .seq #[.str x1 t1, .str x2 t2] n) (h1 : x1 = Str.ofString "integer") (h2 : x2 = Str.ofString "numeric") (x : OA v a) (hu : A.units + 65 < cLine) (h : Q (.bool (!isNum a)) s) :
    wpAny (model prog w) A (compareOp .NotIn v (.ref c)) Q E s :=
  notIn_tuple_dataH (num_reads_top F X hk hc hd h1 h2) (oa_reads x) (by decide +kernel) (aff_shaped a) hu (num_mix a) (by rw [num_any]; exact h)
theorem eq_text (x : OA v a) (hu : A.units + 64 < cLine) (h : Q (.bool (isTxt a)) s) : wpAny (model prog w) A (compareOp .Eq v (.str (Str.ofString "text") t)) Q E s :=
  eq_dataH (oa_reads x) (Reads.str _ _) (aff_shaped a) (by decide +kernel) hu (by rw [txt_eqv]; exact h)
theorem is_none_oa {M : Model} (x : OA v a) (h : Q (.bool (!a.isSome)) s) : wpAny M A (compareOp .Is v .none) Q E s := by
  cases x with
  | none => exact wpAny_is_self rfl h
  | some a t => exact is_str_none h
end
theorem led_nn {a b : Option Aff} (h : isNum a = true) (k : isNum b = true) : ledS a b = (none, none) := by
  rcases a with _ | (_ | _ | _ | _) <;> rcases b with _ | (_ | _ | _ | _) <;> first | rfl | exact absurd h (by decide) | exact absurd k (by decide)
theorem led_nx {a b : Option Aff} (h : isNum a = true) (k : isNum b = false) : ledS a b = (none, some .numeric) := by
  rcases a with _ | (_ | _ | _ | _) <;> rcases b with _ | (_ | _ | _ | _) <;> first | rfl | exact absurd h (by decide) | exact absurd k (by decide)
theorem led_xn {a b : Option Aff} (h : isNum a = false) (k : isNum b = true) : ledS a b = (some .numeric, none) := by
  rcases a with _ | (_ | _ | _ | _) <;> rcases b with _ | (_ | _ | _ | _) <;> first | rfl | exact absurd h (by decide) | exact absurd k (by decide)
theorem led_t0 {a b : Option Aff} (h : isTxt a = true) (k : b.isSome = false) : ledS a b = (none, some .text) := by
  rcases a with _ | (_ | _ | _ | _) <;> rcases b with _ | (_ | _ | _ | _) <;> first | rfl | exact absurd h (by decide) | exact absurd k (by decide)
theorem led_0t {a b : Option Aff} (h : a.isSome = false) (k : isTxt b = true) : ledS a b = (some .text, none) := by
  rcases a with _ | (_ | _ | _ | _) <;> rcases b with _ | (_ | _ | _ | _) <;> first | rfl | exact absurd h (by decide) | exact absurd k (by decide)
theorem led_00 {a b : Option Aff} (h : isNum a = false) (k : isNum b = false) (h1 : isTxt a = false ∨ b.isSome = true) (h2 : isTxt b = false ∨ a.isSome = true) : ledS a b = (none, none) := by
  rcases a with _ | (_ | _ | _ | _) <;> rcases b with _ | (_ | _ | _ | _) <;> first | rfl | exact absurd h (by decide) | exact absurd k (by decide) | exact absurd h1 (by decide) | exact absurd h2 (by decide)
/-- two values that are an affinity each, as ledS has it -/
noncomputable def Led (a b : Option Aff) (v1 v2 : Value) : Prop := OA v1 (ledS a b).1 ∧ OA v2 (ledS a b).2
theorem Led.of {a b : Option Aff} {x y : Option Aff} {v1 v2 : Value} (h : ledS a b = (x, y)) (h1 : OA v1 x) (h2 : OA v2 y) : Led a b v1 v2 := by unfold Led; rw [h]; exact ⟨h1, h2⟩
theorem nt_no {a : Option Aff} {P : Prop} (h : isNum a = true) (k : isTxt a = true) : P := by
  rcases a with _ | (_ | _ | _ | _) <;> first | exact absurd h (by decide) | exact absurd k (by decide)
theorem ts_no {a : Option Aff} {P : Prop} (h : isTxt a = true) (k : a.isSome = false) : P := by
  rcases a with _ | (_ | _ | _ | _) <;> first | exact absurd h (by decide) | exact absurd k (by decide)
-- A15
section
example : True := by
  (k_with "L125" => (first | (k_dflt (refine' in_num_list ?z1z125 ?z2z125 ?z3z125 ?z4z125 ?_; (case z1z125 => k_asm); (case z2z125 => k_mem); (case z3z125 => assumption); (case z4z125 => k_units))) | (k_dflt (refine' in_num_top ?z1z125 ?z2z125 ?z3z125 ?z4z125 ?z5z125 ?z6z125 ?z7z125 ?z8z125 ?z9z125 ?_; (case z1z125 => k_asm); (case z2z125 => k_asm); (case z3z125 => k_is); (case z4z125 => rfl); (case z5z125 => rfl); (case z6z125 => decide); (case z7z125 => decide); (case z8z125 => assumption); (case z9z125 => k_units)))))
  trivial
local macro_rules | `(tactic| walk_at "compareOp In") => `(tactic| k_extra "L125")
example : True := by
  (k_with "L126" => ((k_dflt (refine' notin_num_top ?z1z126 ?z2z126 ?z3z126 ?z4z126 ?z5z126 ?z6z126 ?z7z126 ?z8z126 ?z9z126 ?_; (case z1z126 => k_asm); (case z2z126 => k_asm); (case z3z126 => k_is); (case z4z126 => rfl); (case z5z126 => rfl); (case z6z126 => decide); (case z7z126 => decide); (case z8z126 => assumption); (case z9z126 => k_units)))))
  trivial
local macro_rules | `(tactic| walk_at "compareOp NotIn") => `(tactic| k_extra "L126")
example : True := by
  (k_with "L127" => ((refine' eq_text ?z1z127 ?z2z127 ?_; (case z1z127 => assumption); (case z2z127 => k_units))))
  trivial
local macro_rules | `(tactic| walk_at "compareOp Eq") => `(tactic| k_extra "L127")
example : True := by
  (k_with "L128" => ((refine' is_none_oa ?z1z128 ?_; (case z1z128 => assumption))))
  trivial
local macro_rules | `(tactic| walk_at "compareOp Is") => `(tactic| k_extra "L128")
local macro_rules | `(tactic| walk_at "Mine.pad") => `(tactic| skip)
theorem led_c {prog : Program} {w : World} {dp un : Nat} {gd : Option (List Code)} {cn : Str} {cs : Scope} {a : Addr} {ccd : Value} {cl : List (Str × Addr)} {outer : List Env} {A₀ : Around} {base h₀ : Heap} {L : Addr} {m : Str → Option Value} {p : Program} {loose : List Str} {mean : ExcName → Option Value} {mg mb : Str → Option Value} {hp : Heap} {gs : Array GenState} {dr : Drawn} {tk : Nat} {os : OsState} {Q E : Value → Shared → Prop} {news : List (Addr × Obj)} {v1 v2 : Value} {a1 a2 : Option Aff}
    (c : Cx w dp un 885 8920 cs A₀ base outer h₀ L hp m p loose mean mg mb) (N : News h₀ L hp (news)) (hA1 : OA v1 a1) (hA2 : OA v2 a2)
    (ret : ∀ pa n r1 r2 h₁ tk₁, Led a1 a2 r1 r2 → (∀ p ∈ news, p.1 ≠ pa) → Fr h₀ L h₁ m → News h₀ L h₁ ((pa, tupO [r1, r2] n) :: news) → Q (.ref pa) ⟨h₁, gs, dr, tk₁, os⟩) :
    wpAny (model prog w) (ktrTop dp un gd cn cs L a ccd cl outer) (call (.ref 742) [v1, v2]) Q E ⟨hp, gs, dr, tk, os⟩ := by
  obtain ⟨B, F, X, T, hk, hdp, hun⟩ := c
  refine lowerK hdp hun ?_
  k_dflt (refine' enterM (binds := [(Str.ofString "one", _), (Str.ofString "other", _)]) ?k0 ?k1 ?k2 ?k3 ?k4 ?k5 ?kA ?kF ?kK ?k6 ?k7 ?k8 ?k9 ?kB ?c2 ?_; (case k0 => exact rfl); (case kA => exact rfl); (case kF => exact rfl); (case kK => assumption); (case k1 => k_asm); (case k2 => k_asm); (case k3 => k_asm); (case k4 => k_asm); (case k5 => k_asm); (case k6 => k_is); (case k7 => k_is); (case k8 => exact Nat.le_of_ble_eq_true rfl); (case k9 => kernel_rfl!); (case kB => kernel_rfl!); (case c2 => kernel_rfl!); k_whole; intro g' L' h' t' FG' F' N' B' X' T' e9 A9 qk ek)
  k_steps
  · (refine' ret _ _ _ _ _ _ ?e111_0 ?e111_1 ?eF111 ?eN111; (case eN111 => ktn_no "Mine.N"); (case eF111 => k_asm); (case e111_1 => k_all); (case e111_0 => first | exact nt_no (a := a1) (by assumption) (by assumption) | exact nt_no (a := a2) (by assumption) (by assumption) | exact ts_no (a := a1) (by assumption) (by assumption) | exact ts_no (a := a2) (by assumption) (by assumption) | exact Led.of (led_nn (by assumption) (by assumption)) OA.none OA.none | exact Led.of (led_nx (by assumption) (by assumption)) OA.none (OA.some .numeric _) | exact Led.of (led_xn (by assumption) (by assumption)) (OA.some .numeric _) OA.none | exact Led.of (led_t0 (by assumption) (by assumption)) OA.none (OA.some .text _) | exact Led.of (led_0t (by assumption) (by assumption)) (OA.some .text _) OA.none | exact Led.of (led_00 (by assumption) (by assumption) (by first | exact Or.inl (by assumption) | exact Or.inr (by assumption)) (by first | exact Or.inl (by assumption) | exact Or.inr (by assumption))) OA.none OA.none))
  · (refine' ret _ _ _ _ _ _ ?e112_0 ?e112_1 ?eF112 ?eN112; (case eN112 => ktn_no "Mine.N"); (case eF112 => k_asm); (case e112_1 => k_all); (case e112_0 => first | exact nt_no (a := a1) (by assumption) (by assumption) | exact nt_no (a := a2) (by assumption) (by assumption) | exact ts_no (a := a1) (by assumption) (by assumption) | exact ts_no (a := a2) (by assumption) (by assumption) | exact Led.of (led_nn (by assumption) (by assumption)) OA.none OA.none | exact Led.of (led_nx (by assumption) (by assumption)) OA.none (OA.some .numeric _) | exact Led.of (led_xn (by assumption) (by assumption)) (OA.some .numeric _) OA.none | exact Led.of (led_t0 (by assumption) (by assumption)) OA.none (OA.some .text _) | exact Led.of (led_0t (by assumption) (by assumption)) (OA.some .text _) OA.none | exact Led.of (led_00 (by assumption) (by assumption) (by first | exact Or.inl (by assumption) | exact Or.inr (by assumption)) (by first | exact Or.inl (by assumption) | exact Or.inr (by assumption))) OA.none OA.none))
  · (refine' ret _ _ _ _ _ _ ?e113_0 ?e113_1 ?eF113 ?eN113; (case eN113 => ktn_no "Mine.N"); (case eF113 => k_asm); (case e113_1 => k_all); (case e113_0 => first | exact nt_no (a := a1) (by assumption) (by assumption) | exact nt_no (a := a2) (by assumption) (by assumption) | exact ts_no (a := a1) (by assumption) (by assumption) | exact ts_no (a := a2) (by assumption) (by assumption) | exact Led.of (led_nn (by assumption) (by assumption)) OA.none OA.none | exact Led.of (led_nx (by assumption) (by assumption)) OA.none (OA.some .numeric _) | exact Led.of (led_xn (by assumption) (by assumption)) (OA.some .numeric _) OA.none | exact Led.of (led_t0 (by assumption) (by assumption)) OA.none (OA.some .text _) | exact Led.of (led_0t (by assumption) (by assumption)) (OA.some .text _) OA.none | exact Led.of (led_00 (by assumption) (by assumption) (by first | exact Or.inl (by assumption) | exact Or.inr (by assumption)) (by first | exact Or.inl (by assumption) | exact Or.inr (by assumption))) OA.none OA.none))
  · (refine' ret _ _ _ _ _ _ ?e114_0 ?e114_1 ?eF114 ?eN114; (case eN114 => ktn_no "Mine.N"); (case eF114 => k_asm); (case e114_1 => k_all); (case e114_0 => first | exact nt_no (a := a1) (by assumption) (by assumption) | exact nt_no (a := a2) (by assumption) (by assumption) | exact ts_no (a := a1) (by assumption) (by assumption) | exact ts_no (a := a2) (by assumption) (by assumption) | exact Led.of (led_nn (by assumption) (by assumption)) OA.none OA.none | exact Led.of (led_nx (by assumption) (by assumption)) OA.none (OA.some .numeric _) | exact Led.of (led_xn (by assumption) (by assumption)) (OA.some .numeric _) OA.none | exact Led.of (led_t0 (by assumption) (by assumption)) OA.none (OA.some .text _) | exact Led.of (led_0t (by assumption) (by assumption)) (OA.some .text _) OA.none | exact Led.of (led_00 (by assumption) (by assumption) (by first | exact Or.inl (by assumption) | exact Or.inr (by assumption)) (by first | exact Or.inl (by assumption) | exact Or.inr (by assumption))) OA.none OA.none))
  · (refine' ret _ _ _ _ _ _ ?e115_0 ?e115_1 ?eF115 ?eN115; (case eN115 => ktn_no "Mine.N"); (case eF115 => k_asm); (case e115_1 => k_all); (case e115_0 => first | exact nt_no (a := a1) (by assumption) (by assumption) | exact nt_no (a := a2) (by assumption) (by assumption) | exact ts_no (a := a1) (by assumption) (by assumption) | exact ts_no (a := a2) (by assumption) (by assumption) | exact Led.of (led_nn (by assumption) (by assumption)) OA.none OA.none | exact Led.of (led_nx (by assumption) (by assumption)) OA.none (OA.some .numeric _) | exact Led.of (led_xn (by assumption) (by assumption)) (OA.some .numeric _) OA.none | exact Led.of (led_t0 (by assumption) (by assumption)) OA.none (OA.some .text _) | exact Led.of (led_0t (by assumption) (by assumption)) (OA.some .text _) OA.none | exact Led.of (led_00 (by assumption) (by assumption) (by first | exact Or.inl (by assumption) | exact Or.inr (by assumption)) (by first | exact Or.inl (by assumption) | exact Or.inr (by assumption))) OA.none OA.none))
  · (refine' ret _ _ _ _ _ _ ?e116_0 ?e116_1 ?eF116 ?eN116; (case eN116 => ktn_no "Mine.N"); (case eF116 => k_asm); (case e116_1 => k_all); (case e116_0 => first | exact nt_no (a := a1) (by assumption) (by assumption) | exact nt_no (a := a2) (by assumption) (by assumption) | exact ts_no (a := a1) (by assumption) (by assumption) | exact ts_no (a := a2) (by assumption) (by assumption) | exact Led.of (led_nn (by assumption) (by assumption)) OA.none OA.none | exact Led.of (led_nx (by assumption) (by assumption)) OA.none (OA.some .numeric _) | exact Led.of (led_xn (by assumption) (by assumption)) (OA.some .numeric _) OA.none | exact Led.of (led_t0 (by assumption) (by assumption)) OA.none (OA.some .text _) | exact Led.of (led_0t (by assumption) (by assumption)) (OA.some .text _) OA.none | exact Led.of (led_00 (by assumption) (by assumption) (by first | exact Or.inl (by assumption) | exact Or.inr (by assumption)) (by first | exact Or.inl (by assumption) | exact Or.inr (by assumption))) OA.none OA.none))
  · (refine' ret _ _ _ _ _ _ ?e117_0 ?e117_1 ?eF117 ?eN117; (case eN117 => ktn_no "Mine.N"); (case eF117 => k_asm); (case e117_1 => k_all); (case e117_0 => first | exact nt_no (a := a1) (by assumption) (by assumption) | exact nt_no (a := a2) (by assumption) (by assumption) | exact ts_no (a := a1) (by assumption) (by assumption) | exact ts_no (a := a2) (by assumption) (by assumption) | exact Led.of (led_nn (by assumption) (by assumption)) OA.none OA.none | exact Led.of (led_nx (by assumption) (by assumption)) OA.none (OA.some .numeric _) | exact Led.of (led_xn (by assumption) (by assumption)) (OA.some .numeric _) OA.none | exact Led.of (led_t0 (by assumption) (by assumption)) OA.none (OA.some .text _) | exact Led.of (led_0t (by assumption) (by assumption)) (OA.some .text _) OA.none | exact Led.of (led_00 (by assumption) (by assumption) (by first | exact Or.inl (by assumption) | exact Or.inr (by assumption)) (by first | exact Or.inl (by assumption) | exact Or.inr (by assumption))) OA.none OA.none))
  · (refine' ret _ _ _ _ _ _ ?e118_0 ?e118_1 ?eF118 ?eN118; (case eN118 => ktn_no "Mine.N"); (case eF118 => k_asm); (case e118_1 => k_all); (case e118_0 => first | exact nt_no (a := a1) (by assumption) (by assumption) | exact nt_no (a := a2) (by assumption) (by assumption) | exact ts_no (a := a1) (by assumption) (by assumption) | exact ts_no (a := a2) (by assumption) (by assumption) | exact Led.of (led_nn (by assumption) (by assumption)) OA.none OA.none | exact Led.of (led_nx (by assumption) (by assumption)) OA.none (OA.some .numeric _) | exact Led.of (led_xn (by assumption) (by assumption)) (OA.some .numeric _) OA.none | exact Led.of (led_t0 (by assumption) (by assumption)) OA.none (OA.some .text _) | exact Led.of (led_0t (by assumption) (by assumption)) (OA.some .text _) OA.none | exact Led.of (led_00 (by assumption) (by assumption) (by first | exact Or.inl (by assumption) | exact Or.inr (by assumption)) (by first | exact Or.inl (by assumption) | exact Or.inr (by assumption))) OA.none OA.none))
  · (refine' ret _ _ _ _ _ _ ?e119_0 ?e119_1 ?eF119 ?eN119; (case eN119 => ktn_no "Mine.N"); (case eF119 => k_asm); (case e119_1 => k_all); (case e119_0 => first | exact nt_no (a := a1) (by assumption) (by assumption) | exact nt_no (a := a2) (by assumption) (by assumption) | exact ts_no (a := a1) (by assumption) (by assumption) | exact ts_no (a := a2) (by assumption) (by assumption) | exact Led.of (led_nn (by assumption) (by assumption)) OA.none OA.none | exact Led.of (led_nx (by assumption) (by assumption)) OA.none (OA.some .numeric _) | exact Led.of (led_xn (by assumption) (by assumption)) (OA.some .numeric _) OA.none | exact Led.of (led_t0 (by assumption) (by assumption)) OA.none (OA.some .text _) | exact Led.of (led_0t (by assumption) (by assumption)) (OA.some .text _) OA.none | exact Led.of (led_00 (by assumption) (by assumption) (by first | exact Or.inl (by assumption) | exact Or.inr (by assumption)) (by first | exact Or.inl (by assumption) | exact Or.inr (by assumption))) OA.none OA.none))
  · (refine' ret _ _ _ _ _ _ ?e120_0 ?e120_1 ?eF120 ?eN120; (case eN120 => ktn_no "Mine.N"); (case eF120 => k_asm); (case e120_1 => k_all); (case e120_0 => first | exact nt_no (a := a1) (by assumption) (by assumption) | exact nt_no (a := a2) (by assumption) (by assumption) | exact ts_no (a := a1) (by assumption) (by assumption) | exact ts_no (a := a2) (by assumption) (by assumption) | exact Led.of (led_nn (by assumption) (by assumption)) OA.none OA.none | exact Led.of (led_nx (by assumption) (by assumption)) OA.none (OA.some .numeric _) | exact Led.of (led_xn (by assumption) (by assumption)) (OA.some .numeric _) OA.none | exact Led.of (led_t0 (by assumption) (by assumption)) OA.none (OA.some .text _) | exact Led.of (led_0t (by assumption) (by assumption)) (OA.some .text _) OA.none | exact Led.of (led_00 (by assumption) (by assumption) (by first | exact Or.inl (by assumption) | exact Or.inr (by assumption)) (by first | exact Or.inl (by assumption) | exact Or.inr (by assumption))) OA.none OA.none))
  · (refine' ret _ _ _ _ _ _ ?e121_0 ?e121_1 ?eF121 ?eN121; (case eN121 => ktn_no "Mine.N"); (case eF121 => k_asm); (case e121_1 => k_all); (case e121_0 => first | exact nt_no (a := a1) (by assumption) (by assumption) | exact nt_no (a := a2) (by assumption) (by assumption) | exact ts_no (a := a1) (by assumption) (by assumption) | exact ts_no (a := a2) (by assumption) (by assumption) | exact Led.of (led_nn (by assumption) (by assumption)) OA.none OA.none | exact Led.of (led_nx (by assumption) (by assumption)) OA.none (OA.some .numeric _) | exact Led.of (led_xn (by assumption) (by assumption)) (OA.some .numeric _) OA.none | exact Led.of (led_t0 (by assumption) (by assumption)) OA.none (OA.some .text _) | exact Led.of (led_0t (by assumption) (by assumption)) (OA.some .text _) OA.none | exact Led.of (led_00 (by assumption) (by assumption) (by first | exact Or.inl (by assumption) | exact Or.inr (by assumption)) (by first | exact Or.inl (by assumption) | exact Or.inr (by assumption))) OA.none OA.none))
  · (refine' ret _ _ _ _ _ _ ?e122_0 ?e122_1 ?eF122 ?eN122; (case eN122 => ktn_no "Mine.N"); (case eF122 => k_asm); (case e122_1 => k_all); (case e122_0 => first | exact nt_no (a := a1) (by assumption) (by assumption) | exact nt_no (a := a2) (by assumption) (by assumption) | exact ts_no (a := a1) (by assumption) (by assumption) | exact ts_no (a := a2) (by assumption) (by assumption) | exact Led.of (led_nn (by assumption) (by assumption)) OA.none OA.none | exact Led.of (led_nx (by assumption) (by assumption)) OA.none (OA.some .numeric _) | exact Led.of (led_xn (by assumption) (by assumption)) (OA.some .numeric _) OA.none | exact Led.of (led_t0 (by assumption) (by assumption)) OA.none (OA.some .text _) | exact Led.of (led_0t (by assumption) (by assumption)) (OA.some .text _) OA.none | exact Led.of (led_00 (by assumption) (by assumption) (by first | exact Or.inl (by assumption) | exact Or.inr (by assumption)) (by first | exact Or.inl (by assumption) | exact Or.inr (by assumption))) OA.none OA.none))
end
example : True := by
  (k_with "CR" => (((with_reducible show wpAny _ _ (call (Value.ref 742) _) _ _ _); k_dflt (refine' led_c ?cz129 ?Nz129 ?p0z129 ?p1z129 ?_; (case cz129 => ktn_no "Mine.cx"); (case Nz129 => k_asm); (case p0z129 => first | assumption | (rename (∀ _ : Tok, OA _ _) => hq9; exact hq9 _)); (case p1z129 => assumption); k_whole); intro pa' n' r1' r2' h' tk' hl' l9 F' N'; (try k_sweep); ktn_no "Mine.aft")))
  trivial
-- P8
section
example : True := by
  (k_with "L130" => (first | (k_dflt (refine' in_num_list ?z1z130 ?z2z130 ?z3z130 ?z4z130 ?_; (case z1z130 => k_asm); (case z2z130 => k_mem); (case z3z130 => assumption); (case z4z130 => k_units))) | (k_dflt (refine' in_num_top ?z1z130 ?z2z130 ?z3z130 ?z4z130 ?z5z130 ?z6z130 ?z7z130 ?z8z130 ?z9z130 ?_; (case z1z130 => k_asm); (case z2z130 => k_asm); (case z3z130 => k_is); (case z4z130 => rfl); (case z5z130 => rfl); (case z6z130 => decide); (case z7z130 => decide); (case z8z130 => assumption); (case z9z130 => k_units)))))
  trivial
local macro_rules | `(tactic| walk_at "compareOp In") => `(tactic| k_extra "L130")
example : True := by
  (k_with "L131" => ((k_dflt (refine' notin_num_top ?z1z131 ?z2z131 ?z3z131 ?z4z131 ?z5z131 ?z6z131 ?z7z131 ?z8z131 ?z9z131 ?_; (case z1z131 => k_asm); (case z2z131 => k_asm); (case z3z131 => k_is); (case z4z131 => rfl); (case z5z131 => rfl); (case z6z131 => decide); (case z7z131 => decide); (case z8z131 => assumption); (case z9z131 => k_units)))))
  trivial
local macro_rules | `(tactic| walk_at "compareOp NotIn") => `(tactic| k_extra "L131")
example : True := by
  (k_with "L132" => ((refine' eq_text ?z1z132 ?z2z132 ?_; (case z1z132 => assumption); (case z2z132 => k_units))))
  trivial
local macro_rules | `(tactic| walk_at "compareOp Eq") => `(tactic| k_extra "L132")
example : True := by
  (k_with "L133" => ((refine' is_none_oa ?z1z133 ?_; (case z1z133 => assumption))))
  trivial
local macro_rules | `(tactic| walk_at "compareOp Is") => `(tactic| k_extra "L133")
theorem pled_c {prog : Program} {w : World} {dp un : Nat} {gd : Option (List Code)} {cn : Str} {cs : Scope} {a : Addr} {ccd : Value} {cl : List (Str × Addr)} {outer : List Env} {A₀ : Around} {base h₀ : Heap} {L : Addr} {m : Str → Option Value} {p : Program} {loose : List Str} {mean : ExcName → Option Value} {mg mb : Str → Option Value} {hp : Heap} {gs : Array GenState} {dr : Drawn} {tk : Nat} {os : OsState} {Q E : Value → Shared → Prop} {news : List (Addr × Obj)} {v1 v2 : Value} {a1 a2 : Option Aff}
    (c : Cx w dp un 885 8920 cs A₀ base outer h₀ L hp m p loose mean mg mb) (N : News h₀ L hp (news)) (hA1 : OA v1 a1) (hA2 : OA v2 a2)
    (ret : ∀ pa n r1 r2 h₁ tk₁, Led a1 a2 r1 r2 → (∀ p ∈ news, p.1 ≠ pa) → Fr h₀ L h₁ m → News h₀ L h₁ ((pa, tupO [r1, r2] n) :: news) → Q (.ref pa) ⟨h₁, gs, dr, tk₁, os⟩) :
    wpAny (model prog w) (ktrTop dp un gd cn cs L a ccd cl outer) (call (.ref 476) [v1, v2]) Q E ⟨hp, gs, dr, tk, os⟩ := by
  obtain ⟨B, F, X, T, hk, hdp, hun⟩ := c
  refine lowerK hdp hun ?_
  k_dflt (refine' enterM (binds := [(Str.ofString "left", _), (Str.ofString "right", _)]) ?k0 ?k1 ?k2 ?k3 ?k4 ?k5 ?kA ?kF ?kK ?k6 ?k7 ?k8 ?k9 ?kB ?c2 ?_; (case k0 => exact rfl); (case kA => exact rfl); (case kF => exact rfl); (case kK => assumption); (case k1 => k_asm); (case k2 => k_asm); (case k3 => k_asm); (case k4 => k_asm); (case k5 => k_asm); (case k6 => k_is); (case k7 => k_is); (case k8 => exact Nat.le_of_ble_eq_true rfl); (case k9 => kernel_rfl!); (case kB => kernel_rfl!); (case c2 => kernel_rfl!); k_whole; intro g' L' h' t' FG' F' N' B' X' T' e9 A9 qk ek)
  k_steps
  · (refine' ret _ _ _ _ _ _ ?e123_0 ?e123_1 ?eF123 ?eN123; (case eN123 => ktn_no "Mine.N"); (case eF123 => k_asm); (case e123_1 => k_all); (case e123_0 => first | exact nt_no (a := a1) (by assumption) (by assumption) | exact nt_no (a := a2) (by assumption) (by assumption) | exact ts_no (a := a1) (by assumption) (by assumption) | exact ts_no (a := a2) (by assumption) (by assumption) | exact Led.of (led_nn (by assumption) (by assumption)) OA.none OA.none | exact Led.of (led_nx (by assumption) (by assumption)) OA.none (OA.some .numeric _) | exact Led.of (led_xn (by assumption) (by assumption)) (OA.some .numeric _) OA.none | exact Led.of (led_t0 (by assumption) (by assumption)) OA.none (OA.some .text _) | exact Led.of (led_0t (by assumption) (by assumption)) (OA.some .text _) OA.none | exact Led.of (led_00 (by assumption) (by assumption) (by first | exact Or.inl (by assumption) | exact Or.inr (by assumption)) (by first | exact Or.inl (by assumption) | exact Or.inr (by assumption))) OA.none OA.none))
  · (refine' ret _ _ _ _ _ _ ?e124_0 ?e124_1 ?eF124 ?eN124; (case eN124 => ktn_no "Mine.N"); (case eF124 => k_asm); (case e124_1 => k_all); (case e124_0 => first | exact nt_no (a := a1) (by assumption) (by assumption) | exact nt_no (a := a2) (by assumption) (by assumption) | exact ts_no (a := a1) (by assumption) (by assumption) | exact ts_no (a := a2) (by assumption) (by assumption) | exact Led.of (led_nn (by assumption) (by assumption)) OA.none OA.none | exact Led.of (led_nx (by assumption) (by assumption)) OA.none (OA.some .numeric _) | exact Led.of (led_xn (by assumption) (by assumption)) (OA.some .numeric _) OA.none | exact Led.of (led_t0 (by assumption) (by assumption)) OA.none (OA.some .text _) | exact Led.of (led_0t (by assumption) (by assumption)) (OA.some .text _) OA.none | exact Led.of (led_00 (by assumption) (by assumption) (by first | exact Or.inl (by assumption) | exact Or.inr (by assumption)) (by first | exact Or.inl (by assumption) | exact Or.inr (by assumption))) OA.none OA.none))
  · (refine' ret _ _ _ _ _ _ ?e125_0 ?e125_1 ?eF125 ?eN125; (case eN125 => ktn_no "Mine.N"); (case eF125 => k_asm); (case e125_1 => k_all); (case e125_0 => first | exact nt_no (a := a1) (by assumption) (by assumption) | exact nt_no (a := a2) (by assumption) (by assumption) | exact ts_no (a := a1) (by assumption) (by assumption) | exact ts_no (a := a2) (by assumption) (by assumption) | exact Led.of (led_nn (by assumption) (by assumption)) OA.none OA.none | exact Led.of (led_nx (by assumption) (by assumption)) OA.none (OA.some .numeric _) | exact Led.of (led_xn (by assumption) (by assumption)) (OA.some .numeric _) OA.none | exact Led.of (led_t0 (by assumption) (by assumption)) OA.none (OA.some .text _) | exact Led.of (led_0t (by assumption) (by assumption)) (OA.some .text _) OA.none | exact Led.of (led_00 (by assumption) (by assumption) (by first | exact Or.inl (by assumption) | exact Or.inr (by assumption)) (by first | exact Or.inl (by assumption) | exact Or.inr (by assumption))) OA.none OA.none))
  · (refine' ret _ _ _ _ _ _ ?e126_0 ?e126_1 ?eF126 ?eN126; (case eN126 => ktn_no "Mine.N"); (case eF126 => k_asm); (case e126_1 => k_all); (case e126_0 => first | exact nt_no (a := a1) (by assumption) (by assumption) | exact nt_no (a := a2) (by assumption) (by assumption) | exact ts_no (a := a1) (by assumption) (by assumption) | exact ts_no (a := a2) (by assumption) (by assumption) | exact Led.of (led_nn (by assumption) (by assumption)) OA.none OA.none | exact Led.of (led_nx (by assumption) (by assumption)) OA.none (OA.some .numeric _) | exact Led.of (led_xn (by assumption) (by assumption)) (OA.some .numeric _) OA.none | exact Led.of (led_t0 (by assumption) (by assumption)) OA.none (OA.some .text _) | exact Led.of (led_0t (by assumption) (by assumption)) (OA.some .text _) OA.none | exact Led.of (led_00 (by assumption) (by assumption) (by first | exact Or.inl (by assumption) | exact Or.inr (by assumption)) (by first | exact Or.inl (by assumption) | exact Or.inr (by assumption))) OA.none OA.none))
  · (refine' ret _ _ _ _ _ _ ?e127_0 ?e127_1 ?eF127 ?eN127; (case eN127 => ktn_no "Mine.N"); (case eF127 => k_asm); (case e127_1 => k_all); (case e127_0 => first | exact nt_no (a := a1) (by assumption) (by assumption) | exact nt_no (a := a2) (by assumption) (by assumption) | exact ts_no (a := a1) (by assumption) (by assumption) | exact ts_no (a := a2) (by assumption) (by assumption) | exact Led.of (led_nn (by assumption) (by assumption)) OA.none OA.none | exact Led.of (led_nx (by assumption) (by assumption)) OA.none (OA.some .numeric _) | exact Led.of (led_xn (by assumption) (by assumption)) (OA.some .numeric _) OA.none | exact Led.of (led_t0 (by assumption) (by assumption)) OA.none (OA.some .text _) | exact Led.of (led_0t (by assumption) (by assumption)) (OA.some .text _) OA.none | exact Led.of (led_00 (by assumption) (by assumption) (by first | exact Or.inl (by assumption) | exact Or.inr (by assumption)) (by first | exact Or.inl (by assumption) | exact Or.inr (by assumption))) OA.none OA.none))
  · (refine' ret _ _ _ _ _ _ ?e128_0 ?e128_1 ?eF128 ?eN128; (case eN128 => ktn_no "Mine.N"); (case eF128 => k_asm); (case e128_1 => k_all); (case e128_0 => first | exact nt_no (a := a1) (by assumption) (by assumption) | exact nt_no (a := a2) (by assumption) (by assumption) | exact ts_no (a := a1) (by assumption) (by assumption) | exact ts_no (a := a2) (by assumption) (by assumption) | exact Led.of (led_nn (by assumption) (by assumption)) OA.none OA.none | exact Led.of (led_nx (by assumption) (by assumption)) OA.none (OA.some .numeric _) | exact Led.of (led_xn (by assumption) (by assumption)) (OA.some .numeric _) OA.none | exact Led.of (led_t0 (by assumption) (by assumption)) OA.none (OA.some .text _) | exact Led.of (led_0t (by assumption) (by assumption)) (OA.some .text _) OA.none | exact Led.of (led_00 (by assumption) (by assumption) (by first | exact Or.inl (by assumption) | exact Or.inr (by assumption)) (by first | exact Or.inl (by assumption) | exact Or.inr (by assumption))) OA.none OA.none))
  · (refine' ret _ _ _ _ _ _ ?e129_0 ?e129_1 ?eF129 ?eN129; (case eN129 => ktn_no "Mine.N"); (case eF129 => k_asm); (case e129_1 => k_all); (case e129_0 => first | exact nt_no (a := a1) (by assumption) (by assumption) | exact nt_no (a := a2) (by assumption) (by assumption) | exact ts_no (a := a1) (by assumption) (by assumption) | exact ts_no (a := a2) (by assumption) (by assumption) | exact Led.of (led_nn (by assumption) (by assumption)) OA.none OA.none | exact Led.of (led_nx (by assumption) (by assumption)) OA.none (OA.some .numeric _) | exact Led.of (led_xn (by assumption) (by assumption)) (OA.some .numeric _) OA.none | exact Led.of (led_t0 (by assumption) (by assumption)) OA.none (OA.some .text _) | exact Led.of (led_0t (by assumption) (by assumption)) (OA.some .text _) OA.none | exact Led.of (led_00 (by assumption) (by assumption) (by first | exact Or.inl (by assumption) | exact Or.inr (by assumption)) (by first | exact Or.inl (by assumption) | exact Or.inr (by assumption))) OA.none OA.none))
  · (refine' ret _ _ _ _ _ _ ?e130_0 ?e130_1 ?eF130 ?eN130; (case eN130 => ktn_no "Mine.N"); (case eF130 => k_asm); (case e130_1 => k_all); (case e130_0 => first | exact nt_no (a := a1) (by assumption) (by assumption) | exact nt_no (a := a2) (by assumption) (by assumption) | exact ts_no (a := a1) (by assumption) (by assumption) | exact ts_no (a := a2) (by assumption) (by assumption) | exact Led.of (led_nn (by assumption) (by assumption)) OA.none OA.none | exact Led.of (led_nx (by assumption) (by assumption)) OA.none (OA.some .numeric _) | exact Led.of (led_xn (by assumption) (by assumption)) (OA.some .numeric _) OA.none | exact Led.of (led_t0 (by assumption) (by assumption)) OA.none (OA.some .text _) | exact Led.of (led_0t (by assumption) (by assumption)) (OA.some .text _) OA.none | exact Led.of (led_00 (by assumption) (by assumption) (by first | exact Or.inl (by assumption) | exact Or.inr (by assumption)) (by first | exact Or.inl (by assumption) | exact Or.inr (by assumption))) OA.none OA.none))
  · (refine' ret _ _ _ _ _ _ ?e131_0 ?e131_1 ?eF131 ?eN131; (case eN131 => ktn_no "Mine.N"); (case eF131 => k_asm); (case e131_1 => k_all); (case e131_0 => first | exact nt_no (a := a1) (by assumption) (by assumption) | exact nt_no (a := a2) (by assumption) (by assumption) | exact ts_no (a := a1) (by assumption) (by assumption) | exact ts_no (a := a2) (by assumption) (by assumption) | exact Led.of (led_nn (by assumption) (by assumption)) OA.none OA.none | exact Led.of (led_nx (by assumption) (by assumption)) OA.none (OA.some .numeric _) | exact Led.of (led_xn (by assumption) (by assumption)) (OA.some .numeric _) OA.none | exact Led.of (led_t0 (by assumption) (by assumption)) OA.none (OA.some .text _) | exact Led.of (led_0t (by assumption) (by assumption)) (OA.some .text _) OA.none | exact Led.of (led_00 (by assumption) (by assumption) (by first | exact Or.inl (by assumption) | exact Or.inr (by assumption)) (by first | exact Or.inl (by assumption) | exact Or.inr (by assumption))) OA.none OA.none))
  · (refine' ret _ _ _ _ _ _ ?e132_0 ?e132_1 ?eF132 ?eN132; (case eN132 => ktn_no "Mine.N"); (case eF132 => k_asm); (case e132_1 => k_all); (case e132_0 => first | exact nt_no (a := a1) (by assumption) (by assumption) | exact nt_no (a := a2) (by assumption) (by assumption) | exact ts_no (a := a1) (by assumption) (by assumption) | exact ts_no (a := a2) (by assumption) (by assumption) | exact Led.of (led_nn (by assumption) (by assumption)) OA.none OA.none | exact Led.of (led_nx (by assumption) (by assumption)) OA.none (OA.some .numeric _) | exact Led.of (led_xn (by assumption) (by assumption)) (OA.some .numeric _) OA.none | exact Led.of (led_t0 (by assumption) (by assumption)) OA.none (OA.some .text _) | exact Led.of (led_0t (by assumption) (by assumption)) (OA.some .text _) OA.none | exact Led.of (led_00 (by assumption) (by assumption) (by first | exact Or.inl (by assumption) | exact Or.inr (by assumption)) (by first | exact Or.inl (by assumption) | exact Or.inr (by assumption))) OA.none OA.none))
  · (refine' ret _ _ _ _ _ _ ?e133_0 ?e133_1 ?eF133 ?eN133; (case eN133 => ktn_no "Mine.N"); (case eF133 => k_asm); (case e133_1 => k_all); (case e133_0 => first | exact nt_no (a := a1) (by assumption) (by assumption) | exact nt_no (a := a2) (by assumption) (by assumption) | exact ts_no (a := a1) (by assumption) (by assumption) | exact ts_no (a := a2) (by assumption) (by assumption) | exact Led.of (led_nn (by assumption) (by assumption)) OA.none OA.none | exact Led.of (led_nx (by assumption) (by assumption)) OA.none (OA.some .numeric _) | exact Led.of (led_xn (by assumption) (by assumption)) (OA.some .numeric _) OA.none | exact Led.of (led_t0 (by assumption) (by assumption)) OA.none (OA.some .text _) | exact Led.of (led_0t (by assumption) (by assumption)) (OA.some .text _) OA.none | exact Led.of (led_00 (by assumption) (by assumption) (by first | exact Or.inl (by assumption) | exact Or.inr (by assumption)) (by first | exact Or.inl (by assumption) | exact Or.inr (by assumption))) OA.none OA.none))
  · (refine' ret _ _ _ _ _ _ ?e134_0 ?e134_1 ?eF134 ?eN134; (case eN134 => ktn_no "Mine.N"); (case eF134 => k_asm); (case e134_1 => k_all); (case e134_0 => first | exact nt_no (a := a1) (by assumption) (by assumption) | exact nt_no (a := a2) (by assumption) (by assumption) | exact ts_no (a := a1) (by assumption) (by assumption) | exact ts_no (a := a2) (by assumption) (by assumption) | exact Led.of (led_nn (by assumption) (by assumption)) OA.none OA.none | exact Led.of (led_nx (by assumption) (by assumption)) OA.none (OA.some .numeric _) | exact Led.of (led_xn (by assumption) (by assumption)) (OA.some .numeric _) OA.none | exact Led.of (led_t0 (by assumption) (by assumption)) OA.none (OA.some .text _) | exact Led.of (led_0t (by assumption) (by assumption)) (OA.some .text _) OA.none | exact Led.of (led_00 (by assumption) (by assumption) (by first | exact Or.inl (by assumption) | exact Or.inr (by assumption)) (by first | exact Or.inl (by assumption) | exact Or.inr (by assumption))) OA.none OA.none))
  · (refine' ret _ _ _ _ _ _ ?e135_0 ?e135_1 ?eF135 ?eN135; (case eN135 => ktn_no "Mine.N"); (case eF135 => k_asm); (case e135_1 => k_all); (case e135_0 => first | exact nt_no (a := a1) (by assumption) (by assumption) | exact nt_no (a := a2) (by assumption) (by assumption) | exact ts_no (a := a1) (by assumption) (by assumption) | exact ts_no (a := a2) (by assumption) (by assumption) | exact Led.of (led_nn (by assumption) (by assumption)) OA.none OA.none | exact Led.of (led_nx (by assumption) (by assumption)) OA.none (OA.some .numeric _) | exact Led.of (led_xn (by assumption) (by assumption)) (OA.some .numeric _) OA.none | exact Led.of (led_t0 (by assumption) (by assumption)) OA.none (OA.some .text _) | exact Led.of (led_0t (by assumption) (by assumption)) (OA.some .text _) OA.none | exact Led.of (led_00 (by assumption) (by assumption) (by first | exact Or.inl (by assumption) | exact Or.inr (by assumption)) (by first | exact Or.inl (by assumption) | exact Or.inr (by assumption))) OA.none OA.none))
  · (refine' ret _ _ _ _ _ _ ?e136_0 ?e136_1 ?eF136 ?eN136; (case eN136 => ktn_no "Mine.N"); (case eF136 => k_asm); (case e136_1 => k_all); (case e136_0 => first | exact nt_no (a := a1) (by assumption) (by assumption) | exact nt_no (a := a2) (by assumption) (by assumption) | exact ts_no (a := a1) (by assumption) (by assumption) | exact ts_no (a := a2) (by assumption) (by assumption) | exact Led.of (led_nn (by assumption) (by assumption)) OA.none OA.none | exact Led.of (led_nx (by assumption) (by assumption)) OA.none (OA.some .numeric _) | exact Led.of (led_xn (by assumption) (by assumption)) (OA.some .numeric _) OA.none | exact Led.of (led_t0 (by assumption) (by assumption)) OA.none (OA.some .text _) | exact Led.of (led_0t (by assumption) (by assumption)) (OA.some .text _) OA.none | exact Led.of (led_00 (by assumption) (by assumption) (by first | exact Or.inl (by assumption) | exact Or.inr (by assumption)) (by first | exact Or.inl (by assumption) | exact Or.inr (by assumption))) OA.none OA.none))
  · (refine' ret _ _ _ _ _ _ ?e137_0 ?e137_1 ?eF137 ?eN137; (case eN137 => ktn_no "Mine.N"); (case eF137 => k_asm); (case e137_1 => k_all); (case e137_0 => first | exact nt_no (a := a1) (by assumption) (by assumption) | exact nt_no (a := a2) (by assumption) (by assumption) | exact ts_no (a := a1) (by assumption) (by assumption) | exact ts_no (a := a2) (by assumption) (by assumption) | exact Led.of (led_nn (by assumption) (by assumption)) OA.none OA.none | exact Led.of (led_nx (by assumption) (by assumption)) OA.none (OA.some .numeric _) | exact Led.of (led_xn (by assumption) (by assumption)) (OA.some .numeric _) OA.none | exact Led.of (led_t0 (by assumption) (by assumption)) OA.none (OA.some .text _) | exact Led.of (led_0t (by assumption) (by assumption)) (OA.some .text _) OA.none | exact Led.of (led_00 (by assumption) (by assumption) (by first | exact Or.inl (by assumption) | exact Or.inr (by assumption)) (by first | exact Or.inl (by assumption) | exact Or.inr (by assumption))) OA.none OA.none))
  · (refine' ret _ _ _ _ _ _ ?e138_0 ?e138_1 ?eF138 ?eN138; (case eN138 => ktn_no "Mine.N"); (case eF138 => k_asm); (case e138_1 => k_all); (case e138_0 => first | exact nt_no (a := a1) (by assumption) (by assumption) | exact nt_no (a := a2) (by assumption) (by assumption) | exact ts_no (a := a1) (by assumption) (by assumption) | exact ts_no (a := a2) (by assumption) (by assumption) | exact Led.of (led_nn (by assumption) (by assumption)) OA.none OA.none | exact Led.of (led_nx (by assumption) (by assumption)) OA.none (OA.some .numeric _) | exact Led.of (led_xn (by assumption) (by assumption)) (OA.some .numeric _) OA.none | exact Led.of (led_t0 (by assumption) (by assumption)) OA.none (OA.some .text _) | exact Led.of (led_0t (by assumption) (by assumption)) (OA.some .text _) OA.none | exact Led.of (led_00 (by assumption) (by assumption) (by first | exact Or.inl (by assumption) | exact Or.inr (by assumption)) (by first | exact Or.inl (by assumption) | exact Or.inr (by assumption))) OA.none OA.none))
end
example : True := by
  (k_with "CR" => (((with_reducible show wpAny _ _ (call (Value.ref 476) _) _ _ _); k_dflt (refine' pled_c ?cz134 ?Nz134 ?p0z134 ?p1z134 ?_; (case cz134 => ktn_no "Mine.cx"); (case Nz134 => k_asm); (case p0z134 => first | assumption | (rename (∀ _ : Tok, OA _ _) => hq9; exact hq9 _)); (case p1z134 => assumption); k_whole); intro pa' n' r1' r2' h' tk' hl' l9 F' N'; (try k_sweep); ktn_no "Mine.aft")))
  trivial
-- B21
/-- what is due of a condition: one bound -/
inductive Due where
  | one (i : Col) (op : Str) (d : Side) (led : Option Aff) (coll : Str)
  | many (i : Col) (ds : List Side) (led : Option Aff) (coll : Str)
inductive Due.Ok : Due → Prop
  | one {i : Col} {op : Str} {d : Side} {led : Option Aff} {coll : Str} : op ∈ OPS → d.Ok → Due.Ok (.one i op d led coll)
  | many {i : Col} {ds : List Side} {led : Option Aff} {coll : Str} : ds.length ≤ 2 → (∀ d ∈ ds, d.Base) → Due.Ok (.many i ds led coll)
inductive DueIn (news : List (Addr × Obj)) : Value → Due → Prop
  | one {a : Addr} {n : Nat} {t1 t2 t3 : Tok} {v r : Value} {i : Col} {op : Str} {d : Side} {led : Option Aff} {coll : Str} : (a, listOf [.int i.c t1, .str op t2, v, r, .str coll t3].toArray n) ∈ news → SideIn news v d → OA r led → DueIn news (.ref a) (.one i op d led coll)
  | many {a la : Addr} {n ln : Nat} {t1 t2 t3 : Tok} {r : Value} {vs : List Value} {i : Col} {ds : List Side} {led : Option Aff} {coll : Str} : (a, listOf [.int i.c t1, .str (Str.ofString "in") t2, .ref la, r, .str coll t3].toArray n) ∈ news → (la, listOf vs.toArray ln) ∈ news → SidesIn news vs ds → OA r led → DueIn news (.ref a) (.many i ds led coll)
theorem DueIn.mono {news news' : List (Addr × Obj)} {v : Value} {d : Due} (h : DueIn news v d) (hs : ∀ p ∈ news, p ∈ news') : DueIn news' v d := by
  cases h with
  | one h1 h2 h3 => exact .one (hs _ h1) (h2.mono hs) h3
  | many h1 h2 h3 h4 => exact .many (hs _ h1) (hs _ h2) (h3.mono hs) h4
inductive OptDue (news : List (Addr × Obj)) : List Value → Option Due → Prop
  | nil : OptDue news [] none
  | one {v : Value} {d : Due} : DueIn news v d → OptDue news [v] (some d)
theorem OptDue.mono {news news' : List (Addr × Obj)} {vs : List Value} {d : Option Due} (h : OptDue news vs d) (hs : ∀ p ∈ news, p ∈ news') : OptDue news' vs d := by
  cases h with
  | nil => exact .nil
  | one h => exact .one (h.mono hs)
open Classical in
noncomputable def oneS (k : Cols) (f : Col → Aff) (op : Str) (side other l r : Side) : Option Due :=
  match side with
  | .col i => if i.t = 1 ∧ other.own = false ∧ (ledS (some (f i)) (other.affn f)).1 = none then some (.one i op other (ledS (some (f i)) (other.affn f)).2 (collS k l r)) else none
  | _ => none
section
variable {news : List (Addr × Obj)} {k : Cols} {f : Col → Aff} {op : Str} {i : Col} {other l r : Side}
theorem led_some {a b : Option Aff} {r1 r2 : Value} (h : Led a b r1 r2) : someV r1 = (ledS a b).1.isSome := oa_some h.1
theorem led_is_none {a b : Option Aff} {r1 r2 : Value} (h : Led a b r1 r2) (hs : someV r1 = false) : (ledS a b).1 = none := by
  rw [led_some h] at hs
  cases e : (ledS a b).1 with
  | none => rfl
  | some x => rw [e] at hs; cases hs
theorem oneS_is (ht : i.t = 1) (ho : other.own = false) (hl : (ledS (some (f i)) (other.affn f)).1 = none) : oneS k f op (.col i) other l r = some (.one i op other (ledS (some (f i)) (other.affn f)).2 (collS k l r)) := by
  unfold oneS; exact if_pos ⟨ht, ho, hl⟩
theorem oneS_not (h : ¬ (i.t = 1 ∧ other.own = false ∧ (ledS (some (f i)) (other.affn f)).1 = none)) : oneS k f op (.col i) other l r = none := by
  unfold oneS; exact if_neg h
theorem optDue_1 {lb : Addr} {n : Nat} {t1 t2 t3 : Tok} {v r1 r2 : Value} (ht : i.t = 1) (ho : other.own = false) (hl : Led (some (f i)) (other.affn f) r1 r2) (hs : someV r1 = false) (hm : (lb, listOf [.int i.c t1, .str op t2, v, r2, .str (collS k l r) t3].toArray n) ∈ news) (hR : SideIn news v other) : OptDue news [.ref lb] (oneS k f op (.col i) other l r) := by
  rw [oneS_is ht ho (led_is_none hl hs)]
  exact .one (.one hm hR hl.2)
theorem optDue_0own (ho : other.own = true) : OptDue news [] (oneS k f op (.col i) other l r) := by
  rw [oneS_not (fun h => by rw [h.2.1] at ho; cases ho)]; exact .nil
theorem optDue_0led {r1 r2 : Value} (hl : Led (some (f i)) (other.affn f) r1 r2) (hs : someV r1 = true) : OptDue news [] (oneS k f op (.col i) other l r) := by
  rw [oneS_not (fun h => by rw [led_some hl, h.2.2] at hs; cases hs)]; exact .nil
theorem optDue_0t (ht : ¬ i.t = 1) : OptDue news [] (oneS k f op (.col i) other l r) := by
  rw [oneS_not (fun h => ht h.1)]; exact .nil
end
theorem optDue_cases {news : List (Addr × Obj)} {vs : List Value} {o : Option Due} (h : OptDue news vs o) : (vs = [] ∧ o = none) ∨ ∃ v d, vs = [v] ∧ o = some d ∧ DueIn news v d := by
  cases h with
  | nil => exact .inl ⟨rfl, rfl⟩
  | one h => exact .inr ⟨_, _, rfl, rfl, h⟩
section
variable {h₀ h : Heap} {L a b : Addr} {news l : List (Addr × Obj)} {n : Nat} {o2 : Obj}
theorem keep2 (N : News h₀ L h l) (h1 : (a, listOf [.ref b].toArray n) ∈ l) (h2 : (b, o2) ∈ l) (hs : ∀ p ∈ news, p ∈ l) : News h₀ L h ((a, listOf [.ref b].toArray n) :: ([(b, o2)] ++ news)) := fun p hp => by
  rcases List.mem_cons.mp hp with rfl | hp
  · exact N _ h1
  · rcases List.mem_cons.mp hp with rfl | hp
    · exact N _ h2
    · exact N _ (hs _ hp)
theorem keep0 (N : News h₀ L h l) (h1 : (a, listOf [].toArray n) ∈ l) (hs : ∀ p ∈ news, p ∈ l) : News h₀ L h ((a, listOf [].toArray n) :: ([] ++ news)) := fun p hp => by
  rcases List.mem_cons.mp hp with rfl | hp
  · exact N _ h1
  · exact N _ (hs _ hp)
end
-- A16
section
example : True := by
  (k_with "L135" => (((with_reducible show wpAny _ _ (subscriptTail _ _ (Value.ref _) (Value.int _ _)) _ _ _); k_dflt (refine' item_at ?z1z135 ?z2z135 ?z3z135 ?z4z135 ?z5z135 ?_; (case z1z135 => k_asm); (case z2z135 => with_reducible assumption); (case z3z135 => decide); (case z4z135 => decide); (case z5z135 => rfl)))))
  trivial
local macro_rules | `(tactic| walk_at "subscriptTail") => `(tactic| k_extra "L135")
example : True := by
  (k_with "L136" => (((with_reducible show wpAny _ _ (subscriptTail _ _ (Value.ref _) (Value.int (Col.t _) _)) _ _ _); k_dflt (refine' kda_item (knd := PySem.intKind _ _) ?z1z136 ?z2z136 ?z3z136 (intKind_is _ _ _ _) ?z4z136 ?_; (case z1z136 => k_asm); (case z2z136 => with_reducible first | assumption | k_mem); (case z3z136 => assumption); (case z4z136 => assumption)))))
  trivial
local macro_rules | `(tactic| walk_at "subscriptTail") => `(tactic| k_extra "L136")
example : True := by
  (k_with "L137" => (((with_reducible show wpAny _ _ (subscriptTail _ _ (Value.ref _) (Value.int (Col.c _) _)) _ _ _); k_dflt (refine' item_at ?z1z137 ?z2z137 ?z3z137 ?z4z137 ?z5z137 ?_; (case z1z137 => k_asm); (case z2z137 => k_mem); (case z3z137 => omega); (case z4z137 => omega); (case z5z137 => assumption)))))
  trivial
local macro_rules | `(tactic| walk_at "subscriptTail") => `(tactic| k_extra "L137")
example : True := by
  (k_with "L138" => (((with_reducible show wpAny _ _ (subscriptTail _ _ (Value.ref _) (Value.int 1 _)) _ _ _); k_dflt (refine' kda_item (knd := PySem.intKind _ _) ?z1z138 ?z2z138 ?z3z138 (intKind_is _ _ _ _) ?z4z138 ?_; (case z1z138 => k_asm); (case z2z138 => with_reducible first | assumption | k_mem); (case z3z138 => assumption); (case z4z138 => (rename (Col.t _ = 1 → _) => hq9; exact hq9 (by assumption)))))))
  trivial
local macro_rules | `(tactic| walk_at "subscriptTail") => `(tactic| k_extra "L138")
example : True := by
  (k_with "L139" => (refine isnot_someV ?_))
  trivial
local macro_rules | `(tactic| walk_at "compareOp IsNot") => `(tactic| k_extra "L139")
theorem oneb_c {prog : Program} {w : World} {dp un : Nat} {gd : Option (List Code)} {cn : Str} {cs : Scope} {a : Addr} {ccd : Value} {cl : List (Str × Addr)} {outer : List Env} {A₀ : Around} {base h₀ : Heap} {L : Addr} {m : Str → Option Value} {p : Program} {loose : List Str} {mean : ExcName → Option Value} {mg mb : Str → Option Value} {hp : Heap} {gs : Array GenState} {dr : Drawn} {tk : Nat} {os : OsState} {Q E : Value → Shared → Prop} {news : List (Addr × Obj)} {op : Str} {top : Tok} {v1 v2 v3 v4 cv : Value} {sd ot l r : Side} {k : Cols} {f : Col → Aff}
    (c : Cx w dp un 840 8680 cs A₀ base outer h₀ L hp m p loose mean mg mb) (N : News h₀ L hp (news)) (hR1 : SideIn news v1 sd) (hR2 : SideIn news v2 ot) (hR3 : SideIn news v3 l) (hR4 : SideIn news v4 r) (hB1 : sd.Ok) (hB2 : ot.Ok) (hB3 : l.Ok) (hB4 : r.Ok) (hC : ColsIn prog w news cv k) (hK : k.AffIs f)
    (ret : ∀ la vs n tl h₁ tk₁, OptDue (tl ++ news) vs (oneS k f op sd ot l r) → Apart news ((la, listOf vs.toArray n) :: tl) → Fr h₀ L h₁ m → News h₀ L h₁ ((la, listOf vs.toArray n) :: (tl ++ news)) → Q (.ref la) ⟨h₁, gs, dr, tk₁, os⟩) :
    wpAny (model prog w) (ktrTop dp un gd cn cs L a ccd cl outer) (call (.ref 761) [.str op top, v1, v2, v3, v4, cv]) Q E ⟨hp, gs, dr, tk, os⟩ := by
  obtain ⟨B, F, X, T, hk, hdp, hun⟩ := c
  refine lowerK hdp hun ?_
  cases hR1 with
  | col i hm =>
      obtain ⟨d, e, o, kvs, D, l0, items, n, mm, ta, tc, he, ho, hv, hD, hi, hl⟩ := hC.ent i
      subst e
      have hbt := i.bt
      have hbc := i.bc
      have hoa : OA (.str (k.aff i) ta) (some (f i)) := by rw [hK.is i]; exact OA.some _ _
      have hv1 : i.t = 1 → valueAt kvs 1 = some (.ref D) := fun e => e ▸ hv
      k_dflt (refine' enterM (binds := [(Str.ofString "op", _), (Str.ofString "side", _), (Str.ofString "other", _), (Str.ofString "left", _), (Str.ofString "right", _), (Str.ofString "columns", _)]) ?k0 ?k1 ?k2 ?k3 ?k4 ?k5 ?kA ?kF ?kK ?k6 ?k7 ?k8 ?k9 ?kB ?c2 ?_; (case k0 => exact rfl); (case kA => exact rfl); (case kF => exact rfl); (case kK => assumption); (case k1 => k_asm); (case k2 => k_asm); (case k3 => k_asm); (case k4 => k_asm); (case k5 => k_asm); (case k6 => k_is); (case k7 => k_is); (case k8 => exact Nat.le_of_ble_eq_true rfl); (case k9 => kernel_rfl!); (case kB => kernel_rfl!); (case c2 => kernel_rfl!); k_whole; intro g' L' h' t' FG' F' N' B' X' T' e9 A9 qk ek)
      k_steps
      · (refine' ret _ _ _ _ _ _ ?e143_0 ?e143_1 ?eF143 ?eN143; (case eN143 => (refine' keep0 ?q142_0 ?q142_1 ?q142_2; (case q142_0 => assumption); (case q142_1 => k_mem); (case q142_2 => ktn_no "Mine.sub"))); (case eF143 => k_asm); (case e143_0 => exact optDue_0t (by assumption)); (case e143_1 => ktn_no "Mine.apart"))
      · (refine' ret _ _ _ _ _ _ ?e145_0 ?e145_1 ?eF145 ?eN145; (case eN145 => (refine' keep0 ?q144_0 ?q144_1 ?q144_2; (case q144_0 => assumption); (case q144_1 => k_mem); (case q144_2 => ktn_no "Mine.sub"))); (case eF145 => k_asm); (case e145_0 => exact optDue_0own (by assumption)); (case e145_1 => ktn_no "Mine.apart"))
      · (refine' ret _ _ _ _ _ _ ?e147_0 ?e147_1 ?eF147 ?eN147; (case eN147 => (refine' keep0 ?q146_0 ?q146_1 ?q146_2; (case q146_0 => assumption); (case q146_1 => k_mem); (case q146_2 => ktn_no "Mine.sub"))); (case eF147 => k_asm); (case e147_0 => exact optDue_0led (by assumption) (by assumption)); (case e147_1 => ktn_no "Mine.apart"))
      · (refine' ret _ _ _ _ _ _ ?e141_0 ?e141_1 ?eF141 ?eN141; (case eN141 => (refine' keep2 ?q139_0 ?q139_1 ?q139_2 ?q139_3; (case q139_0 => assumption); (case q139_1 => k_mem); (case q139_2 => k_mem); (case q139_3 => ktn_no "Mine.sub"))); (case eF141 => k_asm); (case e141_0 => (refine' optDue_1 ?q140_0 ?q140_1 ?q140_2 ?q140_3 ?q140_4 ?q140_5; (case q140_0 => assumption); (case q140_1 => assumption); (case q140_2 => assumption); (case q140_3 => assumption); (case q140_4 => k_mem); (case q140_5 => ktn_no "Mine.rel"))); (case e141_1 => ktn_no "Mine.apart"))
  | lit hm hv =>
    k_dflt (refine' enterM (binds := [(Str.ofString "op", _), (Str.ofString "side", _), (Str.ofString "other", _), (Str.ofString "left", _), (Str.ofString "right", _), (Str.ofString "columns", _)]) ?k0 ?k1 ?k2 ?k3 ?k4 ?k5 ?kA ?kF ?kK ?k6 ?k7 ?k8 ?k9 ?kB ?c2 ?_; (case k0 => exact rfl); (case kA => exact rfl); (case kF => exact rfl); (case kK => assumption); (case k1 => k_asm); (case k2 => k_asm); (case k3 => k_asm); (case k4 => k_asm); (case k5 => k_asm); (case k6 => k_is); (case k7 => k_is); (case k8 => exact Nat.le_of_ble_eq_true rfl); (case k9 => kernel_rfl!); (case kB => kernel_rfl!); (case c2 => kernel_rfl!); k_whole; intro g' L' h' t' FG' F' N' B' X' T' e9 A9 qk ek)
    k_steps
    (refine' ret _ _ _ _ _ _ ?e149_0 ?e149_1 ?eF149 ?eN149; (case eN149 => (refine' keep0 ?q148_0 ?q148_1 ?q148_2; (case q148_0 => assumption); (case q148_1 => k_mem); (case q148_2 => ktn_no "Mine.sub"))); (case eF149 => k_asm); (case e149_0 => exact OptDue.nil); (case e149_1 => ktn_no "Mine.apart"))
  | cast hm hx =>
    k_dflt (refine' enterM (binds := [(Str.ofString "op", _), (Str.ofString "side", _), (Str.ofString "other", _), (Str.ofString "left", _), (Str.ofString "right", _), (Str.ofString "columns", _)]) ?k0 ?k1 ?k2 ?k3 ?k4 ?k5 ?kA ?kF ?kK ?k6 ?k7 ?k8 ?k9 ?kB ?c2 ?_; (case k0 => exact rfl); (case kA => exact rfl); (case kF => exact rfl); (case kK => assumption); (case k1 => k_asm); (case k2 => k_asm); (case k3 => k_asm); (case k4 => k_asm); (case k5 => k_asm); (case k6 => k_is); (case k7 => k_is); (case k8 => exact Nat.le_of_ble_eq_true rfl); (case k9 => kernel_rfl!); (case kB => kernel_rfl!); (case c2 => kernel_rfl!); k_whole; intro g' L' h' t' FG' F' N' B' X' T' e9 A9 qk ek)
    k_steps
    (refine' ret _ _ _ _ _ _ ?e151_0 ?e151_1 ?eF151 ?eN151; (case eN151 => (refine' keep0 ?q150_0 ?q150_1 ?q150_2; (case q150_0 => assumption); (case q150_1 => k_mem); (case q150_2 => ktn_no "Mine.sub"))); (case eF151 => k_asm); (case e151_0 => exact OptDue.nil); (case e151_1 => ktn_no "Mine.apart"))
  | coll hm hx =>
    k_dflt (refine' enterM (binds := [(Str.ofString "op", _), (Str.ofString "side", _), (Str.ofString "other", _), (Str.ofString "left", _), (Str.ofString "right", _), (Str.ofString "columns", _)]) ?k0 ?k1 ?k2 ?k3 ?k4 ?k5 ?kA ?kF ?kK ?k6 ?k7 ?k8 ?k9 ?kB ?c2 ?_; (case k0 => exact rfl); (case kA => exact rfl); (case kF => exact rfl); (case kK => assumption); (case k1 => k_asm); (case k2 => k_asm); (case k3 => k_asm); (case k4 => k_asm); (case k5 => k_asm); (case k6 => k_is); (case k7 => k_is); (case k8 => exact Nat.le_of_ble_eq_true rfl); (case k9 => kernel_rfl!); (case kB => kernel_rfl!); (case c2 => kernel_rfl!); k_whole; intro g' L' h' t' FG' F' N' B' X' T' e9 A9 qk ek)
    k_steps
    (refine' ret _ _ _ _ _ _ ?e153_0 ?e153_1 ?eF153 ?eN153; (case eN153 => (refine' keep0 ?q152_0 ?q152_1 ?q152_2; (case q152_0 => assumption); (case q152_1 => k_mem); (case q152_2 => ktn_no "Mine.sub"))); (case eF153 => k_asm); (case e153_0 => exact OptDue.nil); (case e153_1 => ktn_no "Mine.apart"))
end
example : True := by
  (k_with "CR" => (((with_reducible show wpAny _ _ (call (Value.ref 761) _) _ _ _); k_dflt (refine' oneb_c ?cz140 ?Nz140 ?p0z140 ?p1z140 ?p2z140 ?p3z140 ?p4z140 ?p5z140 ?p6z140 ?p7z140 ?p8z140 ?p9z140 ?_; (case cz140 => ktn_no "Mine.cx"); (case Nz140 => k_asm); (case p0z140 => ktn_no "Mine.rel"); (case p1z140 => ktn_no "Mine.rel"); (case p2z140 => ktn_no "Mine.rel"); (case p3z140 => ktn_no "Mine.rel"); (case p4z140 => k_asm); (case p5z140 => k_asm); (case p6z140 => k_asm); (case p7z140 => k_asm); (case p8z140 => ktn_no "Mine.rel"); (case p9z140 => k_asm); k_whole); intro la' vs' n' tl' h' tk' ho' ha' F' N'; (try k_sweep); ktn_no "Mine.aft")))
  trivial
-- B22
open Classical in
noncomputable def turnS (op : Str) : Str := if op = Str.ofString "<" then Str.ofString ">" else if op = Str.ofString "<=" then Str.ofString ">=" else if op = Str.ofString ">" then Str.ofString "<" else if op = Str.ofString ">=" then Str.ofString "<=" else op
open Classical in
noncomputable def isTurn (op : Str) : Bool := if op = Str.ofString "<>" then false else true
theorem turn_eq : turnS (Str.ofString "=") = Str.ofString "=" ∧ isTurn (Str.ofString "=") = true := by
  unfold turnS isTurn; exact ⟨by rw [if_neg (by decide), if_neg (by decide), if_neg (by decide), if_neg (by decide)], by rw [if_neg (by decide)]⟩
theorem turn_lt : turnS (Str.ofString "<") = Str.ofString ">" ∧ isTurn (Str.ofString "<") = true := by
  unfold turnS isTurn; exact ⟨by rw [if_pos rfl], by rw [if_neg (by decide)]⟩
theorem turn_le : turnS (Str.ofString "<=") = Str.ofString ">=" ∧ isTurn (Str.ofString "<=") = true := by
  unfold turnS isTurn; exact ⟨by rw [if_neg (by decide), if_pos rfl], by rw [if_neg (by decide)]⟩
theorem turn_gt : turnS (Str.ofString ">") = Str.ofString "<" ∧ isTurn (Str.ofString ">") = true := by
  unfold turnS isTurn; exact ⟨by rw [if_neg (by decide), if_neg (by decide), if_pos rfl], by rw [if_neg (by decide)]⟩
theorem turn_ge : turnS (Str.ofString ">=") = Str.ofString "<=" ∧ isTurn (Str.ofString ">=") = true := by
  unfold turnS isTurn; exact ⟨by rw [if_neg (by decide), if_neg (by decide), if_neg (by decide), if_pos rfl], by rw [if_neg (by decide)]⟩
theorem turn_ne : isTurn (Str.ofString "<>") = false := by
  unfold isTurn; exact if_pos rfl
theorem ops_cases {x : Str} (h : x ∈ OPS) : x = Str.ofString "=" ∨ x = Str.ofString "<" ∨ x = Str.ofString "<=" ∨ x = Str.ofString ">" ∨ x = Str.ofString ">=" ∨ x = Str.ofString "<>" := by
  simpa only [OPS, List.mem_cons, List.not_mem_nil, or_false] using h
theorem turn_mem {op : Str} (h : op ∈ OPS) : turnS op ∈ OPS := by
  rcases ops_cases h with rfl | rfl | rfl | rfl | rfl | rfl
  · rw [turn_eq.1]; decide
  · rw [turn_lt.1]; decide
  · rw [turn_le.1]; decide
  · rw [turn_gt.1]; decide
  · rw [turn_ge.1]; decide
  · have : turnS (Str.ofString "<>") = Str.ofString "<>" := by unfold turnS; rw [if_neg (by decide), if_neg (by decide), if_neg (by decide), if_neg (by decide)]
    rw [this]; exact h
theorem n_eq_lt : Str.ofString "=" ≠ Str.ofString "<" := by decide
theorem n_eq_le : Str.ofString "=" ≠ Str.ofString "<=" := by decide
theorem n_lt_le : Str.ofString "<" ≠ Str.ofString "<=" := by decide
theorem n_eq_gt : Str.ofString "=" ≠ Str.ofString ">" := by decide
theorem n_lt_gt : Str.ofString "<" ≠ Str.ofString ">" := by decide
theorem n_le_gt : Str.ofString "<=" ≠ Str.ofString ">" := by decide
theorem n_eq_ge : Str.ofString "=" ≠ Str.ofString ">=" := by decide
theorem n_lt_ge : Str.ofString "<" ≠ Str.ofString ">=" := by decide
theorem n_le_ge : Str.ofString "<=" ≠ Str.ofString ">=" := by decide
theorem n_gt_ge : Str.ofString ">" ≠ Str.ofString ">=" := by decide
theorem n_eq_ne : Str.ofString "=" ≠ Str.ofString "<>" := by decide
theorem n_lt_ne : Str.ofString "<" ≠ Str.ofString "<>" := by decide
theorem n_le_ne : Str.ofString "<=" ≠ Str.ofString "<>" := by decide
theorem n_gt_ne : Str.ofString ">" ≠ Str.ofString "<>" := by decide
theorem n_ge_ne : Str.ofString ">=" ≠ Str.ofString "<>" := by decide
theorem vA_hit {a b : Str} {x : Value} {r : List (Str × Value)} {inst : DecidableEq Str} (h : a = b) : @valueAt Str inst ((a, x) :: r) b = some x := by subst h; simp [valueAt]
theorem vA_miss {a b : Str} {x : Value} {r : List (Str × Value)} {inst : DecidableEq Str} (h : a ≠ b) : @valueAt Str inst ((a, x) :: r) b = @valueAt Str inst r b := by simp [valueAt, h]
theorem vA_nil {b : Str} {inst : DecidableEq Str} : @valueAt Str inst [] b = none := rfl
noncomputable abbrev TURN5 (t1 t2 t3 t4 t5 : Tok) : List (Str × Value) := [(Str.ofString "=", .str (Str.ofString "=") t1), (Str.ofString "<", .str (Str.ofString ">") t2), (Str.ofString "<=", .str (Str.ofString ">=") t3), (Str.ofString ">", .str (Str.ofString "<") t4), (Str.ofString ">=", .str (Str.ofString "<=") t5)]
theorem turn5_at {op : Str} (h : op ∈ OPS) (ht : isTurn op = true) {t1 t2 t3 t4 t5 : Tok} {inst : DecidableEq Str} : ∃ t, @valueAt Str inst (TURN5 t1 t2 t3 t4 t5) op = some (.str (turnS op) t) := by
  rcases ops_cases h with rfl | rfl | rfl | rfl | rfl | rfl
  · exact ⟨t1, by rw [turn_eq.1, vA_hit rfl]⟩
  · exact ⟨t2, by rw [turn_lt.1, vA_miss n_eq_lt, vA_hit rfl]⟩
  · exact ⟨t3, by rw [turn_le.1, vA_miss n_eq_le, vA_miss n_lt_le, vA_hit rfl]⟩
  · exact ⟨t4, by rw [turn_gt.1, vA_miss n_eq_gt, vA_miss n_lt_gt, vA_miss n_le_gt, vA_hit rfl]⟩
  · exact ⟨t5, by rw [turn_ge.1, vA_miss n_eq_ge, vA_miss n_lt_ge, vA_miss n_le_ge, vA_miss n_gt_ge, vA_hit rfl]⟩
  · rw [turn_ne] at ht; cases ht
theorem turn5_in {op : Str} (h : op ∈ OPS) {t1 t2 t3 t4 t5 : Tok} {inst : DecidableEq Str} : (@valueAt Str inst (TURN5 t1 t2 t3 t4 t5) op).isSome = isTurn op := by
  by_cases ht : isTurn op = true
  · obtain ⟨t, e⟩ := turn5_at h ht (t1 := t1) (t2 := t2) (t3 := t3) (t4 := t4) (t5 := t5) (inst := inst)
    rw [e, ht]; rfl
  · rcases ops_cases h with rfl | rfl | rfl | rfl | rfl | rfl
    · exact absurd turn_eq.2 ht
    · exact absurd turn_lt.2 ht
    · exact absurd turn_le.2 ht
    · exact absurd turn_gt.2 ht
    · exact absurd turn_ge.2 ht
    · rw [turn_ne, vA_miss n_eq_ne, vA_miss n_lt_ne, vA_miss n_le_ne, vA_miss n_gt_ne, vA_miss n_ge_ne]; rfl
section
variable {prog : Program} {w : World} {A : Around} {E : Value → Shared → Prop} {s : Shared} {h₀ : Heap} {L d : Addr} {m : Str → Option Value} {news : List (Addr × Obj)} {o : Obj} {t1 t2 t3 t4 t5 t : Tok} {op : Str} {Q : Value → Shared → Prop}
theorem turn_in (N : News h₀ L s.heap news) (hd : o.IsDictOf (PySem.strKind prog w) (TURN5 t1 t2 t3 t4 t5)) (hp : (d, o) ∈ news) (lo : (d == sysModules) = false) (ho : op ∈ OPS) (h : Q (.bool (isTurn op)) { s with toks := s.toks + 1 }) :
    wpAny (model prog w) A (compareOp .In (.str op t) (.ref d)) Q E s := kda_in N hp hd lo (strKind_is _ _ _ _) _ (turn5_in ho) h
theorem turn_get (N : News h₀ L s.heap news) (hp : (d, o) ∈ news) (hd : o.IsDictOf (PySem.strKind prog w) (TURN5 t1 t2 t3 t4 t5)) (ho : op ∈ OPS) (ht : isTurn op = true) (h : ∀ t', Q (.str (turnS op) t') { s with toks := s.toks + 1 }) :
    wpAny (model prog w) A (getItem (.ref d) (.str op t)) Q E s := by
  obtain ⟨t', e⟩ := turn5_at ho ht
  exact dict_get N hp hd e (h t')
theorem turn_top_in (F : Fr h₀ L s.heap m) (X : (mk.heap_1 w.params).In h₀) (ho : op ∈ OPS) (h : Q (.bool (isTurn op)) { s with toks := s.toks + 1 }) :
    wpAny (model prog w) A (compareOp .In (.str op t) (.ref 540)) Q E s := by
  rcases ops_cases ho with rfl | rfl | rfl | rfl | rfl | rfl
  · rw [turn_eq.2] at h
    k_dflt (refine' topIn_K F X ?l ?k ?e ?o ?_; (case l => k_is); (case k => k_keys); (case e => k_is); (case o => decide)); exact h
  · rw [turn_lt.2] at h
    k_dflt (refine' topIn_K F X ?l2 ?k2 ?e2 ?o2 ?_; (case l2 => k_is); (case k2 => k_keys); (case e2 => k_is); (case o2 => decide)); exact h
  · rw [turn_le.2] at h
    k_dflt (refine' topIn_K F X ?l3 ?k3 ?e3 ?o3 ?_; (case l3 => k_is); (case k3 => k_keys); (case e3 => k_is); (case o3 => decide)); exact h
  · rw [turn_gt.2] at h
    k_dflt (refine' topIn_K F X ?l4 ?k4 ?e4 ?o4 ?_; (case l4 => k_is); (case k4 => k_keys); (case e4 => k_is); (case o4 => decide)); exact h
  · rw [turn_ge.2] at h
    k_dflt (refine' topIn_K F X ?l5 ?k5 ?e5 ?o5 ?_; (case l5 => k_is); (case k5 => k_keys); (case e5 => k_is); (case o5 => decide)); exact h
  · rw [turn_ne] at h
    k_dflt (refine' topIn_K F X ?l6 ?k6 ?e6 ?o6 ?_; (case l6 => k_is); (case k6 => k_keys); (case e6 => k_is); (case o6 => decide)); exact h
theorem turn_top_get {value slice : PySem.Expr} (F : Fr h₀ L s.heap m) (X : (mk.heap_1 w.params).In h₀) (ho : op ∈ OPS) (ht : isTurn op = true) (h : ∀ t', Q (.str (turnS op) t') { s with toks := s.toks + 1 })
    (hs : ∀ op, subscripted slice false (.ref 540) (.str op t) = operate [.ref 540, .str op t] (getItem (.ref 540) (.str op t)) := by with_unfolding_all (intro _; rfl)) :
    wpAny (model prog w) A (subscriptTail value slice (.ref 540) (.str op t)) Q E s := by
  rcases ops_cases ho with rfl | rfl | rfl | rfl | rfl | rfl
  · rw [turn_eq.1] at h
    k_dflt (refine' topItem_K F X ?l ?k ?e ?h (hs _); (case l => k_is); (case k => k_keys); (case e => k_is); (case h => exact h _))
  · rw [turn_lt.1] at h
    k_dflt (refine' topItem_K F X ?l2 ?k2 ?e2 ?h2 (hs _); (case l2 => k_is); (case k2 => k_keys); (case e2 => k_is); (case h2 => exact h _))
  · rw [turn_le.1] at h
    k_dflt (refine' topItem_K F X ?l3 ?k3 ?e3 ?h3 (hs _); (case l3 => k_is); (case k3 => k_keys); (case e3 => k_is); (case h3 => exact h _))
  · rw [turn_gt.1] at h
    k_dflt (refine' topItem_K F X ?l4 ?k4 ?e4 ?h4 (hs _); (case l4 => k_is); (case k4 => k_keys); (case e4 => k_is); (case h4 => exact h _))
  · rw [turn_ge.1] at h
    k_dflt (refine' topItem_K F X ?l5 ?k5 ?e5 ?h5 (hs _); (case l5 => k_is); (case k5 => k_keys); (case e5 => k_is); (case h5 => exact h _))
  · rw [turn_ne] at ht; cases ht
end
theorem made5 {prog : Program} {w : World} {h₀ h : Heap} {L : Addr} {m : Str → Option Value} {news : List (Addr × Obj)} {a1 a2 a3 a4 a5 t1 t2 t3 t4 t5 : Tok} {P : Heap → Prop} (F : Fr h₀ L h m) (N : News h₀ L h news) (hbig : h₀.NoLimit)
    (k : ∀ h' o, Fr h₀ L h' m → News h₀ L h' ((h.objs.size, o) :: news) → (∀ p ∈ news, p.1 < h.objs.size) → (h.objs.size == sysModules) = false → o.IsDictOf (PySem.strKind prog w) (TURN5 t1 t2 t3 t4 t5) → P h') :
    ∃ kvs, Carries (PySem.strKind prog w) [(.str (Str.ofString "=") a1, .str (Str.ofString "=") t1), (.str (Str.ofString "<") a2, .str (Str.ofString ">") t2), (.str (Str.ofString "<=") a3, .str (Str.ofString ">=") t3), (.str (Str.ofString ">") a4, .str (Str.ofString "<") t4), (.str (Str.ofString ">=") a5, .str (Str.ofString "<=") t5)] kvs ∧ (h.push { cls := .type "dict", data := .dict #[] }).DictOf (PySem.strKind prog w) h.objs.size [] ∧
      ∀ h', h'.DictOf (PySem.strKind prog w) h.objs.size (merged [] kvs) → Heap.SameBut h.objs.size (h.push { cls := .type "dict", data := .dict #[] }) h' → P h' :=
  kdp_made_str F N hbig rfl (by dsimp only [strPairs, List.map]; decide) rfl fun h' o F' N' l1 lo hd _ _ => k h' o F' N' l1 lo hd
-- B23
noncomputable def lvD : LV → PyData
  | .none => .none | .int i => .int i | .str x => .str x
theorem lv_reads {h : Heap} {v : Value} {x : LV} (r : LVal v x) : Reads h v (lvD x) [] := by
  cases r with
  | none => exact Reads.none
  | int i t => exact Reads.int _ _
  | str x t _ => exact Reads.str _ _
/-- what is told of a side, as data -/
noncomputable def sideD : Side → PyData
  | .col i => .tuple [.str (Str.ofString "name"), .int i.t, .int i.c]
  | .lit v => .tuple [.str (Str.ofString "lit"), lvD v]
  | .cast x ty => .tuple [.str (Str.ofString "cast"), sideD x, .str ty]
  | .coll x c => .tuple [.str (Str.ofString "collate"), sideD x, .str c]
theorem side_reads {h₀ h : Heap} {L : Addr} {news : List (Addr × Obj)} (N : News h₀ L h news) {v : Value} {d : Side} (r : SideIn news v d) : ∃ as, Reads h v (sideD d) as := by
  induction r with
  | col i hm => exact ⟨_, Reads.tuple (N _ hm).1 rfl rfl (ReadsAll.cons (Reads.str _ _) (ReadsAll.cons (Reads.int _ _) (ReadsAll.cons (Reads.int _ _) ReadsAll.nil)))⟩
  | lit hm hv => exact ⟨_, Reads.tuple (N _ hm).1 rfl rfl (ReadsAll.cons (Reads.str _ _) (ReadsAll.cons (lv_reads hv) ReadsAll.nil))⟩
  | cast hm _ ih => obtain ⟨as, r⟩ := ih; exact ⟨_, Reads.tuple (N _ hm).1 rfl rfl (ReadsAll.cons (Reads.str _ _) (ReadsAll.cons r (ReadsAll.cons (Reads.str _ _) ReadsAll.nil)))⟩
  | coll hm _ ih => obtain ⟨as, r⟩ := ih; exact ⟨_, Reads.tuple (N _ hm).1 rfl rfl (ReadsAll.cons (Reads.str _ _) (ReadsAll.cons r (ReadsAll.cons (Reads.str _ _) ReadsAll.nil)))⟩
theorem sides_reads {h₀ h : Heap} {L : Addr} {news : List (Addr × Obj)} (N : News h₀ L h news) {vs : List Value} {ds : List Side} (r : SidesIn news vs ds) : ∃ as, ReadsAll h vs (ds.map sideD) as := by
  induction r with
  | nil => exact ⟨_, ReadsAll.nil⟩
  | cons h1 _ ih => obtain ⟨as, r⟩ := ih; obtain ⟨bs, q⟩ := side_reads N h1; exact ⟨_, ReadsAll.cons q r⟩
theorem text_ok {x : Str} (h : x ∈ TEXTS) : PyData.strOk x = true := by
  simp only [TEXTS, List.mem_cons, List.not_mem_nil, or_false] at h
  rcases h with rfl | rfl | rfl | rfl | rfl | rfl | rfl | rfl | rfl <;> decide +kernel
theorem type_ok {x : Str} (h : x ∈ TYPES) : PyData.strOk x = true := by
  rcases types_cases h with rfl | rfl | rfl <;> decide +kernel
theorem name_ok {x : Str} (h : x ∈ NAMES) : PyData.strOk x = true := by
  rcases names_cases h with rfl | rfl | rfl <;> decide +kernel
theorem k_name : PyData.strOk (Str.ofString "name") = true := by decide +kernel
theorem k_lit : PyData.strOk (Str.ofString "lit") = true := by decide +kernel
theorem k_cast : PyData.strOk (Str.ofString "cast") = true := by decide +kernel
theorem k_coll : PyData.strOk (Str.ofString "collate") = true := by decide +kernel
theorem lv_lay {v : Value} {x : LV} (r : LVal v x) : PyData.canLay0 (lvD x) = true ∧ PyData.depth (lvD x) = 0 := by
  cases r with
  | none => exact ⟨rfl, rfl⟩
  | int i t => exact ⟨rfl, rfl⟩
  | str x t h => exact ⟨text_ok h, rfl⟩
theorem base_lay {news : List (Addr × Obj)} {v : Value} {d : Side} (r : SideIn news v d) (hb : d.Base) : PyData.canLay0 (sideD d) = true ∧ PyData.depth (sideD d) ≤ 1 := by
  cases hb with
  | col i => exact ⟨by simp [sideD, PyData.canLay0, PyData.canLayAll0, k_name], by simp [sideD, PyData.depth, PyData.depthAll]⟩
  | lit v =>
    cases r with
    | lit _ hv => exact ⟨by simp [sideD, PyData.canLay0, PyData.canLayAll0, k_lit, (lv_lay hv).1], by simp [sideD, PyData.depth, PyData.depthAll, (lv_lay hv).2]⟩
theorem side_lay {news : List (Addr × Obj)} {v : Value} {d : Side} (r : SideIn news v d) (hb : d.Ok) : PyData.canLay0 (sideD d) = true ∧ PyData.depth (sideD d) ≤ 2 := by
  cases hb with
  | base hb => exact ⟨(base_lay r hb).1, Nat.le_succ_of_le (base_lay r hb).2⟩
  | cast hb ht =>
    cases r with
    | cast _ hx =>
      have h := base_lay hx hb
      refine ⟨by simp [sideD, PyData.canLay0, PyData.canLayAll0, k_cast, h.1, type_ok ht], ?_⟩
      simp only [sideD, PyData.depth, PyData.depthAll]
      have := h.2
      omega
  | coll hb ht =>
    cases r with
    | coll _ hx =>
      have h := base_lay hx hb
      refine ⟨by simp [sideD, PyData.canLay0, PyData.canLayAll0, k_coll, h.1, name_ok ht], ?_⟩
      simp only [sideD, PyData.depth, PyData.depthAll]
      have := h.2
      omega
section
variable {prog : Program} {w : World} {A : Around} {E : Value → Shared → Prop} {s : Shared} {h₀ : Heap} {L : Addr} {m : Str → Option Value} {news : List (Addr × Obj)}
theorem cut2 {sl : Addr} {n : Nat} {u : Tok} {Q : Int × Int × Nat → Shared → Prop} (hs : s.heap.IsSliceOf sl .none (.int 2 u) .none) (hn : n = 2 ∨ n = 3) (h : Q (0, 1, 2) s) :
    wpAny (model prog w) A (Builtin.Slice.sliceApplied (.ref sl) (pure (n : Int))) Q E s := by
  obtain ⟨os, hos, hcs, hds⟩ := id hs
  unfold Builtin.Slice.sliceApplied Builtin.Slice.sliceFields
  refine wpAny_bind (wpAny_bind (wpAny_field hos hds (x := .none) rfl (wpAny_bind (wpAny_field hos hds (x := .int 2 u) rfl (wpAny_bind (wpAny_field hos hds (x := .none) rfl (wpAny_pure ?_)))))))
  refine wpAny_bind (slicePart_none ?_)
  show wpAny _ _ (if ((1 : Int) == 0) = true then _ else _) _ _ s
  rw [if_neg (by decide)]
  refine wpAny_bind (slicePart_none (wpAny_bind (slicePart_int (wpAny_bind (wpAny_pure ?_)))))
  rcases hn with rfl | rfl
  · exact wpAny_pure h
  · exact wpAny_pure h
theorem getItem_cut3 {t sl : Addr} {a b c : Value} {k : Nat} {u : Tok} {Q : Value → Shared → Prop} (ht : IsTup s.heap t #[a, b, c]) (hs : s.heap.IsSliceOf sl .none (.int 2 u) .none)
    (h : Q (.ref s.heap.objs.size) { s with heap := s.heap.push { cls := .type "tuple", data := .seq #[a, b] } }) : wpAny (model prog w) A (getItem (.ref t) (.ref sl)) Q E s := by
  obtain ⟨os, hos, hcs, hds⟩ := id hs
  have hTs : s.TypeIs (.ref sl) "slice" := ⟨os, hos, hcs⟩
  have hdrop : sizeOk (.seq #[a, b]) := by show 2 ≤ sizeLine; rw [sizeLine_eq]; decide
  unfold getItem
  try with_reducible refine wpAny_holding ?_
  first | refine wpAny_bind (wpAny_pure ?_) | skip
  refine wpAny_bind (wpAny_sequenceKey ht.typeIs (by decide) ?_)
  refine wpAny_bind (wpAny_callSpecial?_slot (name := Str.ofString "__getitem__") ht.typeIs slot_tuple_getitem
    (wpAny_call_entry slot_tuple_getitem ht.typeIs entry_tuple_getitem ?_ (args_tuple_getitem _ _)))
  show wpAny _ _ (Builtin.Tuple.tupleItemsOf (.ref t) >>= _) _ _ s
  refine wpAny_bind (tupleItemsOf_ ht ?_)
  refine wpAny_bind (wpAny_typeOf hTs ?_)
  rw [if_pos (by decide)]
  refine wpAny_bind (cut2 hs (.inr rfl) ?_)
  show wpAny _ _ (if ((0 : Int) == 0 && (1 : Int) == 1 && 2 == 3) = true then _ else _) _ _ s
  rw [if_neg (by decide)]
  show wpAny _ _ (Builtin.Tuple.tupleExact #[a, b] >>= _) _ _ s
  first
    | exact wpAny_bind (m := Builtin.Tuple.tupleExact _) (wpAny_newObj_type (wpAny_pure ⟨_, rfl, wpAny_pure h⟩) hdrop)
    | exact wpAny_bind (m := Builtin.Tuple.tupleExact _) (wpAny_newObj_type (wpAny_bind (wpAny_pure (wpAny_pure ⟨_, rfl, wpAny_pure h⟩))) hdrop)
end
section
variable {prog : Program} {w : World} {A : Around} {E : Value → Shared → Prop} {s : Shared} {h₀ : Heap} {L : Addr} {m : Str → Option Value} {news : List (Addr × Obj)}
theorem isTup_of {l : Addr} {vs : List Value} {n : Nat} (N : News h₀ L s.heap news) (hm : (l, tupO vs n) ∈ news) : IsTup s.heap l vs.toArray := News.isTup N hm
theorem getItem_whole2 {t sl : Addr} {a b : Value} {u : Tok} {Q : Value → Shared → Prop} (ht : IsTup s.heap t #[a, b]) (hs : s.heap.IsSliceOf sl .none (.int 2 u) .none)
    (h : Q (.ref t) s) : wpAny (model prog w) A (getItem (.ref t) (.ref sl)) Q E s := by
  obtain ⟨os, hos, hcs, hds⟩ := id hs
  have hTs : s.TypeIs (.ref sl) "slice" := ⟨os, hos, hcs⟩
  unfold getItem
  try with_reducible refine wpAny_holding ?_
  first | refine wpAny_bind (wpAny_pure ?_) | skip
  refine wpAny_bind (wpAny_sequenceKey ht.typeIs (by decide) ?_)
  refine wpAny_bind (wpAny_callSpecial?_slot (name := Str.ofString "__getitem__") ht.typeIs slot_tuple_getitem
    (wpAny_call_entry slot_tuple_getitem ht.typeIs entry_tuple_getitem ?_ (args_tuple_getitem _ _)))
  show wpAny _ _ (Builtin.Tuple.tupleItemsOf (.ref t) >>= _) _ _ s
  refine wpAny_bind (tupleItemsOf_ ht ?_)
  refine wpAny_bind (wpAny_typeOf hTs ?_)
  rw [if_pos (by decide)]
  refine wpAny_bind (cut2 hs (.inl rfl) ?_)
  show wpAny _ _ (if ((0 : Int) == 0 && (1 : Int) == 1 && 2 == 2) = true then _ else _) _ _ s
  rw [if_pos (by decide)]
  show wpAny _ _ (Builtin.Tuple.tupleIsExact (.ref t) >>= _) _ _ s
  unfold Builtin.Tuple.tupleIsExact
  refine wpAny_bind (wpAny_bind (wpAny_typeOf ht.typeIs ?_))
  refine wpAny_pure ?_
  rw [if_pos (by decide)]
  exact wpAny_bind (wpAny_rule (wpAny_pure ⟨_, rfl, wpAny_pure h⟩))
theorem slice_cut3 {value slice : PySem.Expr} {t : Addr} {a b c : Value} {n : Nat} {u : Tok} {ops : List Value} {Q : Value → Shared → Prop}
    (F : Fr h₀ L s.heap m) (N : News h₀ L s.heap news) (hm : (t, tupO [a, b, c] n) ∈ news)
    (h : ∀ D h', Fr h₀ L h' m → News h₀ L h' ((D, tupO [a, b] 0) :: news) → (∀ p ∈ news, p.1 < D) → Q (.ref D) { s with heap := h' })
    (hs : subscripted slice false (.ref t) (.ref s.heap.objs.size) = operate ops (getItem (.ref t) (.ref s.heap.objs.size)))
    (hg : ∀ r, letTemporaryGo value (.ref t) r = pure ()) :
    wpAny (model prog w) A (subscriptTail value slice (.ref t) (.ref s.heap.objs.size)) Q E { s with heap := s.heap.push { cls := .type "slice", data := .fields #[.none, .int 2 u, .none] } } := by
  have ht' : IsTup (s.heap.push { cls := .type "slice", data := .fields #[.none, .int 2 u, .none] }) t #[a, b, c] := (isTup_of N hm).keeps fun _ _ e => Heap.get?_push_of_some _ e
  refine subscriptTail_ops (s := { s with heap := s.heap.push { cls := .type "slice", data := .fields #[.none, .int 2 u, .none] } }) ht'.typeIs slot_tuple_getitem.lookup
    (getItem_cut3 (k := 0) ht' (Heap.IsSliceOf.new ..) ?_) hs hg
  have N1 := News.push (F.push { cls := .type "slice", data := .fields #[.none, .int 2 u, .none] }) (N.grown fun _ _ e => Heap.get?_push_of_some _ e) { cls := .type "tuple", data := .seq #[a, b] }
  refine h _ _ ((F.push _).push _) N1 fun p hp => ?_
  show @LT.lt Nat _ p.1 _
  rw [Heap.size_push]
  exact Nat.lt_succ_of_lt (Heap.lt_size (N p hp).1)
theorem slice_whole2 {value slice : PySem.Expr} {t : Addr} {a b : Value} {n : Nat} {u : Tok} {ops : List Value} {Q : Value → Shared → Prop}
    (F : Fr h₀ L s.heap m) (N : News h₀ L s.heap news) (hm : (t, tupO [a, b] n) ∈ news)
    (h : ∀ h', Fr h₀ L h' m → News h₀ L h' news → Q (.ref t) { s with heap := h' })
    (hs : subscripted slice false (.ref t) (.ref s.heap.objs.size) = operate ops (getItem (.ref t) (.ref s.heap.objs.size)))
    (hg : ∀ r, letTemporaryGo value (.ref t) r = pure ()) :
    wpAny (model prog w) A (subscriptTail value slice (.ref t) (.ref s.heap.objs.size)) Q E { s with heap := s.heap.push { cls := .type "slice", data := .fields #[.none, .int 2 u, .none] } } := by
  have ht' : IsTup (s.heap.push { cls := .type "slice", data := .fields #[.none, .int 2 u, .none] }) t #[a, b] := (isTup_of N hm).keeps fun _ _ e => Heap.get?_push_of_some _ e
  exact subscriptTail_ops (s := { s with heap := s.heap.push { cls := .type "slice", data := .fields #[.none, .int 2 u, .none] } }) ht'.typeIs slot_tuple_getitem.lookup
    (getItem_whole2 ht' (Heap.IsSliceOf.new ..) (h _ (F.push _) (N.grown fun _ _ e => Heap.get?_push_of_some _ e))) hs hg
theorem eq_pair {a b : Addr} {x : Str} {v : Value} {D : PyData} {t t2 t3 : Tok} {n n2 : Nat} {Q : Value → Shared → Prop} (N : News h₀ L s.heap news) (h1 : (a, tupO [.str x t, v] n) ∈ news) (h2 : (b, tupO [.str (Str.ofString "name") t2, .int 1 t3] n2) ∈ news)
    (r : ∃ as, Reads s.heap v D as) (hx : PyData.strOk x = true) (hl : PyData.canLay0 D = true ∧ PyData.depth D ≤ 2) (hu : A.units + 64 < cLine) (h : Q (.bool ((x == Str.ofString "name") && PyData.eqv D (.int 1))) s) :
    wpAny (model prog w) A (compareOp .Eq (.ref a) (.ref b)) Q E s := by
  obtain ⟨as, r⟩ := r
  refine eq_dataH (Reads.tuple (N _ h1).1 rfl rfl (ReadsAll.cons (Reads.str _ _) (ReadsAll.cons r ReadsAll.nil))) (Reads.tuple (N _ h2).1 rfl rfl (ReadsAll.cons (Reads.str _ _) (ReadsAll.cons (Reads.int _ _) ReadsAll.nil))) ?_ (by decide +kernel) hu ?_
  · have e1 : PyData.canLay0 (.tuple [.str x, D]) = true := by simp [PyData.canLay0, PyData.canLayAll0, hx, hl.1]
    have e2 : PyData.depth (.tuple [.str x, D]) ≤ 64 := by
      simp only [PyData.depth, PyData.depthAll]
      have := hl.2
      omega
    unfold SeqAt.shaped
    rw [e1, decide_eq_true e2]; rfl
  · have e : PyData.eqv (.tuple [.str x, D]) (.tuple [.str (Str.ofString "name"), .int 1]) = ((x == Str.ofString "name") && PyData.eqv D (.int 1)) := by simp [PyData.eqv, PyData.eqvAll]
    rw [e]; exact h
theorem eq_col {a b : Addr} {j : Int} {t t2 t3 t4 : Tok} {n n2 : Nat} {Q : Value → Shared → Prop} (N : News h₀ L s.heap news) (h1 : (a, tupO [.str (Str.ofString "name") t, .int j t4] n) ∈ news) (h2 : (b, tupO [.str (Str.ofString "name") t2, .int 1 t3] n2) ∈ news)
    (hu : A.units + 64 < cLine) (h : Q (.bool (j == 1)) s) : wpAny (model prog w) A (compareOp .Eq (.ref a) (.ref b)) Q E s :=
  eq_pair N h1 h2 ⟨_, Reads.int _ _⟩ k_name ⟨rfl, Nat.zero_le _⟩ hu (by rw [beq_self_eq_true, Bool.true_and]; exact h)
theorem b_lit : (Str.ofString "lit" == Str.ofString "name") = false := by decide
theorem b_cast : (Str.ofString "cast" == Str.ofString "name") = false := by decide
theorem b_coll : (Str.ofString "collate" == Str.ofString "name") = false := by decide
theorem eq_lit {a b : Addr} {v : Value} {lv : LV} {t t2 t3 : Tok} {n n2 : Nat} {Q : Value → Shared → Prop} (N : News h₀ L s.heap news) (h1 : (a, tupO [.str (Str.ofString "lit") t, v] n) ∈ news) (h2 : (b, tupO [.str (Str.ofString "name") t2, .int 1 t3] n2) ∈ news)
    (hv : LVal v lv) (hu : A.units + 64 < cLine) (h : Q (.bool false) s) : wpAny (model prog w) A (compareOp .Eq (.ref a) (.ref b)) Q E s :=
  eq_pair N h1 h2 ⟨_, lv_reads hv⟩ k_lit ⟨(lv_lay hv).1, by rw [(lv_lay hv).2]; decide⟩ hu (by rw [b_lit, Bool.false_and]; exact h)
theorem eq_cast {a b : Addr} {v : Value} {d : Side} {t t2 t3 : Tok} {n n2 : Nat} {Q : Value → Shared → Prop} (N : News h₀ L s.heap news) (h1 : (a, tupO [.str (Str.ofString "cast") t, v] n) ∈ news) (h2 : (b, tupO [.str (Str.ofString "name") t2, .int 1 t3] n2) ∈ news)
    (hv : SideIn news v d) (hb : d.Base) (hu : A.units + 64 < cLine) (h : Q (.bool false) s) : wpAny (model prog w) A (compareOp .Eq (.ref a) (.ref b)) Q E s :=
  eq_pair N h1 h2 (side_reads N hv) k_cast ⟨(base_lay hv hb).1, Nat.le_succ_of_le (base_lay hv hb).2⟩ hu (by rw [b_cast, Bool.false_and]; exact h)
theorem eq_coll {a b : Addr} {v : Value} {d : Side} {t t2 t3 : Tok} {n n2 : Nat} {Q : Value → Shared → Prop} (N : News h₀ L s.heap news) (h1 : (a, tupO [.str (Str.ofString "collate") t, v] n) ∈ news) (h2 : (b, tupO [.str (Str.ofString "name") t2, .int 1 t3] n2) ∈ news)
    (hv : SideIn news v d) (hb : d.Base) (hu : A.units + 64 < cLine) (h : Q (.bool false) s) : wpAny (model prog w) A (compareOp .Eq (.ref a) (.ref b)) Q E s :=
  eq_pair N h1 h2 (side_reads N hv) k_coll ⟨(base_lay hv hb).1, Nat.le_succ_of_le (base_lay hv hb).2⟩ hu (by rw [b_coll, Bool.false_and]; exact h)
theorem eq_nil {D e : Addr} {ws : List Value} {n n2 : Nat} {Q : Value → Shared → Prop} (N : News h₀ L s.heap news) (hm : (D, listOf ws.toArray n) ∈ news) (he : (e, listOf [].toArray n2) ∈ news) (hu : A.units < cLine) (h : Q (.bool ws.isEmpty) s) :
    wpAny (model prog w) A (compareOp .Eq (.ref D) (.ref e)) Q E s := by
  cases ws with
  | nil => exact PySem.SeqAt.eq_listAt (e := fun _ => true) (News.isList N hm) (News.isList N he) rfl hu (fun j h1 _ => absurd h1 (Nat.not_lt_zero _)) h
  | cons v r => exact PySem.SeqAt.eq_list_lengthsAt (News.isList N hm) (News.isList N he) rfl hu h
theorem sides_lay {vs : List Value} {ds : List Side} (r : SidesIn news vs ds) : (∀ d ∈ ds, d.Base) → PyData.canLayAll0 (ds.map sideD) = true ∧ PyData.depthAll (ds.map sideD) ≤ 1 := by
  induction r with
  | nil => exact fun _ => ⟨rfl, Nat.zero_le _⟩
  | cons h1 _ ih =>
    intro hb
    have h2 := base_lay h1 (hb _ (List.mem_cons_self ..))
    have h3 := ih fun d hd => hb d (List.mem_cons_of_mem _ hd)
    refine ⟨by simp [PyData.canLayAll0, h2.1, h3.1], ?_⟩
    simp only [List.map_cons, PyData.depthAll]
    have := h2.2
    have := h3.2
    omega
theorem ne_nil {la e : Addr} {vs : List Value} {ds : List Side} {n n2 : Nat} {Q : Value → Shared → Prop} (N : News h₀ L s.heap news) (hm : (la, listOf vs.toArray n) ∈ news) (he : (e, listOf [].toArray n2) ∈ news) (hS : SidesIn news vs ds) (hb : ∀ d ∈ ds, d.Base) (hu : A.units + 64 < cLine) (h : Q (.bool (!ds.isEmpty)) s) :
    wpAny (model prog w) A (compareOp .NotEq (.ref la) (.ref e)) Q E s := by
  obtain ⟨as, r⟩ := sides_reads N hS
  refine ne_dataH (Reads.list (N _ hm).1 rfl rfl r) (Reads.list (N _ he).1 rfl rfl ReadsAll.nil) ?_ (by decide +kernel) hu ?_
  · have h2 := sides_lay hS hb
    have e1 : PyData.canLay0 (.list (ds.map sideD)) = true := h2.1
    have e2 : PyData.depth (.list (ds.map sideD)) ≤ 64 := by
      simp only [PyData.depth]
      have := h2.2
      omega
    unfold SeqAt.shaped
    rw [e1, decide_eq_true e2]; rfl
  · cases ds with
    | nil => exact h
    | cons d r => exact h
end
/-- the end of a test within a comprehension: nothing is made -/
noncomputable def TestEnd (h₀ : Heap) (L : Addr) (m : Str → Option Value) (l : List (Addr × Obj)) (b : Bool) (s : Shared) (ok : Bool) (s' : Shared) : Prop :=
  ∃ h tk, s' = { s with heap := h, toks := tk } ∧ Fr h₀ L h m ∧ News h₀ L h l ∧ ok = b
theorem TestEnd.of {h₀ : Heap} {L : Addr} {m : Str → Option Value} {l : List (Addr × Obj)} {b ok : Bool} {s : Shared} {h : Heap} {tk : Nat} (F : Fr h₀ L h m) (N : News h₀ L h l) (e : ok = b) : TestEnd h₀ L m l b s ok { s with heap := h, toks := tk } := ⟨h, tk, rfl, F, N, e⟩
section
variable {prog : Program} {w : World} {A : Around} {E : Value → Shared → Prop} {s : Shared} {h₀ : Heap} {L : Addr} {m : Str → Option Value} {env : Env}
theorem own_rest {x : Str} {p4 : Pos} {ct : PySem.Expr} {scope : Scope} {cl : List (Str × Addr)} {S : List (Addr × Obj) → Prop} {all : List Value} {Fin : List Value → List (Addr × Obj) → Prop} {news : List (Addr × Obj)} (hS : S news)
    (hk : ∀ C, (compEnvC scope cl C env).scope.kind = .function) (hl : ∀ C, (compEnvC scope cl C env).kindOf x = some .local) (hd : (x == ("__debug__" : Str)) = false)
    (ht : ∀ v d I oI C oC D m₂ ys h tk (E' : Value → Shared → Prop), SideIn news v d → d.Base → LCg.NsObj oC m₂ → m₂ x = some v → Fr h₀ L h m → News h₀ L h ((I, oI) :: (C, oC) :: (D, LCg.lst ys) :: news) → LCg.Off3 I C D news → ((@Ne Nat I C) ∧ (@Ne Nat I D) ∧ (@Ne Nat C D)) →
      wpAny (model prog w) A (isTrue ct (compEnvC scope cl C env) (eval ct (compEnvC scope cl C env))) (TestEnd h₀ L m ((I, oI) :: (C, oC) :: (D, LCg.lst ys) :: news) d.own { s with heap := h, toks := tk }) E' { s with heap := h, toks := tk }) :
    ∀ (vs : List Value) (ds : List Side), SidesIn news vs ds → (∀ d ∈ ds, d.Base) → ∀ (i : Nat) (ys : List Value), (∀ j : Nat, all.toArray[i + j]? = vs[j]?) → (∀ ws, (ws = [] ↔ ∀ d ∈ ds, d.own = false) → Fin (ys ++ ws) news) →
      LCt.CompRestT prog w A h₀ L m env ct (.Name x p4) x scope cl s S (fun i v => all.toArray[i]? = some v) Fin vs.length i ys news := by
  intro vs ds r
  induction r with
  | nil => exact fun _ i ys _ h => LCt.CompRestT.zero (by simpa using h [] ⟨(fun _ _ h => nomatch h), fun _ => rfl⟩)
  | @cons v vs d ds h1 _ ih =>
    intro hb i ys hj h
    refine LCt.CompRestT.succ ?_
    intro v' I oI C oC D m₂ h' tk E' hv hC hx F N off ne
    have e0 := hj 0
    simp only [Nat.add_zero, List.getElem?_cons_zero] at e0
    have e : v = v' := Option.some.inj (e0.symm.trans hv)
    subst e
    have hj' : ∀ j : Nat, all.toArray[i + 1 + j]? = vs[j]? := fun j => by
      have := hj (j + 1)
      simp only [List.getElem?_cons_succ] at this
      rw [← this]; congr 1; omega
    refine wpAny_mono (ht v d I oI C oC D m₂ ys h' tk E' h1 (hb _ (List.mem_cons_self ..)) hC hx F N off ne) (fun ok s' hq => ?_) fun _ _ e => e
    obtain ⟨h₂, tk₂, rfl, F₂, N₂, rfl⟩ := hq
    cases ho : d.own
    · simp only [Bool.false_eq_true, if_false]
      refine compEnd0 F₂ N₂ off hS (ih (fun d hd => hb d (List.mem_cons_of_mem _ hd)) (i + 1) ys hj' fun ws hw => h ws ?_)
      rw [hw]
      refine ⟨fun k d' hd' => ?_, fun k d' hd' => k d' (List.mem_cons_of_mem _ hd')⟩
      rcases List.mem_cons.mp hd' with rfl | hd'
      · exact ho
      · exact k d' hd'
    · simp only [if_true]
      refine LCgL.ld_own N₂ (by simp) hC hx ?_ (hk _) (hl _) hd
      refine compEnd0 F₂ N₂ off hS (ih (fun d hd => hb d (List.mem_cons_of_mem _ hd)) (i + 1) (ys ++ [v]) hj' fun ws hw => ?_)
      have := h (v :: ws) ⟨(fun e => nomatch e), fun k => by have := k d (List.mem_cons_self ..); rw [ho] at this; cases this⟩
      rw [List.append_assoc]; exact this
theorem own_src {x : Str} {p4 : Pos} {ct : PySem.Expr} {scope : Scope} {cl : List (Str × Addr)} {Fin : Shared → List Value → List (Addr × Obj) → Prop} {ax : Addr} {vs : List Value} {ds : List Side} {k : Nat} {news : List (Addr × Obj)} {s₁ : Shared}
    (hh : A.handled = none) (F : Fr h₀ L s₁.heap m) (N : News h₀ L s₁.heap news) (hm : (ax, listOf vs.toArray k) ∈ news) (r : SidesIn news vs ds) (hb : ∀ d ∈ ds, d.Base) (hlen : ds.length ≤ 2)
    (hk : scope.kind = .function) (hl : scope.names.lookup x = some .local) (hd : (x == ("__debug__" : Str)) = false)
    (ht : ∀ g v d I oI C oC D m₂ ys h tk (E' : Value → Shared → Prop), SideIn news v d → d.Base → LCg.NsObj oC m₂ → m₂ x = some v → Fr h₀ L h m → News h₀ L h ((I, oI) :: (C, oC) :: (D, LCg.lst ys) :: news) → LCg.Off3 I C D news → ((@Ne Nat I C) ∧ (@Ne Nat I D) ∧ (@Ne Nat C D)) →
      wpAny (model prog w) A (isTrue ct (compEnvC scope cl C env) (eval ct (compEnvC scope cl C env))) (TestEnd h₀ L m ((I, oI) :: (C, oC) :: (D, LCg.lst ys) :: news) d.own { { s₁ with heap := g } with heap := h, toks := tk }) E' { s₁ with heap := h, toks := tk })
    (hf : ∀ g ws, (ws = [] ↔ ∀ d ∈ ds, d.own = false) → Fin { s₁ with heap := g } ws news) :
    LCt.CompSrcT prog w A h₀ L m env ct (.Name x p4) x scope cl Fin (.ref ax) s₁ := by
  have hlv : vs.length = ds.length := by clear hm hf ht hb hlen; induction r with | nil => rfl | cons _ _ ih => exact congrArg (· + 1) ih
  refine LCt.CompSrcT.ledger hh F N hm (by rw [PySem.sizeLine_eq, List.size_toArray]; omega) fun g => ?_
  rw [List.size_toArray]
  exact own_rest (s := { s₁ with heap := g }) (.inr ⟨_, hm, rfl, _, rfl⟩) (fun C => hk) (fun C => lookup_relabel_local hl) hd (ht g) vs ds r hb 0 [] (fun j => by simp) (hf g)
end
-- B24
inductive DuesIn (news : List (Addr × Obj)) : List Value → List Due → Prop
  | nil : DuesIn news [] []
  | cons {v : Value} {vs : List Value} {d : Due} {ds : List Due} : DueIn news v d → DuesIn news vs ds → DuesIn news (v :: vs) (d :: ds)
theorem DuesIn.mono {news news' : List (Addr × Obj)} {vs : List Value} {ds : List Due} (h : DuesIn news vs ds) (hs : ∀ p ∈ news, p ∈ news') : DuesIn news' vs ds := by
  induction h with
  | nil => exact .nil
  | cons h _ ih => exact .cons (h.mono hs) ih
open Classical in
noncomputable def inS (k : Cols) (f : Col → Aff) (v : Side) (ds : List Side) : List Due :=
  match v with
  | .col i => if i.t = 1 ∧ ds ≠ [] ∧ (∀ d ∈ ds, d.own = false) then [.many i ds (ledS (some (f i)) none).2 (k.coll i)] else []
  | _ => []
noncomputable def dueS (k : Cols) (f : Col → Aff) : Cond → List Due
  | .op o l r => if isTurn o = true then (oneS k f o l r l r).toList ++ (oneS k f (turnS o) r l l r).toList else []
  | .btw v lo hi neg => if neg = true then [] else (oneS k f (Str.ofString ">=") v lo v lo).toList ++ (oneS k f (Str.ofString "<=") v hi v hi).toList
  | .inn v ds neg => if neg = true then [] else inS k f v ds
  | .null _ => []
section
variable {news : List (Addr × Obj)} {k : Cols} {f : Col → Aff}
theorem due_op0 {o : Str} {l r : Side} (h : isTurn o = false) : DuesIn news [] (dueS k f (.op o l r)) := by
  show DuesIn news [] (if isTurn o = true then _ else _)
  rw [if_neg (by rw [h]; exact Bool.false_ne_true)]; exact .nil
theorem due_op {o : Str} {l r : Side} {a b : Option Due} {vs : List Value} (h : isTurn o = true) (e1 : oneS k f o l r l r = a) (e2 : oneS k f (turnS o) r l l r = b) (x : DuesIn news vs (a.toList ++ b.toList)) : DuesIn news vs (dueS k f (.op o l r)) := by
  show DuesIn news vs (if isTurn o = true then _ else _)
  rw [if_pos h, e1, e2]; exact x
theorem due_btw0 {v lo hi : Side} {neg : Bool} (h : neg = true) : DuesIn news [] (dueS k f (.btw v lo hi neg)) := by
  show DuesIn news [] (if neg = true then _ else _)
  rw [if_pos h]; exact .nil
theorem due_btw {v lo hi : Side} {neg : Bool} {a b : Option Due} {vs : List Value} (h : neg = false) (e1 : oneS k f (Str.ofString ">=") v lo v lo = a) (e2 : oneS k f (Str.ofString "<=") v hi v hi = b) (x : DuesIn news vs (a.toList ++ b.toList)) : DuesIn news vs (dueS k f (.btw v lo hi neg)) := by
  show DuesIn news vs (if neg = true then _ else _)
  rw [if_neg (by rw [h]; exact Bool.false_ne_true), e1, e2]; exact x
theorem due_in0 {v : Side} {ds : List Side} {neg : Bool} (h : neg = true) : DuesIn news [] (dueS k f (.inn v ds neg)) := by
  show DuesIn news [] (if neg = true then _ else _)
  rw [if_pos h]; exact .nil
theorem due_in {v : Side} {ds : List Side} {neg : Bool} {vs : List Value} (h : neg = false) (x : DuesIn news vs (inS k f v ds)) : DuesIn news vs (dueS k f (.inn v ds neg)) := by
  show DuesIn news vs (if neg = true then _ else _)
  rw [if_neg (by rw [h]; exact Bool.false_ne_true)]; exact x
theorem in_not {i : Col} {ds : List Side} (h : ¬ (i.t = 1 ∧ ds ≠ [] ∧ (∀ d ∈ ds, d.own = false))) : DuesIn news [] (inS k f (.col i) ds) := by
  have e : inS k f (.col i) ds = [] := by unfold inS; exact if_neg h
  rw [e]; exact .nil
theorem in_is {i : Col} {ds : List Side} {d : Due} {v : Value} (h : i.t = 1 ∧ ds ≠ [] ∧ (∀ d ∈ ds, d.own = false)) (e : d = .many i ds (ledS (some (f i)) none).2 (k.coll i)) (x : DueIn news v d) : DuesIn news [v] (inS k f (.col i) ds) := by
  have e2 : inS k f (.col i) ds = [.many i ds (ledS (some (f i)) none).2 (k.coll i)] := by unfold inS; exact if_pos h
  subst e; rw [e2]; exact .cons x .nil
theorem in_emp {i : Col} {ds : List Side} (h : ds.isEmpty = true) : DuesIn news [] (inS k f (.col i) ds) :=
  in_not fun x => x.2.1 (List.isEmpty_iff.mp h)
theorem in_own {i : Col} {ds : List Side} {ws : List Value} (hw : ws = [] ↔ ∀ d ∈ ds, d.own = false) (h : ws.isEmpty = false) : DuesIn news [] (inS k f (.col i) ds) :=
  in_not fun x => by rw [hw.mpr x.2.2] at h; cases h
theorem in_one {i : Col} {ds : List Side} {ws vs : List Value} {lb la : Addr} {n ln : Nat} {t1 t2 t3 : Tok} {r1 r2 : Value} (ht : i.t = 1) (he : ds.isEmpty = false) (hw : ws = [] ↔ ∀ d ∈ ds, d.own = false) (h : ws.isEmpty = true) (hl : Led (some (f i)) none r1 r2)
    (hm : (lb, listOf [.int i.c t1, .str (Str.ofString "in") t2, .ref la, r2, .str (k.coll i) t3].toArray n) ∈ news) (ha : (la, listOf vs.toArray ln) ∈ news) (hS : SidesIn news vs ds) : DuesIn news [.ref lb] (inS k f (.col i) ds) :=
  in_is ⟨ht, (fun e => by rw [e] at he; cases he), hw.mp (List.isEmpty_iff.mp h)⟩ rfl (.many hm ha hS hl.2)
end
section
variable {h₀ h : Heap} {L : Addr} {q1 q2 q3 q4 : Addr × Obj} {t1 t2 t3 r : List (Addr × Obj)}
theorem tD2 (N : News h₀ L h (q1 :: q2 :: (t2 ++ q3 :: (t1 ++ q4 :: r)))) : News h₀ L h (q1 :: ((q2 :: (t2 ++ q3 :: (t1 ++ [q4]))) ++ r)) := cb_drop N (by ktn_no "Mine.sub")
end
theorem optDue_len {news : List (Addr × Obj)} {vs : List Value} {o : Option Due} (h : OptDue news vs o) : vs.length ≤ 1 := by
  cases h with
  | nil => exact Nat.zero_le _
  | one _ => exact Nat.le_refl _
theorem dues_opt {news : List (Addr × Obj)} {vs vs2 : List Value} {o o2 : Option Due} (h : OptDue news vs o) (h2 : OptDue news vs2 o2) : DuesIn news (vs ++ vs2) (o.toList ++ o2.toList) := by
  cases h with
  | nil => cases h2 with
    | nil => exact .nil
    | one h2 => exact .cons h2 .nil
  | one h => cases h2 with
    | nil => exact .cons h .nil
    | one h2 => exact .cons h (.cons h2 .nil)
section
variable {prog : Program} {w : World} {A : Around} {E : Value → Shared → Prop} {s : Shared} {h₀ : Heap} {L d : Addr} {m : Str → Option Value} {news : List (Addr × Obj)} {o : Obj} {t1 t2 t3 t4 t5 t : Tok} {op : Str} {Q : Value → Shared → Prop}
theorem add_opt {a b : Addr} {vs1 vs2 : List Value} {n1 n2 : Nat} (F : Fr h₀ L s.heap m) (N : News h₀ L s.heap news) (ha : (a, listOf vs1.toArray n1) ∈ news) (hb : (b, listOf vs2.toArray n2) ∈ news) (l1 : vs1.length ≤ 1) (l2 : vs2.length ≤ 1)
    (h : ∀ D h', Fr h₀ L h' m → News h₀ L h' ((D, listOf (vs1 ++ vs2).toArray 0) :: news) → (∀ p ∈ news, p.1 < D) → Q (.ref D) { s with heap := h' }) : wpAny (model prog w) A (binaryOp .Add (.ref a) (.ref b)) Q E s :=
  kmk_add_lit F N (News.isList N ha) (News.isList N hb) rfl h (by rw [PySem.sizeLine_eq]; simp only [List.size_toArray]; omega)
theorem turn_item {value slice : PySem.Expr} (N : News h₀ L s.heap news) (hd : o.IsDictOf (PySem.strKind prog w) (TURN5 t1 t2 t3 t4 t5)) (hp : (d, o) ∈ news) (ho : op ∈ OPS) (ht : isTurn op = true) (h : ∀ t', Q (.str (turnS op) t') { s with toks := s.toks + 1 })
    (hs : subscripted slice false (.ref d) (.str op t) = operate [.ref d, .str op t] (getItem (.ref d) (.str op t)) := by with_unfolding_all rfl) (hg : ∀ r, letTemporaryGo value (.ref d) r = pure () := by intro _; with_unfolding_all rfl) :
    wpAny (model prog w) A (subscriptTail value slice (.ref d) (.str op t)) Q E s := by
  obtain ⟨t', e⟩ := turn5_at ho ht
  exact kda_item N hp hd (strKind_is _ _ _ _) e (h t') hs hg
end
theorem ok_cast {x : Side} {ty : Str} (h : (Side.cast x ty).Ok) : x.Base := by
  cases h with
  | base h => cases h
  | cast h _ => exact h
theorem ok_coll {x : Side} {c : Str} (h : (Side.coll x c).Ok) : x.Base := by
  cases h with
  | base h => cases h
  | coll h _ => exact h
-- A18
theorem oa_is {k : Cols} {f : Col → Aff} (h : k.AffIs f) (i : Col) (t : Tok) : OA (.str (k.aff i) t) (some (f i)) := by rw [h.is i]; exact OA.some _ _
theorem in_empA {k : Cols} {f : Col → Aff} {news : List (Addr × Obj)} {sd : Side} {ds : List Side} (h : ds.isEmpty = true) : DuesIn news [] (inS k f sd ds) := by
  cases sd with
  | col i => exact in_emp h
  | lit v => exact DuesIn.nil
  | cast x y => exact DuesIn.nil
  | coll x y => exact DuesIn.nil
theorem val_one {kvs : List (Int × Value)} {i : Col} {D : Addr} (h : valueAt kvs i.t = some (.ref D)) : i.t = 1 → valueAt kvs 1 = some (.ref D) := fun e => e ▸ h
section
example : True := by
  (k_with "L141" => (((try dsimp only); k_dflt (refine' made5 ?z1z141 ?z2z141 (Top.nolimit (by k_asm)) ?_; (case z1z141 => k_asm); (case z2z141 => k_asm)); intro h' o' F' N' l1 lo' hd'; (try k_lt l1))))
  trivial
local macro_rules | `(tactic| walk_at "Exists") => `(tactic| k_extra "L141")
example : True := by
  (k_with "L142" => ((k_dflt (with_reducible refine' Dict_made_str ?z1z142 ?z2z142 ?z3z142 ?z4z142 (List.cons_ne_nil _ _) ?z5z142 ?_; (case z1z142 => rfl); (case z2z142 => with_reducible assumption); (case z3z142 => rfl); (case z4z142 => rfl); (case z5z142 => exact Nat.le_of_ble_eq_true rfl)); intro _)))
  trivial
local macro_rules | `(tactic| walk_at "eval Dict") => `(tactic| k_extra "L142")
example : True := by
  (k_with "L143" => (((with_reducible show wpAny _ _ (subscriptTail _ _ (Value.ref _) (Value.str _ _)) _ _ _); k_dflt (refine' turn_item ?z1z143 ?z3z143 ?z2z143 ?z4z143 ?z5z143 ?_; (case z1z143 => k_asm); (case z3z143 => assumption); (case z2z143 => k_mem); (case z4z143 => assumption); (case z5z143 => assumption)); intro t'; (try dsimp only))))
  trivial
local macro_rules | `(tactic| walk_at "subscriptTail") => `(tactic| k_extra "L143")
example : True := by
  (k_with "L144" => ((k_dflt (refine' add_opt ?z1z144 ?z2z144 ?z3z144 ?z4z144 ?z5z144 ?z6z144 ?_; (case z1z144 => k_asm); (case z2z144 => k_asm); (case z3z144 => k_mem); (case z4z144 => k_mem); (case z5z144 => exact optDue_len (by assumption)); (case z6z144 => exact optDue_len (by assumption))); intro D' h' F' N' l1; (try k_lt l1); (try k_sweep))))
  trivial
local macro_rules | `(tactic| walk_at "binaryOp Add ref ref") => `(tactic| k_extra "L144")
example : True := by
  (k_with "L145" => ((k_dflt (refine' turn_in ?z1z145 ?z3z145 ?z2z145 ?z4z145 ?z5z145 ?_; (case z1z145 => k_asm); (case z3z145 => assumption); (case z2z145 => k_mem); (case z4z145 => assumption); (case z5z145 => assumption)))))
  trivial
local macro_rules | `(tactic| walk_at "compareOp In str ref") => `(tactic| k_extra "L145")
example : True := by
  (k_with "L146" => (((with_reducible show wpAny _ _ (subscriptTail _ _ (Value.ref _) (Value.int _ _)) _ _ _); k_dflt (refine' item_at ?z1z146 ?z2z146 ?z3z146 ?z4z146 ?z5z146 ?_; (case z1z146 => k_asm); (case z2z146 => with_reducible assumption); (case z3z146 => decide); (case z4z146 => decide); (case z5z146 => rfl)))))
  trivial
local macro_rules | `(tactic| walk_at "subscriptTail") => `(tactic| k_extra "L146")
example : True := by
  (k_with "L147" => (((with_reducible show wpAny _ _ (subscriptTail _ _ (Value.ref _) (Value.int (Col.t _) _)) _ _ _); k_dflt (refine' kda_item (knd := PySem.intKind _ _) ?z1z147 ?z2z147 ?z3z147 (intKind_is _ _ _ _) ?z4z147 ?_; (case z1z147 => k_asm); (case z2z147 => with_reducible first | assumption | k_mem); (case z3z147 => assumption); (case z4z147 => assumption)))))
  trivial
local macro_rules | `(tactic| walk_at "subscriptTail") => `(tactic| k_extra "L147")
example : True := by
  (k_with "L148" => (((with_reducible show wpAny _ _ (subscriptTail _ _ (Value.ref _) (Value.int (Col.c _) _)) _ _ _); k_dflt (refine' item_at ?z1z148 ?z2z148 ?z3z148 ?z4z148 ?z5z148 ?_; (case z1z148 => k_asm); (case z2z148 => k_mem); (case z3z148 => omega); (case z4z148 => omega); (case z5z148 => assumption)))))
  trivial
local macro_rules | `(tactic| walk_at "subscriptTail") => `(tactic| k_extra "L148")
example : True := by
  (k_with "L149" => (((with_reducible show wpAny _ _ (subscriptTail _ _ (Value.ref _) (Value.int 1 _)) _ _ _); k_dflt (refine' kda_item (knd := PySem.intKind _ _) ?z1z149 ?z2z149 ?z3z149 (intKind_is _ _ _ _) ?z4z149 ?_; (case z1z149 => k_asm); (case z2z149 => with_reducible first | assumption | k_mem); (case z3z149 => assumption); (case z4z149 => (rename (Col.t _ = 1 → _) => hq9; exact hq9 (by assumption)))))))
  trivial
local macro_rules | `(tactic| walk_at "subscriptTail") => `(tactic| k_extra "L149")
example : True := by
  (k_with "L150" => (((with_reducible show wpAny _ _ (subscriptTail _ _ (Value.ref _) (Value.ref _)) _ _ _); first | (k_dflt (refine' slice_cut3 ?Fz150 ?Nz150 ?mz150 ?_ ?sz150 ?tz150; (case Fz150 => k_asm); (case Nz150 => k_asm); (case mz150 => k_mem); (case sz150 => with_unfolding_all rfl); (case tz150 => kmk_pure)); intro D' h' F' N' l1; (try k_lt l1); (try k_sweep)) | (k_dflt (refine' slice_whole2 ?Fz150 ?Nz150 ?mz150 ?_ ?sz150 ?tz150; (case Fz150 => k_asm); (case Nz150 => k_asm); (case mz150 => k_mem); (case sz150 => with_unfolding_all rfl); (case tz150 => kmk_pure)); intro h' F' N'; (try k_sweep)))))
  trivial
local macro_rules | `(tactic| walk_at "subscriptTail") => `(tactic| k_extra "L150")
example : True := by
  (k_with "L151" => ((k_dflt (refine' ne_nil ?Nz151 ?mz151 ?ez151 ?Sz151 ?bz151 ?uz151 ?_; (case Nz151 => k_asm); (case mz151 => k_mem); (case ez151 => k_mem); (case Sz151 => ktn_no "Mine.sides"); (case bz151 => assumption); (case uz151 => k_units)))))
  trivial
local macro_rules | `(tactic| walk_at "compareOp NotEq ref ref") => `(tactic| k_extra "L151")
example : True := by
  (k_with "L152" => ((refine' SidesIn.mono ?sm1z152 ?sm2z152; (case sm1z152 => assumption); (case sm2z152 => ktn_no "Mine.sub"))))
  trivial
local macro_rules | `(tactic| ktn_no "Mine.sides") => `(tactic| k_extra "L152")
example : True := by
  (k_with "L153" => ((k_dflt (first | (refine' eq_col ?Nz153 ?mz153 ?ez153 ?uz153 ?_; (case Nz153 => k_asm); (case mz153 => k_mem); (case ez153 => k_mem); (case uz153 => k_units)) | (refine' eq_lit ?Nz153 ?mz153 ?ez153 ?vz153 ?uz153 ?_; (case Nz153 => k_asm); (case mz153 => k_mem); (case ez153 => k_mem); (case vz153 => assumption); (case uz153 => k_units)) | (refine' eq_cast ?Nz153 ?mz153 ?ez153 ?vz153 ?bz153 ?uz153 ?_; (case Nz153 => k_asm); (case mz153 => k_mem); (case ez153 => k_mem); (case vz153 => ktn_no "Mine.side"); (case bz153 => assumption); (case uz153 => k_units)) | (refine' eq_coll ?Nz153 ?mz153 ?ez153 ?vz153 ?bz153 ?uz153 ?_; (case Nz153 => k_asm); (case mz153 => k_mem); (case ez153 => k_mem); (case vz153 => ktn_no "Mine.side"); (case bz153 => assumption); (case uz153 => k_units)) | (refine' eq_nil ?Nz153 ?mz153 ?ez153 ?uz153 ?_; (case Nz153 => k_asm); (case mz153 => k_mem); (case ez153 => k_mem); (case uz153 => k_units))))))
  trivial
local macro_rules | `(tactic| walk_at "compareOp Eq ref ref") => `(tactic| k_extra "L153")
example : True := by
  (k_with "L154" => ((k_dflt (refine LCt.ListComp_T (F₀ := by k_asm) (by with_unfolding_all rfl) (by decide) (by rfl) (by decide) (by rfl) ?_))))
  trivial
local macro_rules | `(tactic| walk_at "eval ListComp") => `(tactic| k_extra "L154")
example : True := by
  (k_with "L155" => ((k_dflt (refine' own_src ?hhz155 ?Fz155 ?Nz155 ?hmz155 ?rz155 ?hbz155 ?hlenz155 ?hkz155 ?hlz155 ?hdz155 ?_ ?_; (case hhz155 => rfl); (case Fz155 => k_asm); (case Nz155 => k_asm); (case hmz155 => k_mem); (case rz155 => ktn_no "Mine.sides"); (case hbz155 => assumption); (case hlenz155 => assumption); (case hkz155 => rfl); (case hlz155 => rfl); (case hdz155 => decide)))))
  trivial
local macro_rules | `(tactic| walk_at "CompSrcT") => `(tactic| k_extra "L155")
example : True := by
  (k_with "L156" => ((refine' TestEnd.of ?Fz156 ?Nz156 ?ez156; (case Fz156 => k_asm); (case Nz156 => k_asm); (case ez156 => rfl))))
  trivial
local macro_rules | `(tactic| walk_at "TestEnd") => `(tactic| k_extra "L156")
example : True := by
  (k_with "L157" => (((with_reducible show wpAny _ _ (assign (Expr.Tuple _ _ _) _ (Value.ref _)) _ _ _); k_dflt (refine' kun_list ?k1z157 ?k2z157 ?k3z157 ?k4z157 ?k5z157 ?k6z157 ?_; (case k1z157 => k_asm); (case k2z157 => k_asm); (case k3z157 => refine' News.isList ?Nz157 ?hz157; (case Nz157 => k_asm); (case hz157 => k_mem)); (case k4z157 => exact rfl); (case k5z157 => exact rfl); (case k6z157 => exact rfl); k_whole); intro h' F' N'; (try k_sweep))))
  trivial
local macro_rules | `(tactic| walk_at "assign Tuple") => `(tactic| k_extra "L157")
example : True := by
  (k_with "L158" => (((fail_if_success (with_reducible show wpAny _ _ (subscriptTail _ _ (Value.ref _) _) _ _ _)); (with_reducible show wpAny _ _ (subscriptTail _ _ _ (Value.ref _)) _ _ _); (rename SideIn _ _ _ => hs9); (rcases hs9 with ⟨i9, hm9⟩ | ⟨hm9, hv9⟩ | ⟨hm9, hx9⟩ | ⟨hm9, hx9⟩ <;> (try (have hx8 := ok_cast (by assumption))) <;> (try (have hx8 := ok_coll (by assumption))) <;> (try (obtain ⟨d9, e9, o9, kvs9, D9, l9, items9, n9, mm9, ta9, tc9, he9, ho9, hv9, hD9, hi9, hl9⟩ := ColsIn.ent (by assumption) i9; subst e9; have hbt9 := i9.bt; have hbc9 := i9.bc; have hoa9 := oa_is (by assumption) i9 ta9; have hv8 := val_one hv9))))))
  trivial
local macro_rules | `(tactic| walk_at "subscriptTail") => `(tactic| k_extra "L158")
theorem duein_c {prog : Program} {w : World} {dp un : Nat} {gd : Option (List Code)} {cn : Str} {cs : Scope} {a : Addr} {ccd : Value} {cl : List (Str × Addr)} {outer : List Env} {A₀ : Around} {base h₀ : Heap} {L : Addr} {m : Str → Option Value} {p : Program} {loose : List Str} {mean : ExcName → Option Value} {mg mb : Str → Option Value} {hp : Heap} {gs : Array GenState} {dr : Drawn} {tk : Nat} {os : OsState} {Q E : Value → Shared → Prop} {news : List (Addr × Obj)} {v cv : Value} {sd : Side} {ds : List Side} {neg : Bool} {k : Cols} {f : Col → Aff}
    (c : Cx w dp un 825 8600 cs A₀ base outer h₀ L hp m p loose mean mg mb) (N : News h₀ L hp (news)) (hR : CondIn news v (.inn sd ds neg)) (hB : Cond.Ok (.inn sd ds neg)) (hC : ColsIn prog w news cv k) (hK : k.AffIs f)
    (ret : ∀ la vs n tl h₁ tk₁, DuesIn (tl ++ news) vs (dueS k f (.inn sd ds neg)) → Apart news ((la, listOf vs.toArray n) :: tl) → Fr h₀ L h₁ m → News h₀ L h₁ ((la, listOf vs.toArray n) :: (tl ++ news)) → Q (.ref la) ⟨h₁, gs, dr, tk₁, os⟩) :
    wpAny (model prog w) (ktrTop dp un gd cn cs L a ccd cl outer) (call (.ref 766) [v, cv]) Q E ⟨hp, gs, dr, tk, os⟩ := by
  obtain ⟨B, F, X, T, hk, hdp, hun⟩ := c
  refine lowerK hdp hun ?_
  have gb := hB
  cases hB with
  | inn hl hlen hds =>
    cases hR with
    | inn hm h1 h2 h3 =>
      have hoN : OA .none none := OA.none
      k_dflt (refine' enterM (binds := [(Str.ofString "told", _), (Str.ofString "columns", _)]) ?k0 ?k1 ?k2 ?k3 ?k4 ?k5 ?kA ?kF ?kK ?k6 ?k7 ?k8 ?k9 ?kB ?c2 ?_; (case k0 => exact rfl); (case kA => exact rfl); (case kF => exact rfl); (case kK => assumption); (case k1 => k_asm); (case k2 => k_asm); (case k3 => k_asm); (case k4 => k_asm); (case k5 => k_asm); (case k6 => k_is); (case k7 => k_is); (case k8 => exact Nat.le_of_ble_eq_true rfl); (case k9 => kernel_rfl!); (case kB => kernel_rfl!); (case c2 => kernel_rfl!); k_whole; intro g' L' h' t' FG' F' N' B' X' T' e9 A9 qk ek)
      k_steps
      · (refine' ret _ _ _ _ _ _ ?e159_0 ?e159_1 ?eF159 ?eN159; (case eN159 => (refine' keep0 ?q158_0 ?q158_1 ?q158_2; (case q158_0 => assumption); (case q158_1 => k_mem); (case q158_2 => ktn_no "Mine.sub"))); (case eF159 => k_asm); (case e159_0 => first | exact due_in0 (by assumption) | exact due_in (by assumption) DuesIn.nil | exact due_in (by assumption) (in_empA (by assumption)) | exact due_in (by assumption) (in_own (by assumption) (by assumption)) | exact due_in (by assumption) (in_not fun x => absurd x.1 (by assumption))); (case e159_1 => ktn_no "Mine.apart"))
      · (refine' ret _ _ _ _ _ _ ?e161_0 ?e161_1 ?eF161 ?eN161; (case eN161 => (refine' keep0 ?q160_0 ?q160_1 ?q160_2; (case q160_0 => assumption); (case q160_1 => k_mem); (case q160_2 => ktn_no "Mine.sub"))); (case eF161 => k_asm); (case e161_0 => first | exact due_in0 (by assumption) | exact due_in (by assumption) DuesIn.nil | exact due_in (by assumption) (in_empA (by assumption)) | exact due_in (by assumption) (in_own (by assumption) (by assumption)) | exact due_in (by assumption) (in_not fun x => absurd x.1 (by assumption))); (case e161_1 => ktn_no "Mine.apart"))
      · (refine' ret _ _ _ _ _ _ ?e157_0 ?e157_1 ?eF157 ?eN157; (case eN157 => (refine' keep2 ?q154_0 ?q154_1 ?q154_2 ?q154_3; (case q154_0 => assumption); (case q154_1 => k_mem); (case q154_2 => k_mem); (case q154_3 => ktn_no "Mine.sub"))); (case eF157 => k_asm); (case e157_0 => (refine' due_in ?q156_0 ?q156_1; (case q156_0 => assumption); (case q156_1 => (refine' in_one ?q155_0 ?q155_1 ?q155_2 ?q155_3 ?q155_4 ?q155_5 ?q155_6 ?q155_7; (case q155_0 => assumption); (case q155_1 => assumption); (case q155_2 => assumption); (case q155_3 => assumption); (case q155_4 => assumption); (case q155_5 => k_mem); (case q155_6 => k_mem); (case q155_7 => ktn_no "Mine.sides"))))); (case e157_1 => ktn_no "Mine.apart"))
      · (refine' ret _ _ _ _ _ _ ?e163_0 ?e163_1 ?eF163 ?eN163; (case eN163 => (refine' keep0 ?q162_0 ?q162_1 ?q162_2; (case q162_0 => assumption); (case q162_1 => k_mem); (case q162_2 => ktn_no "Mine.sub"))); (case eF163 => k_asm); (case e163_0 => first | exact due_in0 (by assumption) | exact due_in (by assumption) DuesIn.nil | exact due_in (by assumption) (in_empA (by assumption)) | exact due_in (by assumption) (in_own (by assumption) (by assumption)) | exact due_in (by assumption) (in_not fun x => absurd x.1 (by assumption))); (case e163_1 => ktn_no "Mine.apart"))
      · (refine' ret _ _ _ _ _ _ ?e165_0 ?e165_1 ?eF165 ?eN165; (case eN165 => (refine' keep0 ?q164_0 ?q164_1 ?q164_2; (case q164_0 => assumption); (case q164_1 => k_mem); (case q164_2 => ktn_no "Mine.sub"))); (case eF165 => k_asm); (case e165_0 => first | exact due_in0 (by assumption) | exact due_in (by assumption) DuesIn.nil | exact due_in (by assumption) (in_empA (by assumption)) | exact due_in (by assumption) (in_own (by assumption) (by assumption)) | exact due_in (by assumption) (in_not fun x => absurd x.1 (by assumption))); (case e165_1 => ktn_no "Mine.apart"))
      · (refine' ret _ _ _ _ _ _ ?e167_0 ?e167_1 ?eF167 ?eN167; (case eN167 => (refine' keep0 ?q166_0 ?q166_1 ?q166_2; (case q166_0 => assumption); (case q166_1 => k_mem); (case q166_2 => ktn_no "Mine.sub"))); (case eF167 => k_asm); (case e167_0 => first | exact due_in0 (by assumption) | exact due_in (by assumption) DuesIn.nil | exact due_in (by assumption) (in_empA (by assumption)) | exact due_in (by assumption) (in_own (by assumption) (by assumption)) | exact due_in (by assumption) (in_not fun x => absurd x.1 (by assumption))); (case e167_1 => ktn_no "Mine.apart"))
      · (refine' ret _ _ _ _ _ _ ?e169_0 ?e169_1 ?eF169 ?eN169; (case eN169 => (refine' keep0 ?q168_0 ?q168_1 ?q168_2; (case q168_0 => assumption); (case q168_1 => k_mem); (case q168_2 => ktn_no "Mine.sub"))); (case eF169 => k_asm); (case e169_0 => first | exact due_in0 (by assumption) | exact due_in (by assumption) DuesIn.nil | exact due_in (by assumption) (in_empA (by assumption)) | exact due_in (by assumption) (in_own (by assumption) (by assumption)) | exact due_in (by assumption) (in_not fun x => absurd x.1 (by assumption))); (case e169_1 => ktn_no "Mine.apart"))
      · (refine' ret _ _ _ _ _ _ ?e171_0 ?e171_1 ?eF171 ?eN171; (case eN171 => (refine' keep0 ?q170_0 ?q170_1 ?q170_2; (case q170_0 => assumption); (case q170_1 => k_mem); (case q170_2 => ktn_no "Mine.sub"))); (case eF171 => k_asm); (case e171_0 => first | exact due_in0 (by assumption) | exact due_in (by assumption) DuesIn.nil | exact due_in (by assumption) (in_empA (by assumption)) | exact due_in (by assumption) (in_own (by assumption) (by assumption)) | exact due_in (by assumption) (in_not fun x => absurd x.1 (by assumption))); (case e171_1 => ktn_no "Mine.apart"))
end
-- A17
section
example : True := by
  (k_with "L159" => (((try dsimp only); k_dflt (refine' made5 ?z1z159 ?z2z159 (Top.nolimit (by k_asm)) ?_; (case z1z159 => k_asm); (case z2z159 => k_asm)); intro h' o' F' N' l1 lo' hd'; (try k_lt l1))))
  trivial
local macro_rules | `(tactic| walk_at "Exists") => `(tactic| k_extra "L159")
example : True := by
  (k_with "L160" => ((k_dflt (with_reducible refine' Dict_made_str ?z1z160 ?z2z160 ?z3z160 ?z4z160 (List.cons_ne_nil _ _) ?z5z160 ?_; (case z1z160 => rfl); (case z2z160 => with_reducible assumption); (case z3z160 => rfl); (case z4z160 => rfl); (case z5z160 => exact Nat.le_of_ble_eq_true rfl)); intro _)))
  trivial
local macro_rules | `(tactic| walk_at "eval Dict") => `(tactic| k_extra "L160")
example : True := by
  (k_with "L161" => (((with_reducible show wpAny _ _ (subscriptTail _ _ (Value.ref _) (Value.str _ _)) _ _ _); k_dflt (refine' turn_item ?z1z161 ?z3z161 ?z2z161 ?z4z161 ?z5z161 ?_; (case z1z161 => k_asm); (case z3z161 => assumption); (case z2z161 => k_mem); (case z4z161 => assumption); (case z5z161 => assumption)); intro t'; (try dsimp only))))
  trivial
local macro_rules | `(tactic| walk_at "subscriptTail") => `(tactic| k_extra "L161")
example : True := by
  (k_with "L162" => ((k_dflt (refine' add_opt ?z1z162 ?z2z162 ?z3z162 ?z4z162 ?z5z162 ?z6z162 ?_; (case z1z162 => k_asm); (case z2z162 => k_asm); (case z3z162 => k_mem); (case z4z162 => k_mem); (case z5z162 => exact optDue_len (by assumption)); (case z6z162 => exact optDue_len (by assumption))); intro D' h' F' N' l1; (try k_lt l1); (try k_sweep))))
  trivial
local macro_rules | `(tactic| walk_at "binaryOp Add ref ref") => `(tactic| k_extra "L162")
example : True := by
  (k_with "L163" => ((k_dflt (refine' turn_in ?z1z163 ?z3z163 ?z2z163 ?z4z163 ?z5z163 ?_; (case z1z163 => k_asm); (case z3z163 => assumption); (case z2z163 => k_mem); (case z4z163 => assumption); (case z5z163 => assumption)))))
  trivial
local macro_rules | `(tactic| walk_at "compareOp In str ref") => `(tactic| k_extra "L163")
theorem due_c {prog : Program} {w : World} {dp un : Nat} {gd : Option (List Code)} {cn : Str} {cs : Scope} {a : Addr} {ccd : Value} {cl : List (Str × Addr)} {outer : List Env} {A₀ : Around} {base h₀ : Heap} {L : Addr} {m : Str → Option Value} {p : Program} {loose : List Str} {mean : ExcName → Option Value} {mg mb : Str → Option Value} {hp : Heap} {gs : Array GenState} {dr : Drawn} {tk : Nat} {os : OsState} {Q E : Value → Shared → Prop} {news : List (Addr × Obj)} {v cv : Value} {d : Cond} {k : Cols} {f : Col → Aff}
    (c : Cx w dp un 825 8600 cs A₀ base outer h₀ L hp m p loose mean mg mb) (N : News h₀ L hp (news)) (hR : CondIn news v d) (hB : d.Ok) (hC : ColsIn prog w news cv k) (hK : k.AffIs f)
    (ret : ∀ la vs n tl h₁ tk₁, DuesIn (tl ++ news) vs (dueS k f d) → Apart news ((la, listOf vs.toArray n) :: tl) → Fr h₀ L h₁ m → News h₀ L h₁ ((la, listOf vs.toArray n) :: (tl ++ news)) → Q (.ref la) ⟨h₁, gs, dr, tk₁, os⟩) :
    wpAny (model prog w) (ktrTop dp un gd cn cs L a ccd cl outer) (call (.ref 766) [v, cv]) Q E ⟨hp, gs, dr, tk, os⟩ := by
  obtain ⟨B, F, X, T, hk, hdp, hun⟩ := c
  refine lowerK hdp hun ?_
  cases hB with
  | op ho hl hr =>
    cases hR with
    | op hm h1 h2 =>
      k_dflt (refine' enterM (binds := [(Str.ofString "told", _), (Str.ofString "columns", _)]) ?k0 ?k1 ?k2 ?k3 ?k4 ?k5 ?kA ?kF ?kK ?k6 ?k7 ?k8 ?k9 ?kB ?c2 ?_; (case k0 => exact rfl); (case kA => exact rfl); (case kF => exact rfl); (case kK => assumption); (case k1 => k_asm); (case k2 => k_asm); (case k3 => k_asm); (case k4 => k_asm); (case k5 => k_asm); (case k6 => k_is); (case k7 => k_is); (case k8 => exact Nat.le_of_ble_eq_true rfl); (case k9 => kernel_rfl!); (case kB => kernel_rfl!); (case c2 => kernel_rfl!); k_whole; intro g' L' h' t' FG' F' N' B' X' T' e9 A9 qk ek)
      k_steps
      · (refine' ret _ _ _ _ _ _ ?e174_0 ?e174_1 ?eF174 ?eN174; (case eN174 => exact tD2 (by k_asm)); (case eF174 => k_asm); (case e174_0 => (refine' due_op ?q173_0 ?q173_1 ?q173_2 ?q173_3; (case q173_0 => assumption); (case q173_1 => exact rfl); (case q173_2 => exact rfl); (case q173_3 => (refine' dues_opt ?q172_0 ?q172_1; (case q172_0 => (refine' OptDue.mono ?om1 ?om2; (case om1 => assumption); (case om2 => ktn_no "Mine.sub"))); (case q172_1 => (refine' OptDue.mono ?om1 ?om2; (case om1 => assumption); (case om2 => ktn_no "Mine.sub"))))))); (case e174_1 => ktn_no "Mine.apart"))
      · (refine' ret _ _ _ _ _ _ ?e176_0 ?e176_1 ?eF176 ?eN176; (case eN176 => (refine' keep0 ?q175_0 ?q175_1 ?q175_2; (case q175_0 => assumption); (case q175_1 => k_mem); (case q175_2 => ktn_no "Mine.sub"))); (case eF176 => k_asm); (case e176_0 => exact due_op0 (by assumption)); (case e176_1 => ktn_no "Mine.apart"))
  | btw hl hr hz =>
    cases hR with
    | btw hm h1 h2 h3 =>
      k_dflt (refine' enterM (binds := [(Str.ofString "told", _), (Str.ofString "columns", _)]) ?k0 ?k1 ?k2 ?k3 ?k4 ?k5 ?kA ?kF ?kK ?k6 ?k7 ?k8 ?k9 ?kB ?c2 ?_; (case k0 => exact rfl); (case kA => exact rfl); (case kF => exact rfl); (case kK => assumption); (case k1 => k_asm); (case k2 => k_asm); (case k3 => k_asm); (case k4 => k_asm); (case k5 => k_asm); (case k6 => k_is); (case k7 => k_is); (case k8 => exact Nat.le_of_ble_eq_true rfl); (case k9 => kernel_rfl!); (case kB => kernel_rfl!); (case c2 => kernel_rfl!); k_whole; intro g' L' h' t' FG' F' N' B' X' T' e9 A9 qk ek)
      k_steps
      · (refine' ret _ _ _ _ _ _ ?e178_0 ?e178_1 ?eF178 ?eN178; (case eN178 => (refine' keep0 ?q177_0 ?q177_1 ?q177_2; (case q177_0 => assumption); (case q177_1 => k_mem); (case q177_2 => ktn_no "Mine.sub"))); (case eF178 => k_asm); (case e178_0 => exact due_btw0 (by assumption)); (case e178_1 => ktn_no "Mine.apart"))
      · (refine' ret _ _ _ _ _ _ ?e181_0 ?e181_1 ?eF181 ?eN181; (case eN181 => exact tD2 (by k_asm)); (case eF181 => k_asm); (case e181_0 => (refine' due_btw ?q180_0 ?q180_1 ?q180_2 ?q180_3; (case q180_0 => assumption); (case q180_1 => exact rfl); (case q180_2 => exact rfl); (case q180_3 => (refine' dues_opt ?q179_0 ?q179_1; (case q179_0 => (refine' OptDue.mono ?om1 ?om2; (case om1 => assumption); (case om2 => ktn_no "Mine.sub"))); (case q179_1 => (refine' OptDue.mono ?om1 ?om2; (case om1 => assumption); (case om2 => ktn_no "Mine.sub"))))))); (case e181_1 => ktn_no "Mine.apart"))
  | null hl =>
    cases hR with
    | null hm h1 =>
      k_dflt (refine' enterM (binds := [(Str.ofString "told", _), (Str.ofString "columns", _)]) ?k0 ?k1 ?k2 ?k3 ?k4 ?k5 ?kA ?kF ?kK ?k6 ?k7 ?k8 ?k9 ?kB ?c2 ?_; (case k0 => exact rfl); (case kA => exact rfl); (case kF => exact rfl); (case kK => assumption); (case k1 => k_asm); (case k2 => k_asm); (case k3 => k_asm); (case k4 => k_asm); (case k5 => k_asm); (case k6 => k_is); (case k7 => k_is); (case k8 => exact Nat.le_of_ble_eq_true rfl); (case k9 => kernel_rfl!); (case kB => kernel_rfl!); (case c2 => kernel_rfl!); k_whole; intro g' L' h' t' FG' F' N' B' X' T' e9 A9 qk ek)
      k_steps
      (refine' ret _ _ _ _ _ _ ?e183_0 ?e183_1 ?eF183 ?eN183; (case eN183 => (refine' keep0 ?q182_0 ?q182_1 ?q182_2; (case q182_0 => assumption); (case q182_1 => k_mem); (case q182_2 => ktn_no "Mine.sub"))); (case eF183 => k_asm); (case e183_0 => exact DuesIn.nil); (case e183_1 => ktn_no "Mine.apart"))
  | inn hl hlen hds => exact duein_c ⟨B, F, X, T, hk, by decide, by decide⟩ N hR (Cond.Ok.inn hl hlen hds) hC hK ret
end
example : True := by
  (k_with "CR" => (((with_reducible show wpAny _ _ (call (Value.ref 766) _) _ _ _); k_dflt (refine' due_c ?cz164 ?Nz164 ?p0z164 ?p1z164 ?p2z164 ?p3z164 ?_; (case cz164 => ktn_no "Mine.cx"); (case Nz164 => k_asm); (case p0z164 => ktn_no "Mine.rel"); (case p1z164 => k_asm); (case p2z164 => ktn_no "Mine.rel"); (case p3z164 => k_asm); k_whole); intro la' vs' n' tl' h' tk' hd' ha' F' N'; (try k_sweep); ktn_no "Mine.aft")))
  trivial
-- B30
/-- the numbers that a dict of numbers holds -/
noncomputable def addN (kvs : List (Int × Value)) : Option Int → List (Int × Value)
  | none => kvs | some x => stored kvs x (.bool true)
section
variable {h₀ h : Heap} {L I : Addr} {q it : Obj} {p1 p2 p3 p4 : Addr × Obj} {r : List (Addr × Obj)} {rest : (Str → Option Value) → List (Addr × Obj) → Prop} {s₁ : Shared} {h' : Heap} {tk : Nat} {m' : Str → Option Value}
theorem unrW2 (F : Fr h₀ L h' m') (N : News h₀ L h' (p1 :: (I, it) :: r)) (off : ∀ p ∈ p1 :: r, p.1 ≠ I) (k : rest m' (p1 :: r)) : UnrEndW h₀ L s₁ [(I, it)] rest { s₁ with heap := h', toks := tk } :=
  unrW1 F (rot1 N) off k
end
theorem setD {prog : Program} {w : World} {A : Around} {E : Value → Shared → Prop} {s : Shared} {h₀ : Heap} {L d : Addr} {m : Str → Option Value} {news : List (Addr × Obj)} {g : Obj → List (Addr × Obj)} {o : Obj} {kvs : List (Int × Value)} {k : Int} {t : Tok} {v : Value} {Q : Unit → Shared → Prop} (F : Fr h₀ L s.heap m) (N : News h₀ L s.heap news) (hd : o.IsDictOf (PySem.intKind prog w) kvs) (U : UpdF d o news g) (hsz : kvs.length ≤ sizeLine)
    (h : ∀ h' o', Fr h₀ L h' m → News h₀ L h' (g o') → o'.IsDictOf (PySem.intKind prog w) (stored kvs k v) → Q () { s with heap := h', toks := s.toks + 1 }) : wpAny (model prog w) A (setItem (.ref d) (.int k t) v) Q E s := kda_set F N U hd (intKind_is _ _ _ _) hsz h
-- P9
section
example : True := by
  (k_with "L165" => (((rename Fr _ _ _ _ => lF'); (with_unfolding_all refine' For_turns lF' ?_; k_whole))))
  trivial
local macro_rules | `(tactic| walk_at "exec For Name Call cons nil") => `(tactic| k_extra "L165")
example : True := by
  (k_with "L166" => (((with_reducible show wpAny _ _ (pyIter (Value.ref _)) (fun it s₂ => TurnsAt _ _ _ _ _ _ _ _ _ it s₂) _ _); k_dflt (refine' iter_listTurns ?hhz166 ?Fz166 ?Nz166 ?hmz166 ?hcz166 ?hdz166 ?_; (case hhz166 => rfl); (case Fz166 => k_asm); (case Nz166 => k_asm); (case hmz166 => k_mem); (case hcz166 => rfl); (case hdz166 => rfl)); intro I' l9; (try k_lt l9))))
  trivial
local macro_rules | `(tactic| walk_at "pyIter ref") => `(tactic| k_extra "L166")
example : True := by
  (k_with "L167" => ((refine' unrW2 ?Fz167 ?Nz167 ?offz167 ?_; (case Fz167 => k_asm); (case Nz167 => k_asm); (case offz167 => k_all); (refine And.intro (And.intro (by k_mem) trivial) ?_))))
  trivial
local macro_rules | `(tactic| walk_at "UnrEndW") => `(tactic| k_extra "L167")
example : True := by
  (k_with "L168" => ((k_dflt (refine' setD ?Fz168 ?Nz168 ?dz168 ?Uz168 ?zz168 ?_; (case Fz168 => k_asm); (case Nz168 => k_asm); (case dz168 => assumption); (case Uz168 => k_updF); (case zz168 => (rw [sizeLine_eq]; omega))); intro h' o' F' N' hd'; (try dsimp only at N'))))
  trivial
local macro_rules | `(tactic| walk_at "setItem ref int") => `(tactic| k_extra "L168")
theorem col0_c {prog : Program} {w : World} {dp un : Nat} {gd : Option (List Code)} {cn : Str} {cs : Scope} {a : Addr} {ccd : Value} {cl : List (Str × Addr)} {outer : List Env} {A₀ : Around} {base h₀ : Heap} {L : Addr} {m : Str → Option Value} {p : Program} {loose : List Str} {mean : ExcName → Option Value} {mg mb : Str → Option Value} {hp : Heap} {gs : Array GenState} {dr : Drawn} {tk : Nat} {os : OsState} {Q E : Value → Shared → Prop} {rest : List (Addr × Obj)} {fa : Addr} {o : Obj} {kvs : List (Int × Value)} {v : Value} {d : Side} {k : Cols}
    (c : Cx w dp un 885 8920 cs A₀ base outer h₀ L hp m p loose mean mg mb) (N : News h₀ L hp ((fa, o) :: rest)) (hne : ∀ p ∈ rest, p.1 ≠ fa) (hd : o.IsDictOf (PySem.intKind prog w) kvs) (hz : kvs.length ≤ 8) (hR : NodeIn w k rest v d) (hB : d.Base)
    (ret : ∀ o₁ h₁ tk₁, o₁.IsDictOf (PySem.intKind prog w) (addN kvs d.src) → Fr h₀ L h₁ m → News h₀ L h₁ ((fa, o₁) :: rest) → Q .none ⟨h₁, gs, dr, tk₁, os⟩) :
    wpAny (model prog w) (ktrTop dp un gd cn cs L a ccd cl outer) (call (.ref 502) [v, .ref fa]) Q E ⟨hp, gs, dr, tk, os⟩ := by
  obtain ⟨B, F, X, T, hk, hdp, hun⟩ := c
  refine lowerK hdp hun ?_
  rcases hB with i | lv
  · cases hR with
    | col _ hm hm2 =>
      have hbt := i.bt
      have hbc := i.bc
      k_dflt (refine' enterM (binds := [(Str.ofString "expr", _), (Str.ofString "found", _)]) ?k0 ?k1 ?k2 ?k3 ?k4 ?k5 ?kA ?kF ?kK ?k6 ?k7 ?k8 ?k9 ?kB ?c2 ?_; (case k0 => exact rfl); (case kA => exact rfl); (case kF => exact rfl); (case kK => assumption); (case k1 => k_asm); (case k2 => k_asm); (case k3 => k_asm); (case k4 => k_asm); (case k5 => k_asm); (case k6 => k_is); (case k7 => k_is); (case k8 => exact Nat.le_of_ble_eq_true rfl); (case k9 => kernel_rfl!); (case kB => kernel_rfl!); (case c2 => kernel_rfl!); k_whole; intro g' L' h' t' FG' F' N' B' X' T' e9 A9 qk ek)
      k_steps
      (refine' ret _ _ _ ?e184_0 ?eF184 ?eN184; (case eN184 => ktn_no "Mine.N"); (case eF184 => k_asm); (case e184_0 => assumption))
  · cases hR with
    | lit hm hm2 hv =>
      k_dflt (refine' enterM (binds := [(Str.ofString "expr", _), (Str.ofString "found", _)]) ?k0 ?k1 ?k2 ?k3 ?k4 ?k5 ?kA ?kF ?kK ?k6 ?k7 ?k8 ?k9 ?kB ?c2 ?_; (case k0 => exact rfl); (case kA => exact rfl); (case kF => exact rfl); (case kK => assumption); (case k1 => k_asm); (case k2 => k_asm); (case k3 => k_asm); (case k4 => k_asm); (case k5 => k_asm); (case k6 => k_is); (case k7 => k_is); (case k8 => exact Nat.le_of_ble_eq_true rfl); (case k9 => kernel_rfl!); (case kB => kernel_rfl!); (case c2 => kernel_rfl!); k_whole; intro g' L' h' t' FG' F' N' B' X' T' e9 A9 qk ek)
      k_steps
      (refine' ret _ _ _ ?e185_0 ?eF185 ?eN185; (case eN185 => ktn_no "Mine.N"); (case eF185 => k_asm); (case e185_0 => assumption))
example : True := by
  (k_with "L169" => (((with_reducible show wpAny _ _ (call (Value.ref 502) _) _ _ _); k_dflt (refine' col0_c ?cz169 ?Nz169 ?p0z169 ?p1z169 ?p2z169 ?p3z169 ?p4z169 ?_; (case cz169 => ktn_no "Mine.cx"); (case Nz169 => ktn_no "Mine.src"); (case p0z169 => k_all); (case p1z169 => assumption); (case p2z169 => first | assumption | exact Nat.le_of_ble_eq_true rfl | omega | ktn_no "Mine.len9"); (case p3z169 => ktn_no "Mine.rel"); (case p4z169 => k_asm); k_whole); intro o' h' tk' hd' F' N'; (try k_sweep); (try clear hd); ktn_no "Mine.aft")))
  trivial
local macro_rules | `(tactic| walk_at "call ref") => `(tactic| k_extra "L169")
theorem col1_c {prog : Program} {w : World} {dp un : Nat} {gd : Option (List Code)} {cn : Str} {cs : Scope} {a : Addr} {ccd : Value} {cl : List (Str × Addr)} {outer : List Env} {A₀ : Around} {base h₀ : Heap} {L : Addr} {m : Str → Option Value} {p : Program} {loose : List Str} {mean : ExcName → Option Value} {mg mb : Str → Option Value} {hp : Heap} {gs : Array GenState} {dr : Drawn} {tk : Nat} {os : OsState} {Q E : Value → Shared → Prop} {rest : List (Addr × Obj)} {fa : Addr} {o : Obj} {kvs : List (Int × Value)} {v : Value} {d : Side} {k : Cols}
    (c : Cx w dp un 870 8840 cs A₀ base outer h₀ L hp m p loose mean mg mb) (N : News h₀ L hp ((fa, o) :: rest)) (hne : ∀ p ∈ rest, p.1 ≠ fa) (hd : o.IsDictOf (PySem.intKind prog w) kvs) (hz : kvs.length ≤ 8) (hR : NodeIn w k rest v d) (hB : d.Ok)
    (ret : ∀ o₁ h₁ tk₁, o₁.IsDictOf (PySem.intKind prog w) (addN kvs d.src) → Fr h₀ L h₁ m → News h₀ L h₁ ((fa, o₁) :: rest) → Q .none ⟨h₁, gs, dr, tk₁, os⟩) :
    wpAny (model prog w) (ktrTop dp un gd cn cs L a ccd cl outer) (call (.ref 502) [v, .ref fa]) Q E ⟨hp, gs, dr, tk, os⟩ := by
  obtain ⟨B, F, X, T, hk, hdp, hun⟩ := c
  refine lowerK hdp hun ?_
  rcases hB with hB | ⟨hB, ht⟩ | ⟨hB, ht⟩
  · exact col0_c ⟨B, F, X, T, hk, by decide, by decide⟩ N hne hd hz hR hB ret
  · cases hR with
    | cast hm hm2 hx =>
      k_dflt (refine' enterM (binds := [(Str.ofString "expr", _), (Str.ofString "found", _)]) ?k0 ?k1 ?k2 ?k3 ?k4 ?k5 ?kA ?kF ?kK ?k6 ?k7 ?k8 ?k9 ?kB ?c2 ?_; (case k0 => exact rfl); (case kA => exact rfl); (case kF => exact rfl); (case kK => assumption); (case k1 => k_asm); (case k2 => k_asm); (case k3 => k_asm); (case k4 => k_asm); (case k5 => k_asm); (case k6 => k_is); (case k7 => k_is); (case k8 => exact Nat.le_of_ble_eq_true rfl); (case k9 => kernel_rfl!); (case kB => kernel_rfl!); (case c2 => kernel_rfl!); k_whole; intro g' L' h' t' FG' F' N' B' X' T' e9 A9 qk ek)
      k_steps
      (refine' ret _ _ _ ?e186_0 ?eF186 ?eN186; (case eN186 => ktn_no "Mine.N"); (case eF186 => k_asm); (case e186_0 => assumption))
  · cases hR with
    | coll hm hm2 hx =>
      k_dflt (refine' enterM (binds := [(Str.ofString "expr", _), (Str.ofString "found", _)]) ?k0 ?k1 ?k2 ?k3 ?k4 ?k5 ?kA ?kF ?kK ?k6 ?k7 ?k8 ?k9 ?kB ?c2 ?_; (case k0 => exact rfl); (case kA => exact rfl); (case kF => exact rfl); (case kK => assumption); (case k1 => k_asm); (case k2 => k_asm); (case k3 => k_asm); (case k4 => k_asm); (case k5 => k_asm); (case k6 => k_is); (case k7 => k_is); (case k8 => exact Nat.le_of_ble_eq_true rfl); (case k9 => kernel_rfl!); (case kB => kernel_rfl!); (case c2 => kernel_rfl!); k_whole; intro g' L' h' t' FG' F' N' B' X' T' e9 A9 qk ek)
      k_steps
      (refine' ret _ _ _ ?e187_0 ?eF187 ?eN187; (case eN187 => ktn_no "Mine.N"); (case eF187 => k_asm); (case e187_0 => assumption))
end
example : True := by
  (k_with "CR" => (((with_reducible show wpAny _ _ (call (Value.ref 502) _) _ _ _); k_dflt (refine' col1_c ?cz170 ?Nz170 ?p0z170 ?p1z170 ?p2z170 ?p3z170 ?p4z170 ?_; (case cz170 => ktn_no "Mine.cx"); (case Nz170 => ktn_no "Mine.src"); (case p0z170 => k_all); (case p1z170 => assumption); (case p2z170 => first | assumption | exact Nat.le_of_ble_eq_true rfl | omega | ktn_no "Mine.len9"); (case p3z170 => ktn_no "Mine.rel"); (case p4z170 => k_asm); k_whole); intro o' h' tk' hd' F' N'; (try k_sweep); (try clear hd); ktn_no "Mine.aft")))
  trivial
-- B31
section
variable {prog : Program} {w : World} {A : Around} {E : Value → Shared → Prop} {s : Shared} {h₀ : Heap} {L d : Addr} {m : Str → Option Value} {news : List (Addr × Obj)} {o : Obj} {kvs : List (Int × Value)} {Q : Value → Shared → Prop}
theorem sort_step {B : Addr} {vs : List Value} {n : Nat} {ns : List Int} (F : Fr h₀ L s.heap m) (N : News h₀ L s.heap ((B, listOf vs.toArray n) :: news)) (hlt : ∀ q ∈ news, q.1 < B) (hI : IntsAre vs ns) (h64 : vs.length < 64)
    (h : ∀ c h' (vs' : List Value) (ns' : List Int), Fr h₀ L h' m → News h₀ L h' ((B, listOf vs'.toArray c) :: news) → IntsAre vs' ns' → ns'.Perm ns → Q .none { s with heap := h' }) :
    wpAny (model prog w) A (call (.builtin "list.sort") [.ref B]) Q E s := by
  have z := N (B, listOf vs.toArray n) (List.mem_cons_self ..)
  refine wpAny_call_entry PyProof.Rows.slot_list_sort ⟨_, z.1, rfl⟩ PyProof.Rows.entry_list_sort (list_sort_tree (n := n) (vs := vs) z.1 hI h64 fun out ns' hI' hp _ => ⟨.none, rfl, ?_⟩) (PyProof.Rows.args_list_sort _)
  obtain ⟨e, he⟩ := sortedHeap_at (out := out) z.1
  have old : ∀ b ob, b ≠ B → s.heap.get? b = some ob → (sortedHeap s.heap B vs out).get? b = some ob := fun b ob hb e => by rw [sortedHeap_old hb (Heap.lt_size e)]; exact e
  refine h e _ out.toList ns' ⟨F.ns.at' fun ob e => old L ob (Ne.symm z.2.1) e, fun b ob e => old b ob (fun q => by subst q; rw [z.2.2] at e; cases e) (F.keep b ob e), F.above⟩ (fun p hp => ?_) hI' hp
  rcases List.mem_cons.mp hp with rfl | hp
  · exact ⟨he, z.2⟩
  · exact ⟨old _ _ (Nat.ne_of_lt (hlt p hp)) (N p (List.mem_cons_of_mem _ hp)).1, (N p (List.mem_cons_of_mem _ hp)).2⟩
theorem ints_of : ∀ {vs : List Value} {kvs : List (Int × Value)}, vs.length = kvs.length → (∀ (j : Nat) (v : Value), vs[j]? = some v → ∃ k x, kvs[j]? = some (k, x) ∧ (PySem.intKind prog w).is k v = true) → IntsAre vs (kvs.map (·.1))
  | [], [], _, _ => IntsAre.nil
  | [], _ :: _, h, _ => by simp at h
  | _ :: _, [], h, _ => by simp at h
  | v :: vs, (k, x) :: kvs, h, hj => by
    obtain ⟨k', x', e, hk⟩ := hj 0 v rfl
    simp only [List.getElem?_cons_zero, Option.some.injEq, Prod.mk.injEq] at e
    obtain ⟨rfl, rfl⟩ := e
    obtain ⟨t, rfl⟩ := Value.isInt_shape hk
    exact IntsAre.cons _ _ (ints_of (by simpa using h) fun j u hu => by simpa using hj (j + 1) u (by simpa using hu))
theorem sorted_nums (hh : A.handled = none) (F : Fr h₀ L s.heap m) (N : News h₀ L s.heap news) (hm : (d, o) ∈ news) (hd : o.IsDictOf (PySem.intKind prog w) kvs) (lo : (d == sysModules) = false) (hlen : kvs.length ≤ 8)
    (h : ∀ B c h' tk (vs : List Value) (ns : List Int), Fr h₀ L h' m → News h₀ L h' ((B, listOf vs.toArray c) :: news) → (∀ q ∈ news, q.1 < B) → IntsAre vs ns → ns.Perm (kvs.map (·.1)) → Q (.ref B) { s with heap := h', toks := tk }) :
    wpAny (model prog w) A (call (.builtin "sorted") [.ref d]) Q E s := by
  obtain ⟨ep, hat⟩ := (kda_dict N hm hd).dictAt
  refine kdu_sorted (kdl_dict (knd := PySem.intKind prog w) (kvs := kvs) (ep := ep) lo) hh F N hat (kdl_size (by omega)) fun B h' tk vs F' N' l1 hl hv => ?_
  have hI := ints_of hl hv
  exact sort_step F' N' l1 hI (by omega) fun c h2 vs' ns' F2 N2 hI2 hp => h B c h2 tk vs' ns' F2 N2 l1 hI2 hp
end
noncomputable def Side.num : Side → Option Int := Side.src
theorem own_src_iff (d : Side) : (d.own = true) ↔ d.src = some 1 := by
  induction d with
  | col i => simp [Side.own, Side.src]
  | lit v => simp [Side.own, Side.src]
  | cast x ty ih => exact ih
  | coll x c ih => exact ih
theorem stored_nil {x : Int} {v : Value} : stored ([] : List (Int × Value)) x v = [(x, v)] := by simp [stored]
theorem nums_any {d : Side} {ns : List Int} (hp : ns.Perm ((addN [] d.src).map (·.1))) : ns.any (· == 1) = d.own := by
  have e : ns.any (· == 1) = ((addN [] d.src).map (·.1)).any (· == 1) := by
    rw [Bool.eq_iff_iff, List.any_eq_true, List.any_eq_true]
    exact ⟨fun ⟨x, hx, e⟩ => ⟨x, hp.mem_iff.mp hx, e⟩, fun ⟨x, hx, e⟩ => ⟨x, hp.mem_iff.mpr hx, e⟩⟩
  rw [e]
  have h := own_src_iff d
  cases hs : d.src with
  | none =>
    rw [hs] at h
    cases ho : d.own
    · rfl
    · rw [ho] at h; exact absurd (h.mp rfl) (by simp)
  | some x =>
    rw [hs] at h
    show (List.map (·.1) (stored [] x (.bool true))).any _ = _
    rw [stored_nil]
    simp only [List.map_cons, List.map_nil, List.any_cons, List.any_nil, Bool.or_false]
    cases ho : d.own
    · rw [ho] at h
      rw [beq_eq_false_iff_ne]
      intro e; subst e; exact absurd (h.mpr rfl) Bool.false_ne_true
    · rw [ho] at h
      have := h.mp rfl
      simpa using this
theorem notin_own {prog : Program} {w : World} {A : Around} {E : Value → Shared → Prop} {s : Shared} {h₀ : Heap} {L B : Addr} {news : List (Addr × Obj)} {Q : Value → Shared → Prop} {vs : List Value} {ns : List Int} {c : Nat} {t : Tok} {d : Side}
    (N : News h₀ L s.heap news) (hm : (B, listOf vs.toArray c) ∈ news) (hI : IntsAre vs ns) (hp : ns.Perm ((addN [] d.src).map (·.1))) (h : Q (.bool (!d.own)) s) : wpAny (model prog w) A (compareOp .NotIn (.int 1 t) (.ref B)) Q E s :=
  notin_list_ints (News.isList N hm) hI (by rw [nums_any hp]; exact h)
theorem stored_len {kvs : List (Int × Value)} {x : Int} {v : Value} : (stored kvs x v).length ≤ kvs.length + 1 := stored_length_le _ _ _
theorem addN_len {kvs : List (Int × Value)} {x : Option Int} : (addN kvs x).length ≤ kvs.length + 1 := by
  cases x with
  | none => exact Nat.le_succ _
  | some x => exact stored_len
-- P10
section
example : True := by
  (k_with "L171" => ((k_dflt (refine' sorted_nums ?hhz171 ?Fz171 ?Nz171 ?mz171 ?dz171 ?loz171 ?lenz171 ?_; (case hhz171 => rfl); (case Fz171 => k_asm); (case Nz171 => k_asm); (case mz171 => k_mem); (case dz171 => assumption); (case loz171 => assumption); (case lenz171 => first | assumption | exact Nat.le_trans addN_len (by decide))); intro B' c' h' tk' vs' ns' F' N' l1 hI' hp'; (try k_lt l1))))
  trivial
local macro_rules | `(tactic| walk_at "call builtin:sorted") => `(tactic| k_extra "L171")
theorem outS_c {prog : Program} {w : World} {dp un : Nat} {gd : Option (List Code)} {cn : Str} {cs : Scope} {a : Addr} {ccd : Value} {cl : List (Str × Addr)} {outer : List Env} {A₀ : Around} {base h₀ : Heap} {L : Addr} {m : Str → Option Value} {p : Program} {loose : List Str} {mean : ExcName → Option Value} {mg mb : Str → Option Value} {hp : Heap} {gs : Array GenState} {dr : Drawn} {tk : Nat} {os : OsState} {Q E : Value → Shared → Prop} {news : List (Addr × Obj)} {v : Value} {d : Side} {k : Cols}
    (c : Cx w dp un 855 8760 cs A₀ base outer h₀ L hp m p loose mean mg mb) (N : News h₀ L hp (news)) (hR : NodeIn w k news v d) (hB : d.Ok)
    (ret : ∀ B c vs ns h₁ tk₁, IntsAre vs ns → ns.Perm ((addN [] d.src).map (·.1)) → (∀ p ∈ news, p.1 ≠ B) → Fr h₀ L h₁ m → News h₀ L h₁ ((B, listOf vs.toArray c) :: news) → Q (.ref B) ⟨h₁, gs, dr, tk₁, os⟩) :
    wpAny (model prog w) (ktrTop dp un gd cn cs L a ccd cl outer) (call (.ref 495) [v]) Q E ⟨hp, gs, dr, tk, os⟩ := by
  obtain ⟨B, F, X, T, hk, hdp, hun⟩ := c
  refine lowerK hdp hun ?_
  k_dflt (refine' enterM (binds := [(Str.ofString "expr", _)]) ?k0 ?k1 ?k2 ?k3 ?k4 ?k5 ?kA ?kF ?kK ?k6 ?k7 ?k8 ?k9 ?kB ?c2 ?_; (case k0 => exact rfl); (case kA => exact rfl); (case kF => exact rfl); (case kK => assumption); (case k1 => k_asm); (case k2 => k_asm); (case k3 => k_asm); (case k4 => k_asm); (case k5 => k_asm); (case k6 => k_is); (case k7 => k_is); (case k8 => exact Nat.le_of_ble_eq_true rfl); (case k9 => kernel_rfl!); (case kB => kernel_rfl!); (case c2 => kernel_rfl!); k_whole; intro g' L' h' t' FG' F' N' B' X' T' e9 A9 qk ek)
  k_steps
  (refine' ret _ _ _ _ _ _ ?e188_0 ?e188_1 ?e188_2 ?eF188 ?eN188; (case eN188 => ktn_no "Mine.N"); (case eF188 => k_asm); (case e188_0 => assumption); (case e188_1 => assumption); (case e188_2 => k_all))
example : True := by
  (k_with "L172" => (((with_reducible show wpAny _ _ (call (Value.ref 495) _) _ _ _); k_dflt (refine' outS_c ?cz172 ?Nz172 ?p0z172 ?p1z172 ?_; (case cz172 => ktn_no "Mine.cx"); (case Nz172 => k_asm); (case p0z172 => ktn_no "Mine.rel"); (case p1z172 => k_asm); k_whole); intro B' c' vs' ns' h' tk' hI' hp' l9 F' N'; (try k_sweep); ktn_no "Mine.aft")))
  trivial
local macro_rules | `(tactic| walk_at "call ref") => `(tactic| k_extra "L172")
example : True := by
  (k_with "L173" => ((k_dflt (refine' notin_own ?Nz173 ?mz173 ?iz173 ?pz173 ?_; (case Nz173 => k_asm); (case mz173 => k_mem); (case iz173 => assumption); (case pz173 => assumption)))))
  trivial
local macro_rules | `(tactic| walk_at "compareOp NotIn int ref") => `(tactic| k_extra "L173")
theorem isfree_c {prog : Program} {w : World} {dp un : Nat} {gd : Option (List Code)} {cn : Str} {cs : Scope} {a : Addr} {ccd : Value} {cl : List (Str × Addr)} {outer : List Env} {A₀ : Around} {base h₀ : Heap} {L : Addr} {m : Str → Option Value} {p : Program} {loose : List Str} {mean : ExcName → Option Value} {mg mb : Str → Option Value} {hp : Heap} {gs : Array GenState} {dr : Drawn} {tk : Nat} {os : OsState} {Q E : Value → Shared → Prop} {news : List (Addr × Obj)} {v : Value} {d : Side} {k : Cols} {tn : Tok}
    (c : Cx w dp un 840 8680 cs A₀ base outer h₀ L hp m p loose mean mg mb) (N : News h₀ L hp (news)) (hR : NodeIn w k news v d) (hB : d.Ok)
    (ret : ∀  h₁ tk₁, Fr h₀ L h₁ m → News h₀ L h₁ news → Q (.bool (!d.own)) ⟨h₁, gs, dr, tk₁, os⟩) :
    wpAny (model prog w) (ktrTop dp un gd cn cs L a ccd cl outer) (call (.ref 554) [v, .int 1 tn]) Q E ⟨hp, gs, dr, tk, os⟩ := by
  obtain ⟨B, F, X, T, hk, hdp, hun⟩ := c
  refine lowerK hdp hun ?_
  k_dflt (refine' enterM (binds := [(Str.ofString "expr", _), (Str.ofString "number", _)]) ?k0 ?k1 ?k2 ?k3 ?k4 ?k5 ?kA ?kF ?kK ?k6 ?k7 ?k8 ?k9 ?kB ?c2 ?_; (case k0 => exact rfl); (case kA => exact rfl); (case kF => exact rfl); (case kK => assumption); (case k1 => k_asm); (case k2 => k_asm); (case k3 => k_asm); (case k4 => k_asm); (case k5 => k_asm); (case k6 => k_is); (case k7 => k_is); (case k8 => exact Nat.le_of_ble_eq_true rfl); (case k9 => kernel_rfl!); (case kB => kernel_rfl!); (case c2 => kernel_rfl!); k_whole; intro g' L' h' t' FG' F' N' B' X' T' e9 A9 qk ek)
  k_steps
  (refine' ret _ _  ?eF189 ?eN189; (case eN189 => ktn_no "Mine.N"); (case eF189 => k_asm))
end
example : True := by
  (k_with "CR" => (((with_reducible show wpAny _ _ (call (Value.ref 495) _) _ _ _); k_dflt (refine' outS_c ?cz174 ?Nz174 ?p0z174 ?p1z174 ?_; (case cz174 => ktn_no "Mine.cx"); (case Nz174 => k_asm); (case p0z174 => ktn_no "Mine.rel"); (case p1z174 => k_asm); k_whole); intro B' c' vs' ns' h' tk' hI' hp' l9 F' N'; (try k_sweep); ktn_no "Mine.aft")))
  trivial
example : True := by
  (k_with "CR" => (((with_reducible show wpAny _ _ (call (Value.ref 554) _) _ _ _); k_dflt (refine' isfree_c ?cz175 ?Nz175 ?p0z175 ?p1z175 ?_; (case cz175 => ktn_no "Mine.cx"); (case Nz175 => k_asm); (case p0z175 => ktn_no "Mine.rel"); (case p1z175 => k_asm); k_whole); intro h' tk' F' N'; (try k_sweep); ktn_no "Mine.aft")))
  trivial
-- B27
noncomputable def Cond.kids : Cond → List Side
  | .op _ l r => [l, r] | .btw v lo hi _ => [v, lo, hi] | .inn v ds _ => v :: ds | .null v => [v]
theorem Cond.kids_ok {d : Cond} (h : d.Ok) : ∀ x ∈ d.kids, x.Ok := by
  cases h with
  | op _ hl hr => exact List.forall_mem_cons.mpr ⟨hl, List.forall_mem_cons.mpr ⟨hr, List.forall_mem_nil _⟩⟩
  | btw h1 h2 h3 => exact List.forall_mem_cons.mpr ⟨h1, List.forall_mem_cons.mpr ⟨h2, List.forall_mem_cons.mpr ⟨h3, List.forall_mem_nil _⟩⟩⟩
  | inn h1 _ h3 => exact List.forall_mem_cons.mpr ⟨h1, fun x hx => Side.Ok.base (h3 x hx)⟩
  | null h1 => exact List.forall_mem_cons.mpr ⟨h1, List.forall_mem_nil _⟩
theorem Cond.kids_len {d : Cond} (h : d.Ok) : d.kids.length ≤ 3 := by
  cases h with
  | op _ hl hr => exact Nat.le_of_ble_eq_true rfl
  | btw h1 h2 h3 => exact Nat.le_refl _
  | inn h1 h2 h3 => exact Nat.succ_le_succ h2
  | null h1 => exact Nat.le_of_ble_eq_true rfl
theorem NodesIn.len {w : World} {k : Cols} {news : List (Addr × Obj)} {vs : List Value} {ds : List Side} (h : NodesIn w k news vs ds) : vs.length = ds.length := by
  induction h with
  | nil => rfl
  | cons _ _ ih => simp only [List.length_cons, ih]
noncomputable def NdJ (prog : Program) (w : World) (fa : Addr) (news0 : List (Addr × Obj)) (m₀ : Str → Option Value) (x : Str) (n : Nat) (m : Str → Option Value) (news : List (Addr × Obj)) : Prop :=
  ∃ o kvs sv, news = (fa, o) :: news0 ∧ o.IsDictOf (PySem.intKind prog w) kvs ∧ kvs.length + n ≤ 8 ∧ m = updO m₀ x sv
theorem ndJ_start {prog : Program} {w : World} {fa : Addr} {news0 : List (Addr × Obj)} {m₀ : Str → Option Value} {x : Str} {n : Nat} {o : Obj} (h : o.IsDictOf (PySem.intKind prog w) []) (hn : n ≤ 8) (hm : m₀ x = none) : NdJ prog w fa news0 m₀ x n m₀ ((fa, o) :: news0) :=
  ⟨o, [], none, rfl, h, by simpa using hn, updO_none hm⟩
section
variable {prog : Program} {w : World} {A : Around} {E : Value → Shared → Prop} {s : Shared} {h₀ : Heap} {env : Env} {target : Expr} {body : List Stmt} {Q : Flow → Shared → Prop}
theorem nodes_ind {k : Cols} {I fa : Addr} {ty : String} {news0 rest keep : List (Addr × Obj)} {m₀ : Str → Option Value} {x : Str} (hkeep : ∀ o, SubL keep ((fa, o) :: news0))
    (turn : ∀ v d o kvs sv (it : Obj) h tk (nx : (Str → Option Value) → List (Addr × Obj) → Prop), NodeIn w k rest v d → d.Ok → o.IsDictOf (PySem.intKind prog w) kvs → kvs.length ≤ 8 → (∀ o', o'.IsDictOf (PySem.intKind prog w) (addN kvs d.src) → nx (fun y => if y = x then some v else updO m₀ x sv y) ((fa, o') :: news0)) → it.cls = .type ty →
      Fr h₀ env.locals h (updO m₀ x sv) → News h₀ env.locals h ((I, it) :: (fa, o) :: news0) →
      wpAny (model prog w) A (assign target env v) (fun _ s₂ => wpAny (model prog w) A (execs body env) (UnrPostW h₀ env.locals { s with heap := h, toks := tk } [(I, it)] nx Q) E s₂) E { s with heap := h, toks := tk })
    (done : ∀ o kvs sv h tk, o.IsDictOf (PySem.intKind prog w) kvs → kvs.length ≤ 8 → Fr h₀ env.locals h (updO m₀ x sv) → News h₀ env.locals h ((fa, o) :: news0) → Q .next { s with heap := h, toks := tk })
    {vs : List Value} {ds : List Side} (hn : NodesIn w k rest vs ds) : (∀ d ∈ ds, d.Ok) → ∀ m news, NdJ prog w fa news0 m₀ x ds.length m news → ItemsRest prog w A E h₀ env target body Q s [(I, ty)] keep (vs.map .val) m news := by
  induction hn with
  | nil =>
    rintro _ m news ⟨o, kvs, sv, rfl, hd, hl, rfl⟩ h tk F N
    exact done o kvs sv h tk hd (by simpa using hl) F N
  | @cons v1 vs1 d1 ds1 hv _ ih =>
    rintro hok m news ⟨o, kvs, sv, rfl, hd, hl, rfl⟩
    rw [List.length_cons] at hl
    refine ItemsRest.val fun h tk F it hit N => ?_
    refine wpAny_mono (turn _ _ o kvs sv it h tk (NdJ prog w fa news0 m₀ x ds1.length) hv (hok _ (List.mem_cons_self ..)) hd (by omega) (fun o' ho' => ⟨o', _, _, rfl, ho', ?_, updO_set⟩) hit F N) (fun _ s₂ h₂ => wpAny_mono h₂ (fun f s₃ h₃ => ?_) fun _ _ e => e) fun _ _ e => e
    · exact Nat.le_trans (Nat.add_le_add_right addN_len _) (by omega)
    · cases f with
      | ret v => exact h₃
      | brk => exact h₃
      | next => obtain ⟨h', tk', m', news', e, F', N', off, r⟩ := h₃; have r' := r; obtain ⟨o2, _, _, rfl, _⟩ := r'; exact ⟨h', tk', m', _, e, F', N', off, hkeep o2, ih (fun d hd => hok d (List.mem_cons_of_mem _ hd)) _ _ r⟩
      | cont => obtain ⟨h', tk', m', news', e, F', N', off, r⟩ := h₃; have r' := r; obtain ⟨o2, _, _, rfl, _⟩ := r'; exact ⟨h', tk', m', _, e, F', N', off, hkeep o2, ih (fun d hd => hok d (List.mem_cons_of_mem _ hd)) _ _ r⟩
end
section
variable {prog : Program} {w : World} {A : Around} {E : Value → Shared → Prop} {s : Shared} {h₀ : Heap} {L : Addr} {m : Str → Option Value} {news : List (Addr × Obj)} {k : Cols} {v : Value} {d : Cond} {p : Program} {loose : List Str} {mean : ExcName → Option Value} {mg mb : Str → Option Value} {Q : Value → Shared → Prop}
theorem isx_name (F : Fr h₀ L s.heap m) (N : News h₀ L s.heap news) (X : (mk.heap_1 w.params).In h₀) (T : Top p loose mean mg mb h₀) (h : ExprIn w k news v d) (hQ : ∀ tk, Q (.bool false) { s with toks := tk }) : wpAny (model prog w) A (call (.builtin "isinstance") [v, .ref 116]) Q E s := by
  cases h with
  | op h1 h2 h3 h4 => walk1; exact hQ _
  | btw h1 h2 h3 h4 h5 => walk1; exact hQ _
  | inn h1 h2 h3 h4 h5 => walk1; exact hQ _
  | null h1 h2 h3 => walk1; exact hQ _
theorem isx_sel {T9 : Addr} {n : Nat} (F : Fr h₀ L s.heap m) (N : News h₀ L s.heap news) (X : (mk.heap_1 w.params).In h₀) (T : Top p loose mean mg mb h₀) (h : ExprIn w k news v d) (hT : (T9, tupO [.ref 246, .ref 272, .ref 298] n) ∈ news) (hQ : ∀ tk, Q (.bool false) { s with toks := tk }) : wpAny (model prog w) A (call (.builtin "isinstance") [v, .ref T9]) Q E s := by
  cases h with
  | op h1 h2 h3 h4 => walk1; k_steps; exact hQ _
  | btw h1 h2 h3 h4 h5 => walk1; k_steps; exact hQ _
  | inn h1 h2 h3 h4 h5 => walk1; k_steps; exact hQ _
  | null h1 h2 h3 => walk1; k_steps; exact hQ _
theorem add_few {a b : Addr} {vs1 vs2 : List Value} {n1 n2 : Nat} (F : Fr h₀ L s.heap m) (N : News h₀ L s.heap news) (ha : (a, listOf vs1.toArray n1) ∈ news) (hb : (b, listOf vs2.toArray n2) ∈ news) (l1 : vs1.length ≤ 4) (l2 : vs2.length ≤ 4)
    (h : ∀ D h', Fr h₀ L h' m → News h₀ L h' ((D, listOf (vs1 ++ vs2).toArray 0) :: news) → (∀ p ∈ news, p.1 < D) → Q (.ref D) { s with heap := h' }) : wpAny (model prog w) A (binaryOp .Add (.ref a) (.ref b)) Q E s :=
  kmk_add_lit F N (News.isList N ha) (News.isList N hb) rfl h (by rw [PySem.sizeLine_eq]; simp only [List.size_toArray]; omega)
end
theorem ltl (vs : List Value) : vs.toArray.toList = vs := rfl
theorem subL1 {p q : Addr × Obj} {r : List (Addr × Obj)} : SubL [q] (p :: q :: r) := ⟨List.mem_cons_of_mem _ (List.mem_cons_self ..), trivial⟩
-- P25
section
example : True := by
  (k_with "L176" => ((k_dflt (refine' kup_listOf ?Fz176 ?Nz176 ?bz176 ?ez176 ?_ ?zz176; (case Fz176 => k_asm); (case Nz176 => k_asm); (case bz176 => k_mem); (case ez176 => exact ltl _); (case zz176 => (rw [PySem.sizeLine_eq]; show List.length _ ≤ _; rw [NodesIn.len (by assumption)]; omega))); intro D' c' h' F' N' l1; (try k_lt l1); (try k_sweep))))
  trivial
local macro_rules | `(tactic| walk_at "call type:list") => `(tactic| k_extra "L176")
example : True := by
  (k_with "L177" => ((k_dflt (refine' add_few ?z1z177 ?z2z177 ?z3z177 ?z4z177 ?z5z177 ?z6z177 ?_; (case z1z177 => k_asm); (case z2z177 => k_asm); (case z3z177 => k_mem); (case z4z177 => k_mem); (case z5z177 => exact Nat.le_of_ble_eq_true rfl); (case z6z177 => (rw [NodesIn.len (by assumption)]; omega))); intro D' h' F' N' l1; (try k_lt l1); (try k_sweep))))
  trivial
local macro_rules | `(tactic| walk_at "binaryOp Add ref ref") => `(tactic| k_extra "L177")
theorem chil_c {prog : Program} {w : World} {dp un : Nat} {gd : Option (List Code)} {cn : Str} {cs : Scope} {a : Addr} {ccd : Value} {cl : List (Str × Addr)} {outer : List Env} {A₀ : Around} {base h₀ : Heap} {L : Addr} {m : Str → Option Value} {p : Program} {loose : List Str} {mean : ExcName → Option Value} {mg mb : Str → Option Value} {hp : Heap} {gs : Array GenState} {dr : Drawn} {tk : Nat} {os : OsState} {Q E : Value → Shared → Prop} {news led : List (Addr × Obj)} {v : Value} {d : Cond} {k : Cols}
    (c : Cx w dp un 870 8840 cs A₀ base outer h₀ L hp m p loose mean mg mb) (N : News h₀ L hp (led)) (hR : ExprIn w k news v d) (hsub : ∀ p ∈ news, p ∈ led) (hB : d.Ok)
    (ret : ∀ la vs n h₁ tk₁, NodesIn w k news vs d.kids → (∀ p ∈ led, p.1 < la) → Fr h₀ L h₁ m → News h₀ L h₁ ((la, listOf vs.toArray n) :: led) → Q (.ref la) ⟨h₁, gs, dr, tk₁, os⟩) :
    wpAny (model prog w) (ktrTop dp un gd cn cs L a ccd cl outer) (call (.ref 488) [v]) Q E ⟨hp, gs, dr, tk, os⟩ := by
  obtain ⟨B, F, X, T, hk, hdp, hun⟩ := c
  refine lowerK hdp hun ?_
  cases hB with
  | inn hl hlen hds =>
    cases hR with
    | inn hm hm2 h1 h2 h3 =>
      have g3 := hsub _ h2
      have g1 := hsub _ hm
      have g2 := hsub _ hm2
      k_dflt (refine' enterM (binds := [(Str.ofString "expr", _)]) ?k0 ?k1 ?k2 ?k3 ?k4 ?k5 ?kA ?kF ?kK ?k6 ?k7 ?k8 ?k9 ?kB ?c2 ?_; (case k0 => exact rfl); (case kA => exact rfl); (case kF => exact rfl); (case kK => assumption); (case k1 => k_asm); (case k2 => k_asm); (case k3 => k_asm); (case k4 => k_asm); (case k5 => k_asm); (case k6 => k_is); (case k7 => k_is); (case k8 => exact Nat.le_of_ble_eq_true rfl); (case k9 => kernel_rfl!); (case kB => kernel_rfl!); (case c2 => kernel_rfl!); k_whole; intro g' L' h' t' FG' F' N' B' X' T' e9 A9 qk ek)
      k_steps
      (refine' ret _ _ _ _ _ ?e190_0 ?e190_1 ?eF190 ?eN190; (case eN190 => ktn_no "Mine.N"); (case eF190 => k_asm); (case e190_0 => exact NodesIn.cons h1 h3); (case e190_1 => first | assumption | exact ktn_ltOf (by ktn_no "Mine.lt")))
  | op ho hl hr =>
    cases hR with
    | op hm hm2 h1 h2 =>
      have g1 := hsub _ hm
      have g2 := hsub _ hm2
      k_dflt (refine' enterM (binds := [(Str.ofString "expr", _)]) ?k0 ?k1 ?k2 ?k3 ?k4 ?k5 ?kA ?kF ?kK ?k6 ?k7 ?k8 ?k9 ?kB ?c2 ?_; (case k0 => exact rfl); (case kA => exact rfl); (case kF => exact rfl); (case kK => assumption); (case k1 => k_asm); (case k2 => k_asm); (case k3 => k_asm); (case k4 => k_asm); (case k5 => k_asm); (case k6 => k_is); (case k7 => k_is); (case k8 => exact Nat.le_of_ble_eq_true rfl); (case k9 => kernel_rfl!); (case kB => kernel_rfl!); (case c2 => kernel_rfl!); k_whole; intro g' L' h' t' FG' F' N' B' X' T' e9 A9 qk ek)
      k_steps
      (refine' ret _ _ _ _ _ ?e191_0 ?e191_1 ?eF191 ?eN191; (case eN191 => ktn_no "Mine.N"); (case eF191 => k_asm); (case e191_0 => exact NodesIn.cons h1 (NodesIn.cons h2 NodesIn.nil)); (case e191_1 => first | assumption | exact ktn_ltOf (by ktn_no "Mine.lt")))
  | btw hl hr hz =>
    cases hR with
    | btw hm hm2 h1 h2 h3 =>
      have g1 := hsub _ hm
      have g2 := hsub _ hm2
      k_dflt (refine' enterM (binds := [(Str.ofString "expr", _)]) ?k0 ?k1 ?k2 ?k3 ?k4 ?k5 ?kA ?kF ?kK ?k6 ?k7 ?k8 ?k9 ?kB ?c2 ?_; (case k0 => exact rfl); (case kA => exact rfl); (case kF => exact rfl); (case kK => assumption); (case k1 => k_asm); (case k2 => k_asm); (case k3 => k_asm); (case k4 => k_asm); (case k5 => k_asm); (case k6 => k_is); (case k7 => k_is); (case k8 => exact Nat.le_of_ble_eq_true rfl); (case k9 => kernel_rfl!); (case kB => kernel_rfl!); (case c2 => kernel_rfl!); k_whole; intro g' L' h' t' FG' F' N' B' X' T' e9 A9 qk ek)
      k_steps
      (refine' ret _ _ _ _ _ ?e192_0 ?e192_1 ?eF192 ?eN192; (case eN192 => ktn_no "Mine.N"); (case eF192 => k_asm); (case e192_0 => exact NodesIn.cons h1 (NodesIn.cons h2 (NodesIn.cons h3 NodesIn.nil))); (case e192_1 => first | assumption | exact ktn_ltOf (by ktn_no "Mine.lt")))
  | null hl =>
    cases hR with
    | null hm hm2 h1 =>
      have g1 := hsub _ hm
      have g2 := hsub _ hm2
      k_dflt (refine' enterM (binds := [(Str.ofString "expr", _)]) ?k0 ?k1 ?k2 ?k3 ?k4 ?k5 ?kA ?kF ?kK ?k6 ?k7 ?k8 ?k9 ?kB ?c2 ?_; (case k0 => exact rfl); (case kA => exact rfl); (case kF => exact rfl); (case kK => assumption); (case k1 => k_asm); (case k2 => k_asm); (case k3 => k_asm); (case k4 => k_asm); (case k5 => k_asm); (case k6 => k_is); (case k7 => k_is); (case k8 => exact Nat.le_of_ble_eq_true rfl); (case k9 => kernel_rfl!); (case kB => kernel_rfl!); (case c2 => kernel_rfl!); k_whole; intro g' L' h' t' FG' F' N' B' X' T' e9 A9 qk ek)
      k_steps
      (refine' ret _ _ _ _ _ ?e193_0 ?e193_1 ?eF193 ?eN193; (case eN193 => ktn_no "Mine.N"); (case eF193 => k_asm); (case e193_0 => exact NodesIn.cons h1 NodesIn.nil); (case e193_1 => first | assumption | exact ktn_ltOf (by ktn_no "Mine.lt")))
end
example : True := by
  (k_with "CR" => (((with_reducible show wpAny _ _ (call (Value.ref 488) _) _ _ _); k_dflt (refine' chil_c ?cz178 ?Nz178 ?p0z178 ?p1z178 ?p2z178 ?_; (case cz178 => ktn_no "Mine.cx"); (case Nz178 => k_asm); (case p0z178 => assumption); (case p1z178 => ktn_no "Mine.sub"); (case p2z178 => k_asm); k_whole); intro la' vs' n' h' tk' hn' l9 F' N'; (try k_sweep); (try k_lt l9); ktn_no "Mine.aft")))
  trivial
-- P11
section
example : True := by
  (k_with "L179" => (((rename Fr _ _ _ _ => lF'); (with_unfolding_all refine' For_turns lF' ?_; k_whole))))
  trivial
local macro_rules | `(tactic| walk_at "exec For Name Call cons nil") => `(tactic| k_extra "L179")
example : True := by
  (k_with "L180" => (((with_reducible show wpAny _ _ (pyIter (Value.ref _)) (fun it s₂ => TurnsAt _ _ _ _ _ _ _ _ _ it s₂) _ _); k_dflt (refine' iter_listTurns ?hhz180 ?Fz180 ?Nz180 ?hmz180 ?hcz180 ?hdz180 ?_; (case hhz180 => rfl); (case Fz180 => k_asm); (case Nz180 => exact rot2 (by k_asm)); (case hmz180 => k_mem); (case hcz180 => rfl); (case hdz180 => rfl)); intro I' l9; (try k_lt l9))))
  trivial
local macro_rules | `(tactic| walk_at "pyIter ref") => `(tactic| k_extra "L180")
example : True := by
  (k_with "L181" => ((k_dflt (refine nodes_ind (x := Str.ofString "child") (fun _ => subL1) ?_ ?_ (by assumption) (Cond.kids_ok (by assumption)) _ _ (ndJ_start (by assumption) (Nat.le_trans (Cond.kids_len (by assumption)) (by decide)) rfl)); intro v' d' o' kvs' sv' it' h' tk' nx' hn' ho' hd' hz' hr' hc' F' N')))
  trivial
local macro_rules | `(tactic| walk_at "ItemsRest") => `(tactic| k_extra "L181")
example : True := by
  (k_with "L182" => ((refine' unrW2 ?Fz182 ?Nz182 ?offz182 ?_; (case Fz182 => k_asm); (case Nz182 => k_asm); (case offz182 => k_all))))
  trivial
local macro_rules | `(tactic| walk_at "UnrEndW") => `(tactic| k_extra "L182")
example : True := by
  (k_with "L183" => (first | ((with_reducible show wpAny _ _ (call _ [_, Value.ref 116]) _ _ _); k_dflt (refine' isx_name ?Fz183 ?Nz183 ?Xz183 ?Tz183 ?hz183 ?_; (case Fz183 => k_asm); (case Nz183 => k_asm); (case Xz183 => k_asm); (case Tz183 => k_asm); (case hz183 => ktn_no "Mine.rel")); intro tk') | (k_dflt (refine' isx_sel ?Fz183 ?Nz183 ?Xz183 ?Tz183 ?hz183 ?mz183 ?_; (case Fz183 => k_asm); (case Nz183 => k_asm); (case Xz183 => k_asm); (case Tz183 => k_asm); (case hz183 => ktn_no "Mine.rel"); (case mz183 => k_mem)); intro tk')))
  trivial
local macro_rules | `(tactic| walk_at "call builtin:isinstance") => `(tactic| k_extra "L183")
theorem cole_c {prog : Program} {w : World} {dp un : Nat} {gd : Option (List Code)} {cn : Str} {cs : Scope} {a : Addr} {ccd : Value} {cl : List (Str × Addr)} {outer : List Env} {A₀ : Around} {base h₀ : Heap} {L : Addr} {m : Str → Option Value} {p : Program} {loose : List Str} {mean : ExcName → Option Value} {mg mb : Str → Option Value} {hp : Heap} {gs : Array GenState} {dr : Drawn} {tk : Nat} {os : OsState} {Q E : Value → Shared → Prop} {rest : List (Addr × Obj)} {fa : Addr} {o : Obj} {v : Value} {d : Cond} {k : Cols}
    (c : Cx w dp un 855 8760 cs A₀ base outer h₀ L hp m p loose mean mg mb) (N : News h₀ L hp ((fa, o) :: rest)) (hne : ∀ p ∈ rest, p.1 ≠ fa) (hd : o.IsDictOf (PySem.intKind prog w) []) (hR : ExprIn w k rest v d) (hB : d.Ok)
    (ret : ∀ o₁ kvs₁ h₁ tk₁, o₁.IsDictOf (PySem.intKind prog w) kvs₁ → kvs₁.length ≤ 8 → Fr h₀ L h₁ m → News h₀ L h₁ ((fa, o₁) :: rest) → Q .none ⟨h₁, gs, dr, tk₁, os⟩) :
    wpAny (model prog w) (ktrTop dp un gd cn cs L a ccd cl outer) (call (.ref 502) [v, .ref fa]) Q E ⟨hp, gs, dr, tk, os⟩ := by
  obtain ⟨B, F, X, T, hk, hdp, hun⟩ := c
  refine lowerK hdp hun ?_
  k_dflt (refine' enterM (binds := [(Str.ofString "expr", _), (Str.ofString "found", _)]) ?k0 ?k1 ?k2 ?k3 ?k4 ?k5 ?kA ?kF ?kK ?k6 ?k7 ?k8 ?k9 ?kB ?c2 ?_; (case k0 => exact rfl); (case kA => exact rfl); (case kF => exact rfl); (case kK => assumption); (case k1 => k_asm); (case k2 => k_asm); (case k3 => k_asm); (case k4 => k_asm); (case k5 => k_asm); (case k6 => k_is); (case k7 => k_is); (case k8 => exact Nat.le_of_ble_eq_true rfl); (case k9 => kernel_rfl!); (case kB => kernel_rfl!); (case c2 => kernel_rfl!); k_whole; intro g' L' h' t' FG' F' N' B' X' T' e9 A9 qk ek)
  k_steps
  · (rename (∀ (_ : Obj), _ → (_ : (Str → Option Value) → List (Addr × Obj) → Prop) _ _) => hq9; exact hq9 _ (by assumption))
  · (refine' ret _ _ _ _ ?e194_0 ?e194_1 ?eF194 ?eN194; (case eN194 => ktn_no "Mine.N"); (case eF194 => k_asm); (case e194_0 => assumption); (case e194_1 => assumption))
end
example : True := by
  (k_with "CR" => (((with_reducible show wpAny _ _ (call (Value.ref 502) _) _ _ _); k_dflt (refine' cole_c ?cz184 ?Nz184 ?p0z184 ?p1z184 ?p2z184 ?p3z184 ?_; (case cz184 => ktn_no "Mine.cx"); (case Nz184 => ktn_no "Mine.src"); (case p0z184 => k_all); (case p1z184 => assumption); (case p2z184 => ktn_no "Mine.rel"); (case p3z184 => k_asm); k_whole); intro o' kvs' h' tk' hd' hz' F' N'; (try k_sweep); (try clear hd); ktn_no "Mine.aft")))
  trivial
-- B32
inductive BoundIn (w : World) (k : Cols) (news : List (Addr × Obj)) : Value → Due → Prop
  | one {x dx : Addr} {n : Nat} {k1 k2 k3 k4 k5 a1 a2 a5 : Tok} {v r : Value} {i : Col} {op : Str} {d : Side} {led : Option Aff} {coll : Str} : (x, instObj 571 dx) ∈ news →
      (dx, dictOf [ent w "place" k1 (.int i.c a1), ent w "op" k2 (.str op a2), ent w "value" k3 v, ent w "affinity" k4 r, ent w "collation" k5 (.str coll a5)] n) ∈ news → NodeIn w k news v d → OA r led → BoundIn w k news (.ref x) (.one i op d led coll)
  | many {x dx la : Addr} {n ln : Nat} {k1 k2 k3 k4 k5 a1 a2 a5 : Tok} {r : Value} {vs : List Value} {i : Col} {ds : List Side} {led : Option Aff} {coll : Str} : (x, instObj 571 dx) ∈ news →
      (dx, dictOf [ent w "place" k1 (.int i.c a1), ent w "op" k2 (.str (Str.ofString "in") a2), ent w "value" k3 (.ref la), ent w "affinity" k4 r, ent w "collation" k5 (.str coll a5)] n) ∈ news → (la, listOf vs.toArray ln) ∈ news → NodesIn w k news vs ds → OA r led → BoundIn w k news (.ref x) (.many i ds led coll)
theorem BoundIn.mono {w : World} {k : Cols} {news news' : List (Addr × Obj)} {v : Value} {d : Due} (h : BoundIn w k news v d) (hs : ∀ p ∈ news, p ∈ news') : BoundIn w k news' v d := by
  cases h with
  | one h1 h2 h3 h4 => exact .one (hs _ h1) (hs _ h2) (h3.mono hs) h4
  | many h1 h2 h3 h4 h5 => exact .many (hs _ h1) (hs _ h2) (hs _ h3) (h4.mono hs) h5
inductive OptB (w : World) (k : Cols) (news : List (Addr × Obj)) : Value → Option Due → Prop
  | none : OptB w k news .none Option.none
  | some {v : Value} {d : Due} : BoundIn w k news v d → OptB w k news v (Option.some d)
theorem OptB.mono {w : World} {k : Cols} {news news' : List (Addr × Obj)} {v : Value} {d : Option Due} (h : OptB w k news v d) (hs : ∀ p ∈ news, p ∈ news') : OptB w k news' v d := by
  cases h with
  | none => exact .none
  | some h => exact .some (h.mono hs)
inductive BoundsIn (w : World) (k : Cols) (news : List (Addr × Obj)) : List Value → List Due → Prop
  | nil : BoundsIn w k news [] []
  | cons {v : Value} {vs : List Value} {d : Due} {ds : List Due} : BoundIn w k news v d → BoundsIn w k news vs ds → BoundsIn w k news (v :: vs) (d :: ds)
theorem BoundsIn.mono {w : World} {k : Cols} {news news' : List (Addr × Obj)} {vs : List Value} {ds : List Due} (h : BoundsIn w k news vs ds) (hs : ∀ p ∈ news, p ∈ news') : BoundsIn w k news' vs ds := by
  induction h with
  | nil => exact .nil
  | cons h _ ih => exact .cons (h.mono hs) ih
section
variable {w : World} {k : Cols} {f : Col → Aff} {news : List (Addr × Obj)} {op : Str} {sd ot l r : Side}
theorem bound_some {v : Value} {d : Due} (h : BoundIn w k news v d) : someV v = true := by cases h <;> rfl
theorem optB_filter {v : Value} {o : Option Due} (h : OptB w k news v o) {vs : List Value} {ds : List Due} (x : BoundsIn w k news (vs.filter someV) ds) : BoundsIn w k news ((v :: vs).filter someV) (o.toList ++ ds) := by
  cases h with
  | none => rw [List.filter_cons]; exact x
  | some h => rw [List.filter_cons, bound_some h]; exact .cons h x
theorem isCol1_col {d : Side} (h : d.isCol1 = true) : ∃ i : Col, d = .col i ∧ i.t = 1 := by
  cases d with
  | col i => exact ⟨i, rfl, by simpa [Side.isCol1] using h⟩
  | lit v => cases h
  | cast x y => cases h
  | coll x y => cases h
theorem oneS_nc (h : sd.isCol1 = false) : oneS k f op sd ot l r = none := by
  cases sd with
  | col i => exact oneS_not fun x => by simp [Side.isCol1, x.1] at h
  | lit v => rfl
  | cast x y => rfl
  | coll x y => rfl
theorem oneS_own (h : ot.own = true) : oneS k f op sd ot l r = none := by
  cases sd with
  | col i => exact oneS_not fun x => by rw [x.2.1] at h; cases h
  | lit v => rfl
  | cast x y => rfl
  | coll x y => rfl
theorem optB_led {i : Col} {r1 r2 : Value} (hl : Led (some (f i)) (ot.affn f) r1 r2) (hs : someV r1 = true) : OptB w k news .none (oneS k f op (.col i) ot l r) := by
  rw [oneS_not (fun h => by rw [led_some hl, h.2.2] at hs; cases hs)]; exact .none
theorem optB_1 {i : Col} {x dx : Addr} {n : Nat} {k1 k2 k3 k4 k5 a1 a2 a5 : Tok} {v r1 r2 : Value} (ht : i.t = 1) (ho : ot.own = false) (hl : Led (some (f i)) (ot.affn f) r1 r2) (hs : someV r1 = false) (h1 : (x, instObj 571 dx) ∈ news)
    (h2 : (dx, dictOf [ent w "place" k1 (.int i.c a1), ent w "op" k2 (.str op a2), ent w "value" k3 v, ent w "affinity" k4 r2, ent w "collation" k5 (.str (collS k l r) a5)] n) ∈ news) (h3 : NodeIn w k news v ot) : OptB w k news (.ref x) (oneS k f op (.col i) ot l r) := by
  rw [oneS_is ht ho (led_is_none hl hs)]
  exact .some (.one h1 h2 h3 hl.2)
theorem dueB_op {o : Str} {a b : Option Due} {vs : List Value} (h : isTurn o = true) (e1 : oneS k f o l r l r = a) (e2 : oneS k f (turnS o) r l l r = b) (x : BoundsIn w k news vs (a.toList ++ b.toList)) : BoundsIn w k news vs (dueS k f (.op o l r)) := by
  show BoundsIn w k news vs (if isTurn o = true then _ else _)
  rw [if_pos h, e1, e2]; exact x
theorem dueB_op0 {o : Str} (h : isTurn o = false) : BoundsIn w k news [] (dueS k f (.op o l r)) := by
  show BoundsIn w k news [] (if isTurn o = true then _ else _)
  rw [if_neg (by rw [h]; exact Bool.false_ne_true)]; exact .nil
theorem dueB_btw0 {v lo hi : Side} {neg : Bool} (h : neg = true) : BoundsIn w k news [] (dueS k f (.btw v lo hi neg)) := by
  show BoundsIn w k news [] (if neg = true then _ else _)
  rw [if_pos h]; exact .nil
theorem dueB_btwc {v lo hi : Side} {neg : Bool} (h : v.isCol1 = false) : BoundsIn w k news [] (dueS k f (.btw v lo hi neg)) := by
  show BoundsIn w k news [] (if neg = true then _ else _)
  rw [oneS_nc h, oneS_nc h]
  split <;> exact .nil
theorem dueB_btw {v lo hi : Side} {neg : Bool} {a b : Option Due} {vs : List Value} (h : neg = false) (e1 : oneS k f (Str.ofString ">=") v lo v lo = a) (e2 : oneS k f (Str.ofString "<=") v hi v hi = b) (x : BoundsIn w k news vs (a.toList ++ b.toList)) : BoundsIn w k news vs (dueS k f (.btw v lo hi neg)) := by
  show BoundsIn w k news vs (if neg = true then _ else _)
  rw [if_neg (by rw [h]; exact Bool.false_ne_true), e1, e2]; exact x
theorem bf0 : BoundsIn w k news ([].filter someV) (Option.none.toList ++ Option.none.toList) := .nil
theorem bf1 {v : Value} {o : Option Due} (h : OptB w k news v o) : BoundsIn w k news ([v].filter someV) (o.toList ++ Option.none.toList) := optB_filter h (vs := []) .nil
theorem bf2 {v : Value} {o : Option Due} (h : OptB w k news v o) : BoundsIn w k news ([v].filter someV) (Option.none.toList ++ o.toList) := by
  have := optB_filter h (vs := []) .nil
  simpa using this
theorem bf12 {v u : Value} {o o2 : Option Due} (h : OptB w k news v o) (h2 : OptB w k news u o2) : BoundsIn w k news ([v, u].filter someV) (o.toList ++ o2.toList) := by
  have := optB_filter h2 (vs := []) .nil
  rw [List.append_nil] at this
  exact optB_filter h this
end
section
variable {h₀ h : Heap} {L x dx C : Addr} {news l : List (Addr × Obj)} {o : Obj}
theorem keepI (N : News h₀ L h l) (h1 : (x, instObj C dx) ∈ l) (h2 : (dx, o) ∈ l) (hs : ∀ p ∈ news, p ∈ l) : News h₀ L h ([(x, instObj C dx), (dx, o)] ++ news) := fun p hp => by
  rcases List.mem_cons.mp hp with rfl | hp
  · exact N _ h1
  · rcases List.mem_cons.mp hp with rfl | hp
    · exact N _ h2
    · exact N _ (hs _ hp)
theorem keepNil (N : News h₀ L h l) (hs : ∀ p ∈ news, p ∈ l) : News h₀ L h ([] ++ news) := fun p hp => N _ (hs _ hp)
end
section
variable {h₀ h : Heap} {L : Addr} {q d : Addr × Obj} {t1 t2 r : List (Addr × Obj)}
theorem rotA (N : News h₀ L h (t1 ++ q :: r)) : News h₀ L h (q :: (t1 ++ r)) := cb_drop N (by ktn_no "Mine.sub")
theorem tE0 (N : News h₀ L h (d :: q :: r)) : News h₀ L h (d :: ([q] ++ r)) := N
theorem tE1 (N : News h₀ L h (d :: q :: (t1 ++ r))) : News h₀ L h (d :: ((q :: t1) ++ r)) := N
theorem tE2 (N : News h₀ L h (d :: q :: (t2 ++ (t1 ++ r)))) : News h₀ L h (d :: ((q :: (t2 ++ t1)) ++ r)) := cb_drop N (by ktn_no "Mine.sub")
end
theorem apRot {a : Addr} {o : Obj} {tl r : List (Addr × Obj)} (h : Apart ((a, o) :: r) tl) (k : ∀ p ∈ r, p.1 ≠ a) : ∀ p ∈ tl ++ r, p.1 ≠ a := fun p hp => by
  rcases List.mem_append.mp hp with hp | hp
  · exact h (a, o) (List.mem_cons_self ..) p hp
  · exact k p hp
section
variable {h₀ h : Heap} {L I a : Addr} {o oa : Obj} {p2 p3 p4 d : Addr × Obj} {tl t1 t2 r : List (Addr × Obj)}
theorem rotA5 (N : News h₀ L h (tl ++ (I, o) :: p2 :: p3 :: p4 :: (a, oa) :: r)) : News h₀ L h ((I, o) :: p2 :: p3 :: p4 :: (a, oa) :: (tl ++ r)) := cb_drop N (by ktn_no "Mine.sub")
theorem apA5 (h : Apart ((I, o) :: p2 :: p3 :: p4 :: (a, oa) :: r) tl) (k : ∀ p ∈ r, p.1 ≠ a) : ∀ p ∈ tl ++ r, p.1 ≠ a := fun p hp => by
  rcases List.mem_append.mp hp with hp | hp
  · exact h (a, oa) (by simp) p hp
  · exact k p hp
theorem apI5 (h : Apart ((I, o) :: p2 :: p3 :: p4 :: (a, oa) :: r) tl) (k : ∀ p ∈ r, p.1 ≠ I) : ∀ p ∈ tl ++ r, p.1 ≠ I := fun p hp => by
  rcases List.mem_append.mp hp with hp | hp
  · exact h (I, o) (by simp) p hp
  · exact k p hp
theorem tF0 (N : News h₀ L h (d :: p2 :: p3 :: p4 :: (a, oa) :: r)) : News h₀ L h (d :: ([p2, p3, p4, (a, oa)] ++ r)) := N
theorem tF1 (N : News h₀ L h (d :: p2 :: p3 :: p4 :: (a, oa) :: (t1 ++ r))) : News h₀ L h (d :: ((p2 :: p3 :: p4 :: (a, oa) :: t1) ++ r)) := N
theorem tF2 (N : News h₀ L h (d :: p2 :: p3 :: p4 :: (a, oa) :: (t2 ++ (t1 ++ r)))) : News h₀ L h (d :: ((p2 :: p3 :: p4 :: (a, oa) :: (t2 ++ t1)) ++ r)) := cb_drop N (by ktn_no "Mine.sub")
end
-- P12
theorem os_expl {v : Value} {i : Col} (h : OS v (Side.col i).expl) : v = .none := by cases h; rfl
theorem os_ofcol {v : Value} {i : Col} {k : Cols} (h : OS v ((Side.col i).ofcol k)) : ∃ t, v = .str (k.coll i) t := by cases h with | some x t => exact ⟨t, rfl⟩
section
example : True := by
  (k_with "L185" => (((with_reducible show wpAny _ _ (call (Value.ref 517) _) _ _ _); k_dflt (refine' pe1_c ?cz185 ?Nz185 ?p0z185 ?p1z185 ?_; (case cz185 => ktn_no "Mine.cx"); (case Nz185 => k_asm); (case p0z185 => ktn_no "Mine.rel"); (case p1z185 => k_asm); k_whole); intro r' h' tk' hr' F' N'; (try k_sweep); (have q9 := os_expl hr'; subst q9); ktn_no "Mine.aft")))
  trivial
local macro_rules | `(tactic| walk_at "call ref") => `(tactic| k_extra "L185")
example : True := by
  (k_with "L186" => (((with_reducible show wpAny _ _ (call (Value.ref 524) _) _ _ _); k_dflt (refine' pc1_c ?cz186 ?Nz186 ?p0z186 ?p1z186 ?_; (case cz186 => ktn_no "Mine.cx"); (case Nz186 => k_asm); (case p0z186 => ktn_no "Mine.rel"); (case p1z186 => k_asm); k_whole); intro r' h' tk' hr' F' N'; (try k_sweep); (obtain ⟨t9, q9⟩ := os_ofcol hr'; subst q9); ktn_no "Mine.aft")))
  trivial
local macro_rules | `(tactic| walk_at "call ref") => `(tactic| k_extra "L186")
example : True := by
  (k_with "L187" => ((refine truthy_coll (by exact Cols.Ok.coll (by assumption) _) ?_)))
  trivial
local macro_rules | `(tactic| walk_at "truthy str") => `(tactic| k_extra "L187")
theorem pco_c {prog : Program} {w : World} {dp un : Nat} {gd : Option (List Code)} {cn : Str} {cs : Scope} {a : Addr} {ccd : Value} {cl : List (Str × Addr)} {outer : List Env} {A₀ : Around} {base h₀ : Heap} {L : Addr} {m : Str → Option Value} {p : Program} {loose : List Str} {mean : ExcName → Option Value} {mg mb : Str → Option Value} {hp : Heap} {gs : Array GenState} {dr : Drawn} {tk : Nat} {os : OsState} {Q E : Value → Shared → Prop} {news : List (Addr × Obj)} {v : Value} {i : Col} {k : Cols}
    (c : Cx w dp un 840 8680 cs A₀ base outer h₀ L hp m p loose mean mg mb) (N : News h₀ L hp (news)) (hR : NodeIn w k news v (.col i)) (hK : k.Ok)
    (ret : ∀ t h₁ tk₁, Fr h₀ L h₁ m → News h₀ L h₁ news → Q (.str (k.coll i) t) ⟨h₁, gs, dr, tk₁, os⟩) :
    wpAny (model prog w) (ktrTop dp un gd cn cs L a ccd cl outer) (call (.ref 532) [v]) Q E ⟨hp, gs, dr, tk, os⟩ := by
  obtain ⟨B, F, X, T, hk, hdp, hun⟩ := c
  refine lowerK hdp hun ?_
  obtain ⟨kind, names, gen, co, more⟩ := cs
  (try dsimp only at hk)
  subst hk
  have hB : (Side.col i).Ok := Side.Ok.base (Side.Base.col i)
  refine wpAny_call ?_
  k_dflt k_enter
  (first | (refine letA ?_; intro A9 e9) | skip)
  k_steps
  (refine' ret _ _ _  ?eF195 ?eN195; (case eN195 => ktn_no "Mine.N"); (case eF195 => k_asm))
end
example : True := by
  (k_with "CR" => (((with_reducible show wpAny _ _ (call (Value.ref 532) _) _ _ _); k_dflt (refine' pco_c ?cz188 ?Nz188 ?p0z188 ?p1z188 ?_; (case cz188 => ktn_no "Mine.cx"); (case Nz188 => k_asm); (case p0z188 => ktn_no "Mine.rel"); (case p1z188 => k_asm); k_whole); intro t' h' tk' F' N'; (try k_sweep); ktn_no "Mine.aft")))
  trivial
-- P13
section
example : True := by
  (k_with "L189" => (refine isnot_someV ?_))
  trivial
local macro_rules | `(tactic| walk_at "compareOp IsNot") => `(tactic| k_extra "L189")
theorem cmpb_c {prog : Program} {w : World} {dp un : Nat} {gd : Option (List Code)} {cn : Str} {cs : Scope} {a : Addr} {ccd : Value} {cl : List (Str × Addr)} {outer : List Env} {A₀ : Around} {base h₀ : Heap} {L : Addr} {m : Str → Option Value} {p : Program} {loose : List Str} {mean : ExcName → Option Value} {mg mb : Str → Option Value} {hp : Heap} {gs : Array GenState} {dr : Drawn} {tk : Nat} {os : OsState} {Q E : Value → Shared → Prop} {news : List (Addr × Obj)} {led : List (Addr × Obj)} {op : Str} {top : Tok} {v1 v2 v3 v4 : Value} {sd ot l r : Side} {k : Cols} {f : Col → Aff}
    (c : Cx w dp un 825 8600 cs A₀ base outer h₀ L hp m p loose mean mg mb) (N : News h₀ L hp (led)) (hR1 : NodeIn w k news v1 sd) (hsub : ∀ p ∈ news, p ∈ led) (hR2 : NodeIn w k news v2 ot) (hR3 : NodeIn w k news v3 l) (hR4 : NodeIn w k news v4 r) (hc : sd.isCol1 = true) (ho : ot.own = false) (hB2 : ot.Ok) (hB3 : l.Ok) (hB4 : r.Ok) (hK : k.AffIs f) (hKo : k.Ok)
    (ret : ∀ v tl h₁ tk₁, OptB w k (tl ++ news) v (oneS k f op sd ot l r) → Apart led tl → Fr h₀ L h₁ m → News h₀ L h₁ (tl ++ led) → Q v ⟨h₁, gs, dr, tk₁, os⟩) :
    wpAny (model prog w) (ktrTop dp un gd cn cs L a ccd cl outer) (call (.ref 629) [v1, .str op top, v2, v3, v4]) Q E ⟨hp, gs, dr, tk, os⟩ := by
  obtain ⟨B, F, X, T, hk, hdp, hun⟩ := c
  refine lowerK hdp hun ?_
  obtain ⟨i, rfl, ht⟩ := isCol1_col hc
  have g1 := hR1.mono hsub
  have g2 := hR2.mono hsub
  have g3 := hR3.mono hsub
  have g4 := hR4.mono hsub
  cases g1 with
  | col _ hm hm2 =>
    have hoa : ∀ t, OA (.str (k.aff i) t) (some (f i)) := fun t => by rw [hK.is i]; exact OA.some _ _
    k_dflt (refine' enterM (binds := [(Str.ofString "name", _), (Str.ofString "op", _), (Str.ofString "value", _), (Str.ofString "left", _), (Str.ofString "right", _)]) ?k0 ?k1 ?k2 ?k3 ?k4 ?k5 ?kA ?kF ?kK ?k6 ?k7 ?k8 ?k9 ?kB ?c2 ?_; (case k0 => exact rfl); (case kA => exact rfl); (case kF => exact rfl); (case kK => assumption); (case k1 => k_asm); (case k2 => k_asm); (case k3 => k_asm); (case k4 => k_asm); (case k5 => k_asm); (case k6 => k_is); (case k7 => k_is); (case k8 => exact Nat.le_of_ble_eq_true rfl); (case k9 => kernel_rfl!); (case kB => kernel_rfl!); (case c2 => kernel_rfl!); k_whole; intro g' L' h' t' FG' F' N' B' X' T' e9 A9 qk ek)
    k_steps
    · (refine' ret _ _ _ _ ?e197_0 ?e197_1 ?eF197 ?eN197; (case eN197 => (refine' keepNil ?q196_0 ?q196_1; (case q196_0 => assumption); (case q196_1 => ktn_no "Mine.sub"))); (case eF197 => k_asm); (case e197_0 => exact optB_led (by assumption) (by assumption)); (case e197_1 => exact Apart.nil))
    · (refine' ret _ _ _ _ ?e200_0 ?e200_1 ?eF200 ?eN200; (case eN200 => (refine' keepI ?q198_0 ?q198_1 ?q198_2 ?q198_3; (case q198_0 => assumption); (case q198_1 => k_mem); (case q198_2 => k_mem); (case q198_3 => ktn_no "Mine.sub"))); (case eF200 => k_asm); (case e200_0 => (refine' optB_1 ?q199_0 ?q199_1 ?q199_2 ?q199_3 ?q199_4 ?q199_5 ?q199_6; (case q199_0 => assumption); (case q199_1 => assumption); (case q199_2 => assumption); (case q199_3 => assumption); (case q199_4 => k_mem); (case q199_5 => k_mem); (case q199_6 => exact NodeIn.mono hR2 (by ktn_no "Mine.sub")))); (case e200_1 => ktn_no "Mine.apart"))
end
example : True := by
  (k_with "CR" => (((with_reducible show wpAny _ _ (call (Value.ref 629) _) _ _ _); k_dflt (refine' cmpb_c ?cz190 ?Nz190 ?p0z190 ?p1z190 ?p2z190 ?p3z190 ?p4z190 ?p5z190 ?p6z190 ?p7z190 ?p8z190 ?p9z190 ?p10z190 ?p11z190 ?_; (case cz190 => ktn_no "Mine.cx"); (case Nz190 => k_asm); (case p0z190 => assumption); (case p1z190 => ktn_no "Mine.sub"); (case p2z190 => assumption); (case p3z190 => assumption); (case p4z190 => assumption); (case p5z190 => assumption); (case p6z190 => assumption); (case p7z190 => k_asm); (case p8z190 => k_asm); (case p9z190 => k_asm); (case p10z190 => k_asm); (case p11z190 => k_asm); k_whole); intro v' tl' h' tk' ho' ha' F' N'; (try k_sweep); (try (replace N' := rotA N'; have h9 := apRot ha' (by k_all))); ktn_no "Mine.aft")))
  trivial
-- P14
noncomputable def JB (h₀ : Heap) (L : Addr) (m : Str → Option Value) (news : List (Addr × Obj)) (gs : Array GenState) (dr : Drawn) (os : OsState) (b : Bool) (b' : Bool) (s' : Shared) : Prop := ∃ h' t', b' = b ∧ s' = ⟨h', gs, dr, t', os⟩ ∧ Fr h₀ L h' m ∧ News h₀ L h' news
theorem jb_intro {h₀ h : Heap} {L : Addr} {m : Str → Option Value} {news : List (Addr × Obj)} {gs : Array GenState} {dr : Drawn} {os : OsState} {b b' : Bool} {t : Nat} (F : Fr h₀ L h m) (N : News h₀ L h news) (e : b' = b) : JB h₀ L m news gs dr os b b' ⟨h, gs, dr, t, os⟩ := ⟨h, t, e, rfl, F, N⟩
theorem cut_if {M : Model} {A : Around} {env : Env} {test : Expr} {body orelse : List Stmt} {p : Pos} {Q : Flow → Shared → Prop} {E : Value → Shared → Prop} {h₀ h : Heap} {L : Addr} {m : Str → Option Value} {news : List (Addr × Obj)} {gs : Array GenState} {dr : Drawn} {t : Nat} {os : OsState} (b : Bool) (F : Fr h₀ L h m) (N : News h₀ L h news)
    (w : wpAny M A (isTrue test env (eval test env)) (JB h₀ L m news gs dr os b) E ⟨h, gs, dr, t, os⟩)
    (c : ∀ h' t', Fr h₀ L h' m → News h₀ L h' news → if b = true then wpAny M A (execs body env) Q E ⟨h', gs, dr, t', os⟩ else wpAny M A (execs orelse env) Q E ⟨h', gs, dr, t', os⟩) : wpAny M A (exec (.If test body orelse p) env) Q E ⟨h, gs, dr, t, os⟩ := by
  refine wpAny_If (wpAny_mono w (fun b' s' j => ?_) fun _ _ e => e)
  obtain ⟨h', t', rfl, rfl, F', N'⟩ := j
  exact c h' t' F' N'
theorem and_l {a b : Bool} (h : (a && b) = true) : a = true := by cases a <;> simp_all
theorem and_r {a b : Bool} (h : (a && !b) = true) : b = false := by cases a <;> cases b <;> simp_all
theorem oneS_off {k : Cols} {f : Col → Aff} {op : Str} {sd ot l r : Side} (h : (sd.isCol1 && !ot.own) = false) : oneS k f op sd ot l r = none := by
  cases h1 : sd.isCol1
  · exact oneS_nc h1
  · rw [h1, Bool.true_and] at h
    exact oneS_own (by simpa using h)
noncomputable def testL (l r : Side) : Bool := l.isCol1 && !r.own
noncomputable def opL {o : Str} {l r : Side} (uh : Cond.Ok (.op o l r)) : Bool := l.isCol1 && !r.own
noncomputable def opR {o : Str} {l r : Side} (uh : Cond.Ok (.op o l r)) : Bool := r.isCol1 && !l.own
section
example : True := by
  (k_with "L191" => ((k_dflt (refine ListComp_some (by k_asm) (by k_asm) (by rfl) (by (refine ld (by k_asm) (by rfl) ?_; exact ⟨rfl, rfl⟩)) (by k_mem) (by with_unfolding_all rfl) (by decide) (by rfl) (by decide) (by rfl) (by decide) (by exact Nat.le_of_ble_eq_true rfl) ?_); intro D' h' tk' F' N' l9)))
  trivial
local macro_rules | `(tactic| walk_at "eval ListComp") => `(tactic| k_extra "L191")
example : True := by
  (k_with "L192" => (((with_reducible show wpAny _ _ (subscriptTail _ _ (Value.ref 540) (Value.str _ _)) _ _ _); k_dflt (refine' turn_top_get ?Fz192 ?Xz192 ?oz192 ?tz192 ?_; (case Fz192 => k_asm); (case Xz192 => k_asm); (case oz192 => assumption); (case tz192 => assumption)); intro t'; (try dsimp only))))
  trivial
local macro_rules | `(tactic| walk_at "subscriptTail") => `(tactic| k_extra "L192")
example : True := by
  (k_with "L193" => (((with_reducible show wpAny _ _ (compareOp _ (Value.str _ _) (Value.ref 540)) _ _ _); k_dflt (refine' turn_top_in ?Fz193 ?Xz193 ?oz193 ?_; (case Fz193 => k_asm); (case Xz193 => k_asm); (case oz193 => assumption)))))
  trivial
local macro_rules | `(tactic| walk_at "compareOp In str ref") => `(tactic| k_extra "L193")
example : True := by
  (k_with "L194" => (first | ((with_reducible show wpAny _ _ (exec (Stmt.If (Expr.BoolOp _ [Expr.Call _ [Expr.Attribute _ (Str.ofString "left") _, _] _ _, _] _) _ _ _) _) _ _ _); k_dflt (refine cut_if (opL (by assumption)) (by k_asm) (by k_asm) ?_ ?_); (try dsimp only [opL])) | ((with_reducible show wpAny _ _ (exec (Stmt.If (Expr.BoolOp _ [Expr.Call _ [Expr.Attribute _ (Str.ofString "right") _, _] _ _, _] _) _ _ _) _) _ _ _); k_dflt (refine cut_if (opR (by assumption)) (by k_asm) (by k_asm) ?_ ?_); (try dsimp only [opR]))))
  trivial
local macro_rules | `(tactic| walk_at "exec If") => `(tactic| k_extra "L194")
example : True := by
  (k_with "L195" => ((refine' jb_intro ?jFz195 ?jNz195 ?jez195; (case jFz195 => k_asm); (case jNz195 => k_asm); (case jez195 => (try dsimp only [opL, opR]); simp only [*, Bool.true_and, Bool.false_and, Bool.not_false, Bool.not_true, Bool.and_true, Bool.and_false]))))
  trivial
local macro_rules | `(tactic| walk_at "JB") => `(tactic| k_extra "L195")
example : True := by
  (k_with "L196" => (((with_reducible show wpAny _ _ (call (Value.ref 629) _) _ _ _); k_dflt (refine' cmpb_c ?cz196 ?Nz196 ?p0z196 ?p1z196 ?p2z196 ?p3z196 ?p4z196 ?p5z196 ?p6z196 ?p7z196 ?p8z196 ?p9z196 ?p10z196 ?p11z196 ?_; (case cz196 => ktn_no "Mine.cx"); (case Nz196 => k_asm); (case p0z196 => assumption); (case p1z196 => ktn_no "Mine.sub"); (case p2z196 => assumption); (case p3z196 => assumption); (case p4z196 => assumption); (case p5z196 => first | assumption | exact and_l (by assumption)); (case p6z196 => first | assumption | exact and_r (by assumption)); (case p7z196 => k_asm); (case p8z196 => k_asm); (case p9z196 => k_asm); (case p10z196 => k_asm); (case p11z196 => k_asm); k_whole); intro v' tl' h' tk' ho' ha' F' N'; (try k_sweep); (try (replace N' := rotA N'; have h9 := apRot ha' (by k_all))); ktn_no "Mine.aft")))
  trivial
local macro_rules | `(tactic| walk_at "call ref") => `(tactic| k_extra "L196")
theorem cbs_c {prog : Program} {w : World} {dp un : Nat} {gd : Option (List Code)} {cn : Str} {cs : Scope} {a : Addr} {ccd : Value} {cl : List (Str × Addr)} {outer : List Env} {A₀ : Around} {base h₀ : Heap} {L : Addr} {m : Str → Option Value} {p : Program} {loose : List Str} {mean : ExcName → Option Value} {mg mb : Str → Option Value} {hp : Heap} {gs : Array GenState} {dr : Drawn} {tk : Nat} {os : OsState} {Q E : Value → Shared → Prop} {news : List (Addr × Obj)} {v : Value} {tn : Tok} {o : Str} {l r : Side} {k : Cols} {f : Col → Aff}
    (c : Cx w dp un 810 8520 cs A₀ base outer h₀ L hp m p loose mean mg mb) (N : News h₀ L hp (news)) (hR : ExprIn w k news v (.op o l r)) (hB : Cond.Ok (.op o l r)) (ht : isTurn o = true) (hK : k.AffIs f) (hKo : k.Ok)
    (ret : ∀ la vs n tl h₁ tk₁, BoundsIn w k (tl ++ news) vs (dueS k f (.op o l r)) → Apart news ((la, listOf vs.toArray n) :: tl) → Fr h₀ L h₁ m → News h₀ L h₁ ((la, listOf vs.toArray n) :: (tl ++ news)) → Q (.ref la) ⟨h₁, gs, dr, tk₁, os⟩) :
    wpAny (model prog w) (ktrTop dp un gd cn cs L a ccd cl outer) (call (.ref 634) [v, .int 1 tn]) Q E ⟨hp, gs, dr, tk, os⟩ := by
  obtain ⟨B, F, X, T, hk, hdp, hun⟩ := c
  refine lowerK hdp hun ?_
  have gb := hB
  cases hB with
  | op ho hl hr =>
    cases hR with
    | op hm hm2 h1 h2 =>
      k_dflt (refine' enterM (binds := [(Str.ofString "expr", _), (Str.ofString "number", _)]) ?k0 ?k1 ?k2 ?k3 ?k4 ?k5 ?kA ?kF ?kK ?k6 ?k7 ?k8 ?k9 ?kB ?c2 ?_; (case k0 => exact rfl); (case kA => exact rfl); (case kF => exact rfl); (case kK => assumption); (case k1 => k_asm); (case k2 => k_asm); (case k3 => k_asm); (case k4 => k_asm); (case k5 => k_asm); (case k6 => k_is); (case k7 => k_is); (case k8 => exact Nat.le_of_ble_eq_true rfl); (case k9 => kernel_rfl!); (case kB => kernel_rfl!); (case c2 => kernel_rfl!); k_whole; intro g' L' h' t' FG' F' N' B' X' T' e9 A9 qk ek)
      k_steps
      · (refine' ret _ _ _ _ _ _ ?e203_0 ?e203_1 ?eF203 ?eN203; (case eN203 => exact tE2 (by k_asm)); (case eF203 => k_asm); (case e203_0 => (refine' dueB_op ?q202_0 ?q202_1 ?q202_2 ?q202_3; (case q202_0 => assumption); (case q202_1 => exact rfl); (case q202_2 => exact rfl); (case q202_3 => (refine' bf12 ?q201_0 ?q201_1; (case q201_0 => (refine' OptB.mono ?om1 ?om2; (case om1 => assumption); (case om2 => ktn_no "Mine.sub"))); (case q201_1 => (refine' OptB.mono ?om1 ?om2; (case om1 => assumption); (case om2 => ktn_no "Mine.sub"))))))); (case e203_1 => ktn_no "Mine.apart"))
      · (refine' ret _ _ _ _ _ _ ?e206_0 ?e206_1 ?eF206 ?eN206; (case eN206 => exact tE1 (by k_asm)); (case eF206 => k_asm); (case e206_0 => (refine' dueB_op ?q205_0 ?q205_1 ?q205_2 ?q205_3; (case q205_0 => assumption); (case q205_1 => exact rfl); (case q205_2 => first | exact oneS_off (by assumption) | exact oneS_nc (by assumption) | exact oneS_own (by assumption)); (case q205_3 => (refine' bf1 ?q204_0; (case q204_0 => (refine' OptB.mono ?om1 ?om2; (case om1 => assumption); (case om2 => ktn_no "Mine.sub"))))))); (case e206_1 => ktn_no "Mine.apart"))
      · (refine' ret _ _ _ _ _ _ ?e209_0 ?e209_1 ?eF209 ?eN209; (case eN209 => exact tE1 (by k_asm)); (case eF209 => k_asm); (case e209_0 => (refine' dueB_op ?q208_0 ?q208_1 ?q208_2 ?q208_3; (case q208_0 => assumption); (case q208_1 => first | exact oneS_off (by assumption) | exact oneS_nc (by assumption) | exact oneS_own (by assumption)); (case q208_2 => exact rfl); (case q208_3 => (refine' bf2 ?q207_0; (case q207_0 => (refine' OptB.mono ?om1 ?om2; (case om1 => assumption); (case om2 => ktn_no "Mine.sub"))))))); (case e209_1 => ktn_no "Mine.apart"))
      · (refine' ret _ _ _ _ _ _ ?e211_0 ?e211_1 ?eF211 ?eN211; (case eN211 => exact tE0 (by k_asm)); (case eF211 => k_asm); (case e211_0 => (refine' dueB_op ?q210_0 ?q210_1 ?q210_2 ?q210_3; (case q210_0 => assumption); (case q210_1 => first | exact oneS_off (by assumption) | exact oneS_nc (by assumption) | exact oneS_own (by assumption)); (case q210_2 => first | exact oneS_off (by assumption) | exact oneS_nc (by assumption) | exact oneS_own (by assumption)); (case q210_3 => exact bf0))); (case e211_1 => ktn_no "Mine.apart"))

end
example : True := by
  (k_with "CR" => (((with_reducible show wpAny _ _ (call (Value.ref 634) _) _ _ _); k_dflt (refine' cbs_c ?cz197 ?Nz197 ?p0z197 ?p1z197 ?p2z197 ?p3z197 ?p4z197 ?_; (case cz197 => ktn_no "Mine.cx"); (case Nz197 => k_asm); (case p0z197 => ktn_no "Mine.rel"); (case p1z197 => k_asm); (case p2z197 => assumption); (case p3z197 => k_asm); (case p4z197 => k_asm); k_whole); intro la' vs' n' tl' h' tk' hb' ha' F' N'; (try k_sweep); ktn_no "Mine.aft")))
  trivial
-- P15
section
example : True := by
  (k_with "L198" => ((k_dflt (refine ListComp_some (by k_asm) (by k_asm) (by rfl) (by (refine ld (by k_asm) (by rfl) ?_; exact ⟨rfl, rfl⟩)) (by k_mem) (by with_unfolding_all rfl) (by decide) (by rfl) (by decide) (by rfl) (by decide) (by exact Nat.le_of_ble_eq_true rfl) ?_); intro D' h' tk' F' N' l9)))
  trivial
local macro_rules | `(tactic| walk_at "eval ListComp") => `(tactic| k_extra "L198")
example : True := by
  (k_with "L199" => (((rename Fr _ _ _ _ => lF'); (with_unfolding_all refine' For_turns lF' ?_; k_whole))))
  trivial
local macro_rules | `(tactic| walk_at "exec For Tuple Tuple cons nil") => `(tactic| k_extra "L199")
example : True := by
  (k_with "L200" => (((with_reducible show wpAny _ _ (pyIter (Value.ref _)) (fun it s₂ => TurnsAt _ _ _ _ _ _ _ _ _ it s₂) _ _); k_dflt (refine' iter_tupTurns ?hhz200 ?Fz200 ?Nz200 ?hmz200 ?hcz200 ?hdz200 ?_; (case hhz200 => rfl); (case Fz200 => k_asm); (case Nz200 => k_asm); (case hmz200 => k_mem); (case hcz200 => rfl); (case hdz200 => rfl)); intro I' l9; (try k_lt l9))))
  trivial
local macro_rules | `(tactic| walk_at "pyIter ref") => `(tactic| k_extra "L200")
example : True := by
  (k_with "L201" => ((refine' unrW1 ?Fz201 ?Nz201 ?offz201 ?_; (case Fz201 => k_asm); (case Nz201 => first | k_asm | exact rot1 (by k_asm) | exact rot2 (by k_asm) | exact rot3 (by k_asm)); (case offz201 => k_all); (refine And.intro (And.intro (by k_mem) trivial) ?_))))
  trivial
local macro_rules | `(tactic| walk_at "UnrEndW") => `(tactic| k_extra "L201")
example : True := by
  (k_with "L202" => (((with_reducible show wpAny _ _ (call (Value.ref 629) _) _ _ _); k_dflt (refine' cmpb_c ?cz202 ?Nz202 ?p0z202 ?p1z202 ?p2z202 ?p3z202 ?p4z202 ?p5z202 ?p6z202 ?p7z202 ?p8z202 ?p9z202 ?p10z202 ?p11z202 ?_; (case cz202 => ktn_no "Mine.cx"); (case Nz202 => k_asm); (case p0z202 => assumption); (case p1z202 => ktn_no "Mine.sub"); (case p2z202 => assumption); (case p3z202 => assumption); (case p4z202 => assumption); (case p5z202 => assumption); (case p6z202 => assumption); (case p7z202 => k_asm); (case p8z202 => k_asm); (case p9z202 => k_asm); (case p10z202 => k_asm); (case p11z202 => k_asm); k_whole); intro v' tl' h' tk' ho' ha' F' N'; (try k_sweep); (try (replace N' := rotA5 N'; have h9 := apA5 ha' (by k_all); have h8 := apI5 ha' (by k_all))); ktn_no "Mine.aft")))
  trivial
local macro_rules | `(tactic| walk_at "call ref") => `(tactic| k_extra "L202")
theorem btb_c {prog : Program} {w : World} {dp un : Nat} {gd : Option (List Code)} {cn : Str} {cs : Scope} {a : Addr} {ccd : Value} {cl : List (Str × Addr)} {outer : List Env} {A₀ : Around} {base h₀ : Heap} {L : Addr} {m : Str → Option Value} {p : Program} {loose : List Str} {mean : ExcName → Option Value} {mg mb : Str → Option Value} {hp : Heap} {gs : Array GenState} {dr : Drawn} {tk : Nat} {os : OsState} {Q E : Value → Shared → Prop} {news : List (Addr × Obj)} {v : Value} {tn : Tok} {sd lo hi : Side} {neg : Bool} {k : Cols} {f : Col → Aff}
    (c : Cx w dp un 810 8520 cs A₀ base outer h₀ L hp m p loose mean mg mb) (N : News h₀ L hp (news)) (hR : ExprIn w k news v (.btw sd lo hi neg)) (hB : Cond.Ok (.btw sd lo hi neg)) (hK : k.AffIs f) (hKo : k.Ok)
    (ret : ∀ la vs n tl h₁ tk₁, BoundsIn w k (tl ++ news) vs (dueS k f (.btw sd lo hi neg)) → Apart news ((la, listOf vs.toArray n) :: tl) → Fr h₀ L h₁ m → News h₀ L h₁ ((la, listOf vs.toArray n) :: (tl ++ news)) → Q (.ref la) ⟨h₁, gs, dr, tk₁, os⟩) :
    wpAny (model prog w) (ktrTop dp un gd cn cs L a ccd cl outer) (call (.ref 639) [v, .int 1 tn]) Q E ⟨hp, gs, dr, tk, os⟩ := by
  obtain ⟨B, F, X, T, hk, hdp, hun⟩ := c
  refine lowerK hdp hun ?_
  cases hB with
  | btw hl hr hz =>
    cases hR with
    | btw hm hm2 h1 h2 h3 =>
      k_dflt (refine' enterM (binds := [(Str.ofString "expr", _), (Str.ofString "number", _)]) ?k0 ?k1 ?k2 ?k3 ?k4 ?k5 ?kA ?kF ?kK ?k6 ?k7 ?k8 ?k9 ?kB ?c2 ?_; (case k0 => exact rfl); (case kA => exact rfl); (case kF => exact rfl); (case kK => assumption); (case k1 => k_asm); (case k2 => k_asm); (case k3 => k_asm); (case k4 => k_asm); (case k5 => k_asm); (case k6 => k_is); (case k7 => k_is); (case k8 => exact Nat.le_of_ble_eq_true rfl); (case k9 => kernel_rfl!); (case kB => kernel_rfl!); (case c2 => kernel_rfl!); k_whole; intro g' L' h' t' FG' F' N' B' X' T' e9 A9 qk ek)
      k_steps
      · (refine' ret _ _ _ _ _ _ ?e213_0 ?e213_1 ?eF213 ?eN213; (case eN213 => (refine' keep0 ?q212_0 ?q212_1 ?q212_2; (case q212_0 => assumption); (case q212_1 => k_mem); (case q212_2 => ktn_no "Mine.sub"))); (case eF213 => k_asm); (case e213_0 => exact dueB_btw0 (by assumption)); (case e213_1 => ktn_no "Mine.apart"))
      · (refine' ret _ _ _ _ _ _ ?e215_0 ?e215_1 ?eF215 ?eN215; (case eN215 => exact tF0 (by k_asm)); (case eF215 => k_asm); (case e215_0 => (refine' dueB_btw ?q214_0 ?q214_1 ?q214_2 ?q214_3; (case q214_0 => assumption); (case q214_1 => first | exact oneS_off (by assumption) | exact oneS_nc (by assumption) | exact oneS_own (by assumption)); (case q214_2 => first | exact oneS_off (by assumption) | exact oneS_nc (by assumption) | exact oneS_own (by assumption)); (case q214_3 => exact bf0))); (case e215_1 => ktn_no "Mine.apart"))
      · (refine' ret _ _ _ _ _ _ ?e218_0 ?e218_1 ?eF218 ?eN218; (case eN218 => exact tF1 (by k_asm)); (case eF218 => k_asm); (case e218_0 => (refine' dueB_btw ?q217_0 ?q217_1 ?q217_2 ?q217_3; (case q217_0 => assumption); (case q217_1 => first | exact oneS_off (by assumption) | exact oneS_nc (by assumption) | exact oneS_own (by assumption)); (case q217_2 => exact rfl); (case q217_3 => (refine' bf2 ?q216_0; (case q216_0 => (refine' OptB.mono ?om1 ?om2; (case om1 => assumption); (case om2 => ktn_no "Mine.sub"))))))); (case e218_1 => ktn_no "Mine.apart"))
      · (refine' ret _ _ _ _ _ _ ?e221_0 ?e221_1 ?eF221 ?eN221; (case eN221 => exact tF1 (by k_asm)); (case eF221 => k_asm); (case e221_0 => (refine' dueB_btw ?q220_0 ?q220_1 ?q220_2 ?q220_3; (case q220_0 => assumption); (case q220_1 => exact rfl); (case q220_2 => first | exact oneS_off (by assumption) | exact oneS_nc (by assumption) | exact oneS_own (by assumption)); (case q220_3 => (refine' bf1 ?q219_0; (case q219_0 => (refine' OptB.mono ?om1 ?om2; (case om1 => assumption); (case om2 => ktn_no "Mine.sub"))))))); (case e221_1 => ktn_no "Mine.apart"))
      · (refine' ret _ _ _ _ _ _ ?e224_0 ?e224_1 ?eF224 ?eN224; (case eN224 => exact tF2 (by k_asm)); (case eF224 => k_asm); (case e224_0 => (refine' dueB_btw ?q223_0 ?q223_1 ?q223_2 ?q223_3; (case q223_0 => assumption); (case q223_1 => exact rfl); (case q223_2 => exact rfl); (case q223_3 => (refine' bf12 ?q222_0 ?q222_1; (case q222_0 => (refine' OptB.mono ?om1 ?om2; (case om1 => assumption); (case om2 => ktn_no "Mine.sub"))); (case q222_1 => (refine' OptB.mono ?om1 ?om2; (case om1 => assumption); (case om2 => ktn_no "Mine.sub"))))))); (case e224_1 => ktn_no "Mine.apart"))
      · (refine' ret _ _ _ _ _ _ ?e226_0 ?e226_1 ?eF226 ?eN226; (case eN226 => (refine' keep0 ?q225_0 ?q225_1 ?q225_2; (case q225_0 => assumption); (case q225_1 => k_mem); (case q225_2 => ktn_no "Mine.sub"))); (case eF226 => k_asm); (case e226_0 => exact dueB_btwc (by assumption)); (case e226_1 => ktn_no "Mine.apart"))

end
example : True := by
  (k_with "CR" => (((with_reducible show wpAny _ _ (call (Value.ref 639) _) _ _ _); k_dflt (refine' btb_c ?cz203 ?Nz203 ?p0z203 ?p1z203 ?p2z203 ?p3z203 ?_; (case cz203 => ktn_no "Mine.cx"); (case Nz203 => k_asm); (case p0z203 => ktn_no "Mine.rel"); (case p1z203 => k_asm); (case p2z203 => k_asm); (case p3z203 => k_asm); k_whole); intro la' vs' n' tl' h' tk' hb' ha' F' N'; (try k_sweep); ktn_no "Mine.aft")))
  trivial
-- B33
section
variable {w : World} {k : Cols} {f : Col → Aff} {news : List (Addr × Obj)} {sd : Side} {ds : List Side} {neg : Bool}
theorem dueB_in0 (h : neg = true) : BoundsIn w k news [] (dueS k f (.inn sd ds neg)) := by
  show BoundsIn w k news [] (if neg = true then _ else _)
  rw [if_pos h]; exact .nil
theorem inS_not {i : Col} (h : ¬ (i.t = 1 ∧ ds ≠ [] ∧ (∀ d ∈ ds, d.own = false))) : inS k f (.col i) ds = [] := by unfold inS; exact if_neg h
theorem inS_is {i : Col} (h : i.t = 1 ∧ ds ≠ [] ∧ (∀ d ∈ ds, d.own = false)) : inS k f (.col i) ds = [.many i ds (ledS (some (f i)) none).2 (k.coll i)] := by unfold inS; exact if_pos h
theorem dueB_nil (h : inS k f sd ds = []) : BoundsIn w k news [] (dueS k f (.inn sd ds neg)) := by
  show BoundsIn w k news [] (if neg = true then _ else _)
  rw [h]; split <;> exact .nil
theorem inS_nc (h : sd.isCol1 = false) : inS k f sd ds = [] := by
  cases sd with
  | col i => exact inS_not fun x => by simp [Side.isCol1, x.1] at h
  | lit v => rfl
  | cast x y => rfl
  | coll x y => rfl
theorem inS_e : inS k f sd [] = [] := by
  cases sd with
  | col i => exact inS_not fun x => x.2.1 rfl
  | lit v => rfl
  | cast x y => rfl
  | coll x y => rfl
theorem inS_own {d : Side} (hd : d ∈ ds) (h : d.own = true) : inS k f sd ds = [] := by
  cases sd with
  | col i => exact inS_not fun x => by rw [x.2.2 d hd] at h; cases h
  | lit v => rfl
  | cast x y => rfl
  | coll x y => rfl
theorem dueB_in {i : Col} {x dx la : Addr} {n ln : Nat} {k1 k2 k3 k4 k5 a1 a2 a5 : Tok} {r1 r2 : Value} {vs : List Value} (hn : neg = false) (ht : i.t = 1) (h0 : ds ≠ []) (ho : ∀ d ∈ ds, d.own = false) (hl : Led (some (f i)) none r1 r2) (h1 : (x, instObj 571 dx) ∈ news)
    (h2 : (dx, dictOf [ent w "place" k1 (.int i.c a1), ent w "op" k2 (.str (Str.ofString "in") a2), ent w "value" k3 (.ref la), ent w "affinity" k4 r2, ent w "collation" k5 (.str (k.coll i) a5)] n) ∈ news) (h3 : (la, listOf vs.toArray ln) ∈ news) (h4 : NodesIn w k news vs ds) : BoundsIn w k news [.ref x] (dueS k f (.inn (.col i) ds neg)) := by
  show BoundsIn w k news [.ref x] (if neg = true then _ else _)
  rw [if_neg (by rw [hn]; exact Bool.false_ne_true), inS_is ⟨ht, h0, ho⟩]
  exact .cons (.many h1 h2 h3 h4 hl.2) .nil
theorem keepM {h₀ h : Heap} {L b x dx D C : Addr} {l : List (Addr × Obj)} {lo : Obj} {n n2 : Nat} {k1 k2 k3 k4 k5 : Tok} {a1 a2 a4 a5 : Value} (N : News h₀ L h l) (h1 : (b, listOf [.ref x].toArray n) ∈ l) (h2 : (x, instObj C dx) ∈ l)
    (h3 : (dx, dictOf [ent w "place" k1 a1, ent w "op" k2 a2, ent w "value" k3 (.ref D), ent w "affinity" k4 a4, ent w "collation" k5 a5] n2) ∈ l) (h4 : (D, lo) ∈ l) (hs : ∀ p ∈ news, p ∈ l) :
    News h₀ L h ((b, listOf [.ref x].toArray n) :: ([(x, instObj C dx), (dx, dictOf [ent w "place" k1 a1, ent w "op" k2 a2, ent w "value" k3 (.ref D), ent w "affinity" k4 a4, ent w "collation" k5 a5] n2), (D, lo)] ++ news)) := fun p hp => by
  rcases List.mem_cons.mp hp with rfl | hp
  · exact N _ h1
  · rcases List.mem_append.mp hp with hp | hp
    · rcases List.mem_cons.mp hp with rfl | hp
      · exact N _ h2
      · rcases List.mem_cons.mp hp with rfl | hp
        · exact N _ h3
        · rw [List.mem_singleton.mp hp]; exact N _ h4
    · exact N _ (hs _ hp)
end
theorem col_own {i : Col} : (Side.col i).isCol1 = true → i.t = 1 := fun h => by simpa [Side.isCol1] using h
-- B28
section
variable {prog : Program} {w : World} {A : Around} {E : Value → Shared → Prop} {s : Shared} {h₀ : Heap} {env : Env} {target : Expr} {body : List Stmt} {Q : Flow → Shared → Prop}
theorem free_ind {k : Cols} {I : Addr} {ty : String} {news0 rest keep : List (Addr × Obj)} {m₀ : Str → Option Value} {x : Str} (hkeep : SubL keep news0) {vs : List Value} {ds : List Side} (hn : NodesIn w k rest vs ds) (hok : ∀ d ∈ ds, d.Ok) (hm : m₀ x = none)
    (turn : ∀ v d sv (it : Obj) h tk (nx : (Str → Option Value) → List (Addr × Obj) → Prop), NodeIn w k rest v d → d.Ok → d ∈ ds → (d.own = false → nx (fun y => if y = x then some v else updO m₀ x sv y) news0) → it.cls = .type ty →
      Fr h₀ env.locals h (updO m₀ x sv) → News h₀ env.locals h ((I, it) :: news0) →
      wpAny (model prog w) A (assign target env v) (fun _ s₂ => wpAny (model prog w) A (execs body env) (UnrPostW h₀ env.locals { s with heap := h, toks := tk } [(I, it)] nx Q) E s₂) E { s with heap := h, toks := tk })
    (done : ∀ sv h tk, (∀ d ∈ ds, d.own = false) → Fr h₀ env.locals h (updO m₀ x sv) → News h₀ env.locals h news0 → Q .next { s with heap := h, toks := tk }) :
    ItemsRest prog w A E h₀ env target body Q s [(I, ty)] keep (vs.map .val) m₀ news0 := by
  have gen : ∀ {vs2 : List Value} {ds2 : List Side}, NodesIn w k rest vs2 ds2 → ∀ (pd : List Side) (sv : Option Value), ds = pd ++ ds2 → (∀ d ∈ pd, d.own = false) → ItemsRest prog w A E h₀ env target body Q s [(I, ty)] keep (vs2.map .val) (updO m₀ x sv) news0 := by
    intro vs2 ds2 h2
    induction h2 with
    | nil =>
      intro pd sv e hp h tk F N
      rw [List.append_nil] at e
      exact done sv h tk (e ▸ hp) F N
    | @cons v1 vs1 d1 ds1 hv _ ih =>
      intro pd sv e hp
      refine ItemsRest.val fun h tk F it hit N => ?_
      have hmem : d1 ∈ ds := by rw [e]; exact List.mem_append_right _ (List.mem_cons_self ..)
      refine wpAny_mono (turn _ d1 sv it h tk (fun m' n' => n' = news0 ∧ m' = updO m₀ x (some v1) ∧ d1.own = false) hv (hok _ hmem) hmem (fun ho => ⟨rfl, updO_set, ho⟩) hit F N) (fun _ s₂ h₂ => wpAny_mono h₂ (fun f s₃ h₃ => ?_) fun _ _ e => e) fun _ _ e => e
      have nxt : ∀ s', UnrEndW h₀ env.locals { s with heap := h, toks := tk } [(I, it)] (fun m' n' => n' = news0 ∧ m' = updO m₀ x (some v1) ∧ d1.own = false) s' → UnrEndW h₀ env.locals { s with heap := h, toks := tk } [(I, it)] (fun m' n' => SubL keep n' ∧ ItemsRest prog w A E h₀ env target body Q s [(I, ty)] keep (vs1.map .val) m' n') s' := by
        rintro s' ⟨h', tk', m', news', e', F', N', off, rfl, rfl, ho⟩
        exact ⟨h', tk', _, _, e', F', N', off, hkeep, ih (pd ++ [d1]) (some v1) (by rw [e]; simp) (fun d hd => (List.mem_append.mp hd).elim (hp d) fun h9 => by rw [List.mem_singleton.mp h9]; exact ho)⟩
      cases f with
      | ret v => exact h₃
      | brk => exact h₃
      | next => exact nxt _ h₃
      | cont => exact nxt _ h₃
  have := gen hn [] none rfl (List.forall_mem_nil _)
  rwa [← updO_none hm] at this
end
theorem subL_of {p : Addr × Obj} {l : List (Addr × Obj)} (h : p ∈ l) : SubL [p] l := ⟨h, trivial⟩
theorem vs_ne {w : World} {k : Cols} {news : List (Addr × Obj)} {vs : List Value} {ds : List Side} (h : NodesIn w k news vs ds) (e : ¬ (vs.length : Int) = 0) : ds ≠ [] := by
  rintro rfl; cases h; exact e rfl
theorem ds_nil {w : World} {k : Cols} {news : List (Addr × Obj)} {vs : List Value} {ds : List Side} (h : NodesIn w k news vs ds) (e : (vs.length : Int) = 0) : ds = [] := by
  cases h with
  | nil => rfl
  | cons _ _ => simp only [List.length_cons] at e; omega
theorem len_few {prog : Program} {w : World} {A : Around} {E : Value → Shared → Prop} {s : Shared} {h₀ : Heap} {L la : Addr} {news n2 : List (Addr × Obj)} {vs : List Value} {ln : Nat} {k : Cols} {ds : List Side} {Q : Value → Shared → Prop} (N : News h₀ L s.heap news) (hm : (la, listOf vs.toArray ln) ∈ news) (hn : NodesIn w k n2 vs ds) (hl : ds.length ≤ 2) (h : ∀ t tk, Q (.int vs.length t) { s with toks := tk }) :
    wpAny (model prog w) A (call (.builtin "len") [.ref la]) Q E s := len_mem N hm (by rw [hn.len]; omega) (h _ _)
theorem inS_len {w : World} {k : Cols} {f : Col → Aff} {news : List (Addr × Obj)} {sd : Side} {vs : List Value} {ds : List Side} (h : NodesIn w k news vs ds) (e : (vs.length : Int) = 0) : inS k f sd ds = [] := by rw [ds_nil h e]; exact inS_e
-- P16
section
example : True := by
  (k_with "L204" => (((rename Fr _ _ _ _ => lF'); (with_unfolding_all refine' For_turns lF' ?_; k_whole))))
  trivial
local macro_rules | `(tactic| walk_at "exec For Name Attribute cons nil") => `(tactic| k_extra "L204")
example : True := by
  (k_with "L205" => (((with_reducible show wpAny _ _ (pyIter (Value.ref _)) (fun it s₂ => TurnsAt _ _ _ _ _ _ _ _ _ it s₂) _ _); k_dflt (refine' iter_listTurns ?hhz205 ?Fz205 ?Nz205 ?hmz205 ?hcz205 ?hdz205 ?_; (case hhz205 => rfl); (case Fz205 => k_asm); (case Nz205 => k_asm); (case hmz205 => k_mem); (case hcz205 => rfl); (case hdz205 => rfl)); intro I' l9; (try k_lt l9))))
  trivial
local macro_rules | `(tactic| walk_at "pyIter ref") => `(tactic| k_extra "L205")
example : True := by
  (k_with "L206" => ((k_dflt (refine free_ind (x := Str.ofString "item") (subL_of (by k_mem)) (by assumption) (by assumption) rfl ?_ ?_); intro v' d' sv' it' h' tk' nx' hn' ho' hd' hr' hc' F' N')))
  trivial
local macro_rules | `(tactic| walk_at "ItemsRest") => `(tactic| k_extra "L206")
example : True := by
  (k_with "L207" => ((refine' unrW1 ?Fz207 ?Nz207 ?offz207 ?_; (case Fz207 => k_asm); (case Nz207 => first | k_asm | exact rot1 (by k_asm) | exact rot2 (by k_asm)); (case offz207 => k_all))))
  trivial
local macro_rules | `(tactic| walk_at "UnrEndW") => `(tactic| k_extra "L207")
example : True := by
  (k_with "L208" => ((k_dflt (refine' len_few ?k1z208 ?k2z208 ?k3z208 ?k4z208 ?_; (case k1z208 => k_asm); (case k2z208 => k_mem); (case k3z208 => assumption); (case k4z208 => assumption)); intro t' tk')))
  trivial
local macro_rules | `(tactic| walk_at "call builtin:len") => `(tactic| k_extra "L208")
example : True := by
  (k_with "L209" => ((k_dflt (refine' kup_listOf ?Fz209 ?Nz209 ?bz209 ?ez209 ?_ ?zz209; (case Fz209 => k_asm); (case Nz209 => k_asm); (case bz209 => k_mem); (case ez209 => exact ltl _); (case zz209 => (rw [PySem.sizeLine_eq]; show List.length _ ≤ _; rw [NodesIn.len (by assumption)]; omega))); intro D' c' h' F' N' l1; (try k_lt l1); (try k_sweep))))
  trivial
local macro_rules | `(tactic| walk_at "call type:list") => `(tactic| k_extra "L209")
theorem lbs_c {prog : Program} {w : World} {dp un : Nat} {gd : Option (List Code)} {cn : Str} {cs : Scope} {a : Addr} {ccd : Value} {cl : List (Str × Addr)} {outer : List Env} {A₀ : Around} {base h₀ : Heap} {L : Addr} {m : Str → Option Value} {p : Program} {loose : List Str} {mean : ExcName → Option Value} {mg mb : Str → Option Value} {hp : Heap} {gs : Array GenState} {dr : Drawn} {tk : Nat} {os : OsState} {Q E : Value → Shared → Prop} {news : List (Addr × Obj)} {v : Value} {tn : Tok} {sd : Side} {ds : List Side} {neg : Bool} {k : Cols} {f : Col → Aff}
    (c : Cx w dp un 810 8520 cs A₀ base outer h₀ L hp m p loose mean mg mb) (N : News h₀ L hp (news)) (hR : ExprIn w k news v (.inn sd ds neg)) (hB : Cond.Ok (.inn sd ds neg)) (hK : k.AffIs f) (hKo : k.Ok)
    (ret : ∀ la vs n tl h₁ tk₁, BoundsIn w k (tl ++ news) vs (dueS k f (.inn sd ds neg)) → Apart news ((la, listOf vs.toArray n) :: tl) → Fr h₀ L h₁ m → News h₀ L h₁ ((la, listOf vs.toArray n) :: (tl ++ news)) → Q (.ref la) ⟨h₁, gs, dr, tk₁, os⟩) :
    wpAny (model prog w) (ktrTop dp un gd cn cs L a ccd cl outer) (call (.ref 646) [v, .int 1 tn]) Q E ⟨hp, gs, dr, tk, os⟩ := by
  obtain ⟨B, F, X, T, hk, hdp, hun⟩ := c
  refine lowerK hdp hun ?_
  cases hB with
  | inn hl hlen hds =>
    cases hR with
    | inn hm hm2 h1 hla h3 =>
      have hok : ∀ d ∈ ds, d.Ok := fun d hd => Side.Ok.base (hds d hd)
      cases hc : sd.isCol1
      · refine wpAny_call ?_
        k_dflt ktr_enter
        (first | (refine letA ?_; intro A9 e9) | skip)
        k_steps
        · (refine' ret _ _ _ _ _ _ ?e228_0 ?e228_1 ?eF228 ?eN228; (case eN228 => (refine' keep0 ?q227_0 ?q227_1 ?q227_2; (case q227_0 => assumption); (case q227_1 => k_mem); (case q227_2 => ktn_no "Mine.sub"))); (case eF228 => k_asm); (case e228_0 => first | exact dueB_in0 (by assumption) | exact dueB_nil (inS_nc (by assumption)) | exact dueB_nil (inS_own (by assumption) (by assumption)) | exact dueB_nil (inS_len (by assumption) (by assumption))); (case e228_1 => ktn_no "Mine.apart"))
        · (refine' ret _ _ _ _ _ _ ?e230_0 ?e230_1 ?eF230 ?eN230; (case eN230 => (refine' keep0 ?q229_0 ?q229_1 ?q229_2; (case q229_0 => assumption); (case q229_1 => k_mem); (case q229_2 => ktn_no "Mine.sub"))); (case eF230 => k_asm); (case e230_0 => first | exact dueB_in0 (by assumption) | exact dueB_nil (inS_nc (by assumption)) | exact dueB_nil (inS_own (by assumption) (by assumption)) | exact dueB_nil (inS_len (by assumption) (by assumption))); (case e230_1 => ktn_no "Mine.apart"))
      · obtain ⟨i, rfl, ht⟩ := isCol1_col hc
        have g1 := h1
        cases h1 with
        | col _ hm3 hm4 =>
          have hoa : ∀ t, OA (.str (k.aff i) t) (some (f i)) := fun t => by rw [hK.is i]; exact OA.some _ _
          have hoN : OA .none none := OA.none
          k_dflt (refine' enterM (binds := [(Str.ofString "expr", _), (Str.ofString "number", _)]) ?k0 ?k1 ?k2 ?k3 ?k4 ?k5 ?kA ?kF ?kK ?k6 ?k7 ?k8 ?k9 ?kB ?c2 ?_; (case k0 => exact rfl); (case kA => exact rfl); (case kF => exact rfl); (case kK => assumption); (case k1 => k_asm); (case k2 => k_asm); (case k3 => k_asm); (case k4 => k_asm); (case k5 => k_asm); (case k6 => k_is); (case k7 => k_is); (case k8 => exact Nat.le_of_ble_eq_true rfl); (case k9 => kernel_rfl!); (case kB => kernel_rfl!); (case c2 => kernel_rfl!); k_whole; intro g' L' h' t' FG' F' N' B' X' T' e9 A9 qk ek)
          k_steps
          · (refine' ret _ _ _ _ _ _ ?e232_0 ?e232_1 ?eF232 ?eN232; (case eN232 => (refine' keep0 ?q231_0 ?q231_1 ?q231_2; (case q231_0 => assumption); (case q231_1 => k_mem); (case q231_2 => ktn_no "Mine.sub"))); (case eF232 => k_asm); (case e232_0 => first | exact dueB_in0 (by assumption) | exact dueB_nil (inS_nc (by assumption)) | exact dueB_nil (inS_own (by assumption) (by assumption)) | exact dueB_nil (inS_len (by assumption) (by assumption))); (case e232_1 => ktn_no "Mine.apart"))
          · (refine' ret _ _ _ _ _ _ ?e234_0 ?e234_1 ?eF234 ?eN234; (case eN234 => (refine' keep0 ?q233_0 ?q233_1 ?q233_2; (case q233_0 => assumption); (case q233_1 => k_mem); (case q233_2 => ktn_no "Mine.sub"))); (case eF234 => k_asm); (case e234_0 => first | exact dueB_in0 (by assumption) | exact dueB_nil (inS_nc (by assumption)) | exact dueB_nil (inS_own (by assumption) (by assumption)) | exact dueB_nil (inS_len (by assumption) (by assumption))); (case e234_1 => ktn_no "Mine.apart"))
          · (refine' ret _ _ _ _ _ _ ?e236_0 ?e236_1 ?eF236 ?eN236; (case eN236 => (refine' keep0 ?q235_0 ?q235_1 ?q235_2; (case q235_0 => assumption); (case q235_1 => k_mem); (case q235_2 => ktn_no "Mine.sub"))); (case eF236 => k_asm); (case e236_0 => first | exact dueB_in0 (by assumption) | exact dueB_nil (inS_nc (by assumption)) | exact dueB_nil (inS_own (by assumption) (by assumption)) | exact dueB_nil (inS_len (by assumption) (by assumption))); (case e236_1 => ktn_no "Mine.apart"))
          · (rename (_ = false → (_ : (Str → Option Value) → List (Addr × Obj) → Prop) _ _) => hq9; exact hq9 (by assumption))
          · (refine' ret _ _ _ _ _ _ ?e239_0 ?e239_1 ?eF239 ?eN239; (case eN239 => (refine' keepM ?q237_0 ?q237_1 ?q237_2 ?q237_3 ?q237_4 ?q237_5; (case q237_0 => assumption); (case q237_1 => k_mem); (case q237_2 => k_mem); (case q237_3 => k_mem); (case q237_4 => k_mem); (case q237_5 => ktn_no "Mine.sub"))); (case eF239 => k_asm); (case e239_0 => (refine' dueB_in ?q238_0 ?q238_1 ?q238_2 ?q238_3 ?q238_4 ?q238_5 ?q238_6 ?q238_7 ?q238_8; (case q238_0 => assumption); (case q238_1 => exact col_own (by assumption)); (case q238_2 => exact vs_ne (by assumption) (by assumption)); (case q238_3 => assumption); (case q238_4 => assumption); (case q238_5 => k_mem); (case q238_6 => k_mem); (case q238_7 => k_mem); (case q238_8 => (exact NodesIn.mono (by assumption) (by ktn_no "Mine.sub"))))); (case e239_1 => ktn_no "Mine.apart"))
end
example : True := by
  (k_with "CR" => (((with_reducible show wpAny _ _ (call (Value.ref 646) _) _ _ _); k_dflt (refine' lbs_c ?cz210 ?Nz210 ?p0z210 ?p1z210 ?p2z210 ?p3z210 ?_; (case cz210 => ktn_no "Mine.cx"); (case Nz210 => k_asm); (case p0z210 => ktn_no "Mine.rel"); (case p1z210 => k_asm); (case p2z210 => k_asm); (case p3z210 => k_asm); k_whole); intro la' vs' n' tl' h' tk' hb' ha' F' N'; (try k_sweep); ktn_no "Mine.aft")))
  trivial
-- B34
inductive TermIn (w : World) (k : Cols) (news : List (Addr × Obj)) : Value → Cond → Prop
  | mk {x dx : Addr} {n : Nat} {k1 k2 k3 k4 k5 : Tok} {v v2 v3 v4 v5 : Value} {d : Cond} : (x, instObj 618 dx) ∈ news → (dx, dictOf [ent w "expr" k1 v, ent w "needs" k2 v2, ent w "op" k3 v3, ent w "left_name" k4 v4, ent w "right" k5 v5] n) ∈ news → ExprIn w k news v d → TermIn w k news (.ref x) d
theorem TermIn.mono {w : World} {k : Cols} {news news' : List (Addr × Obj)} {v : Value} {d : Cond} (h : TermIn w k news v d) (hs : ∀ p ∈ news, p ∈ news') : TermIn w k news' v d := by
  cases h with
  | mk h1 h2 h3 => exact .mk (hs _ h1) (hs _ h2) (h3.mono hs)
-- P17
section
example : True := by
  (k_with "L211" => (((with_reducible show wpAny _ _ (subscriptTail _ _ (Value.ref 540) (Value.str _ _)) _ _ _); k_dflt (refine' turn_top_get ?Fz211 ?Xz211 ?oz211 ?tz211 ?_; (case Fz211 => k_asm); (case Xz211 => k_asm); (case oz211 => assumption); (case tz211 => assumption)); intro t'; (try dsimp only))))
  trivial
local macro_rules | `(tactic| walk_at "subscriptTail") => `(tactic| k_extra "L211")
example : True := by
  (k_with "L212" => (((with_reducible show wpAny _ _ (compareOp _ (Value.str _ _) (Value.ref 540)) _ _ _); k_dflt (refine' turn_top_in ?Fz212 ?Xz212 ?oz212 ?_; (case Fz212 => k_asm); (case Xz212 => k_asm); (case oz212 => assumption)))))
  trivial
local macro_rules | `(tactic| walk_at "compareOp In str ref") => `(tactic| k_extra "L212")
theorem bnd_c {prog : Program} {w : World} {dp un : Nat} {gd : Option (List Code)} {cn : Str} {cs : Scope} {a : Addr} {ccd : Value} {cl : List (Str × Addr)} {outer : List Env} {A₀ : Around} {base h₀ : Heap} {L : Addr} {m : Str → Option Value} {p : Program} {loose : List Str} {mean : ExcName → Option Value} {mg mb : Str → Option Value} {hp : Heap} {gs : Array GenState} {dr : Drawn} {tk : Nat} {os : OsState} {Q E : Value → Shared → Prop} {news : List (Addr × Obj)} {v : Value} {tn : Tok} {d : Cond} {k : Cols} {f : Col → Aff}
    (c : Cx w dp un 795 8440 cs A₀ base outer h₀ L hp m p loose mean mg mb) (N : News h₀ L hp (news)) (hR : TermIn w k news v (d)) (hB : Cond.Ok (d)) (hK : k.AffIs f) (hKo : k.Ok)
    (ret : ∀ la vs n tl h₁ tk₁, BoundsIn w k (tl ++ news) vs (dueS k f (d)) → Apart news ((la, listOf vs.toArray n) :: tl) → Fr h₀ L h₁ m → News h₀ L h₁ ((la, listOf vs.toArray n) :: (tl ++ news)) → Q (.ref la) ⟨h₁, gs, dr, tk₁, os⟩) :
    wpAny (model prog w) (ktrTop dp un gd cn cs L a ccd cl outer) (call (.ref 653) [v, .int 1 tn]) Q E ⟨hp, gs, dr, tk, os⟩ := by
  obtain ⟨B, F, X, T, hk, hdp, hun⟩ := c
  refine lowerK hdp hun ?_
  cases hR with
  | mk ha1 ha2 he =>
    have ge := he
    have gb := hB
    cases hB with
    | op ho hl hr =>
      cases he with
      | op hm hm2 h1 h2 =>
        k_dflt (refine' enterM (binds := [(Str.ofString "term", _), (Str.ofString "number", _)]) ?k0 ?k1 ?k2 ?k3 ?k4 ?k5 ?kA ?kF ?kK ?k6 ?k7 ?k8 ?k9 ?kB ?c2 ?_; (case k0 => exact rfl); (case kA => exact rfl); (case kF => exact rfl); (case kK => assumption); (case k1 => k_asm); (case k2 => k_asm); (case k3 => k_asm); (case k4 => k_asm); (case k5 => k_asm); (case k6 => k_is); (case k7 => k_is); (case k8 => exact Nat.le_of_ble_eq_true rfl); (case k9 => kernel_rfl!); (case kB => kernel_rfl!); (case c2 => kernel_rfl!); k_whole; intro g' L' h' t' FG' F' N' B' X' T' e9 A9 qk ek)
        k_steps
        · (refine' ret _ _ _ _ _ _ ?e240_0 ?e240_1 ?eF240 ?eN240; (case eN240 => k_asm); (case eF240 => k_asm); (case e240_0 => assumption); (case e240_1 => assumption))
        · (refine' ret _ _ _ _ _ _ ?e242_0 ?e242_1 ?eF242 ?eN242; (case eN242 => (refine' keep0 ?q241_0 ?q241_1 ?q241_2; (case q241_0 => assumption); (case q241_1 => k_mem); (case q241_2 => ktn_no "Mine.sub"))); (case eF242 => k_asm); (case e242_0 => exact dueB_op0 (by assumption)); (case e242_1 => ktn_no "Mine.apart"))
    | btw hl hr hz =>
      cases he with
      | btw hm hm2 h1 h2 h3 =>
        k_dflt (refine' enterM (binds := [(Str.ofString "term", _), (Str.ofString "number", _)]) ?k0 ?k1 ?k2 ?k3 ?k4 ?k5 ?kA ?kF ?kK ?k6 ?k7 ?k8 ?k9 ?kB ?c2 ?_; (case k0 => exact rfl); (case kA => exact rfl); (case kF => exact rfl); (case kK => assumption); (case k1 => k_asm); (case k2 => k_asm); (case k3 => k_asm); (case k4 => k_asm); (case k5 => k_asm); (case k6 => k_is); (case k7 => k_is); (case k8 => exact Nat.le_of_ble_eq_true rfl); (case k9 => kernel_rfl!); (case kB => kernel_rfl!); (case c2 => kernel_rfl!); k_whole; intro g' L' h' t' FG' F' N' B' X' T' e9 A9 qk ek)
        k_steps
        · (refine' ret _ _ _ _ _ _ ?e243_0 ?e243_1 ?eF243 ?eN243; (case eN243 => k_asm); (case eF243 => k_asm); (case e243_0 => assumption); (case e243_1 => assumption))
    | inn hl hlen hds =>
      cases he with
      | inn hm hm2 h1 hla h3 =>
        k_dflt (refine' enterM (binds := [(Str.ofString "term", _), (Str.ofString "number", _)]) ?k0 ?k1 ?k2 ?k3 ?k4 ?k5 ?kA ?kF ?kK ?k6 ?k7 ?k8 ?k9 ?kB ?c2 ?_; (case k0 => exact rfl); (case kA => exact rfl); (case kF => exact rfl); (case kK => assumption); (case k1 => k_asm); (case k2 => k_asm); (case k3 => k_asm); (case k4 => k_asm); (case k5 => k_asm); (case k6 => k_is); (case k7 => k_is); (case k8 => exact Nat.le_of_ble_eq_true rfl); (case k9 => kernel_rfl!); (case kB => kernel_rfl!); (case c2 => kernel_rfl!); k_whole; intro g' L' h' t' FG' F' N' B' X' T' e9 A9 qk ek)
        k_steps
        · (refine' ret _ _ _ _ _ _ ?e244_0 ?e244_1 ?eF244 ?eN244; (case eN244 => k_asm); (case eF244 => k_asm); (case e244_0 => assumption); (case e244_1 => assumption))
    | null hl =>
      cases he with
      | null hm hm2 h1 =>
        k_dflt (refine' enterM (binds := [(Str.ofString "term", _), (Str.ofString "number", _)]) ?k0 ?k1 ?k2 ?k3 ?k4 ?k5 ?kA ?kF ?kK ?k6 ?k7 ?k8 ?k9 ?kB ?c2 ?_; (case k0 => exact rfl); (case kA => exact rfl); (case kF => exact rfl); (case kK => assumption); (case k1 => k_asm); (case k2 => k_asm); (case k3 => k_asm); (case k4 => k_asm); (case k5 => k_asm); (case k6 => k_is); (case k7 => k_is); (case k8 => exact Nat.le_of_ble_eq_true rfl); (case k9 => kernel_rfl!); (case kB => kernel_rfl!); (case c2 => kernel_rfl!); k_whole; intro g' L' h' t' FG' F' N' B' X' T' e9 A9 qk ek)
        k_steps
        · (refine' ret _ _ _ _ _ _ ?e246_0 ?e246_1 ?eF246 ?eN246; (case eN246 => (refine' keep0 ?q245_0 ?q245_1 ?q245_2; (case q245_0 => assumption); (case q245_1 => k_mem); (case q245_2 => ktn_no "Mine.sub"))); (case eF246 => k_asm); (case e246_0 => exact BoundsIn.nil); (case e246_1 => ktn_no "Mine.apart"))
end
example : True := by
  (k_with "CR" => (((with_reducible show wpAny _ _ (call (Value.ref 653) _) _ _ _); k_dflt (refine' bnd_c ?cz213 ?Nz213 ?p0z213 ?p1z213 ?p2z213 ?p3z213 ?_; (case cz213 => ktn_no "Mine.cx"); (case Nz213 => k_asm); (case p0z213 => ktn_no "Mine.rel"); (case p1z213 => k_asm); (case p2z213 => k_asm); (case p3z213 => k_asm); k_whole); intro la' vs' n' tl' h' tk' hb' ha' F' N'; (try k_sweep); ktn_no "Mine.aft")))
  trivial
-- B35
/-- the end of a test within a comprehension: nothing is made, whatever it says -/
noncomputable def TestAny (h₀ : Heap) (L : Addr) (m : Str → Option Value) (l : List (Addr × Obj)) (s : Shared) (uok : Bool) (s' : Shared) : Prop :=
  ∃ h tk, s' = { s with heap := h, toks := tk } ∧ Fr h₀ L h m ∧ News h₀ L h l
theorem TestAny.of {h₀ : Heap} {L : Addr} {m : Str → Option Value} {l : List (Addr × Obj)} {ok : Bool} {s : Shared} {h : Heap} {tk : Nat} (F : Fr h₀ L h m) (N : News h₀ L h l) : TestAny h₀ L m l s ok { s with heap := h, toks := tk } := ⟨h, tk, rfl, F, N⟩
section
variable {prog : Program} {w : World} {A : Around} {E : Value → Shared → Prop} {s : Shared} {h₀ : Heap} {L : Addr} {m : Str → Option Value} {env : Env}
theorem num_rest {x : Str} {p4 : Pos} {ct : PySem.Expr} {scope : Scope} {cl : List (Str × Addr)} {S : List (Addr × Obj) → Prop} {all : List Value} {Fin : List Value → List (Addr × Obj) → Prop} {news : List (Addr × Obj)} (hS : S news)
    (hk : ∀ C, (compEnvC scope cl C env).scope.kind = .function) (hl : ∀ C, (compEnvC scope cl C env).kindOf x = some .local) (hd : (x == ("__debug__" : Str)) = false)
    (ht : ∀ z t I oI C oC D m₂ ys h tk (E' : Value → Shared → Prop), LCg.NsObj oC m₂ → m₂ x = some (.int z t) → Fr h₀ L h m → News h₀ L h ((I, oI) :: (C, oC) :: (D, LCg.lst ys) :: news) → LCg.Off3 I C D news → ((@Ne Nat I C) ∧ (@Ne Nat I D) ∧ (@Ne Nat C D)) →
      wpAny (model prog w) A (isTrue ct (compEnvC scope cl C env) (eval ct (compEnvC scope cl C env))) (TestAny h₀ L m ((I, oI) :: (C, oC) :: (D, LCg.lst ys) :: news) { s with heap := h, toks := tk }) E' { s with heap := h, toks := tk }) :
    ∀ (vs : List Value) (ns : List Int), IntsAre vs ns → ∀ (i : Nat) (ys : List Value), (∀ j : Nat, all.toArray[i + j]? = vs[j]?) → (∀ ws ns', IntsAre ws ns' → ws.length ≤ vs.length → Fin (ys ++ ws) news) →
      LCt.CompRestT prog w A h₀ L m env ct (.Name x p4) x scope cl s S (fun i v => all.toArray[i]? = some v) Fin vs.length i ys news := by
  intro vs ns r
  induction r with
  | nil => exact fun i ys _ h => LCt.CompRestT.zero (by simpa using h [] [] IntsAre.nil (Nat.le_refl _))
  | cons z t hr ih =>
    rename_i vs ns
    intro i ys hj h
    refine LCt.CompRestT.succ ?_
    intro v' I oI C oC D m₂ h' tk E' hv hC hx F N off ne
    have e0 := hj 0
    simp only [Nat.add_zero, List.getElem?_cons_zero] at e0
    have e := Option.some.inj (e0.symm.trans hv)
    subst e
    have hj' : ∀ j : Nat, all.toArray[i + 1 + j]? = vs[j]? := fun j => by
      have := hj (j + 1)
      simp only [List.getElem?_cons_succ] at this
      rw [← this]; congr 1; omega
    refine wpAny_mono (ht _ _ I oI C oC D m₂ ys h' tk E' hC hx F N off ne) (fun ok s' hq => ?_) fun _ _ e => e
    obtain ⟨h₂, tk₂, rfl, F₂, N₂⟩ := hq
    cases ok
    · simp only [Bool.false_eq_true, if_false]
      exact compEnd0 F₂ N₂ off hS (ih (i + 1) ys hj' fun ws ns' hI hw => h ws ns' hI (Nat.le_succ_of_le hw))
    · simp only [if_true]
      refine LCgL.ld_own N₂ (by simp) hC hx ?_ (hk _) (hl _) hd
      refine compEnd0 F₂ N₂ off hS (ih (i + 1) (ys ++ [.int z t]) hj' fun ws ns' hI hw => ?_)
      have := h (.int z t :: ws) (z :: ns') (IntsAre.cons _ _ hI) (Nat.succ_le_succ hw)
      rw [List.append_assoc]; exact this
theorem num_src {x : Str} {p4 : Pos} {ct : PySem.Expr} {scope : Scope} {cl : List (Str × Addr)} {Fin : Shared → List Value → List (Addr × Obj) → Prop} {ax : Addr} {vs : List Value} {ns : List Int} {k : Nat} {news : List (Addr × Obj)} {s₁ : Shared}
    (hh : A.handled = none) (F : Fr h₀ L s₁.heap m) (N : News h₀ L s₁.heap news) (hm : (ax, listOf vs.toArray k) ∈ news) (r : IntsAre vs ns) (hlen : vs.length ≤ 8)
    (hk : scope.kind = .function) (hl : scope.names.lookup x = some .local) (hd : (x == ("__debug__" : Str)) = false)
    (ht : ∀ g z t I oI C oC D m₂ ys h tk (E' : Value → Shared → Prop), LCg.NsObj oC m₂ → m₂ x = some (.int z t) → Fr h₀ L h m → News h₀ L h ((I, oI) :: (C, oC) :: (D, LCg.lst ys) :: news) → LCg.Off3 I C D news → ((@Ne Nat I C) ∧ (@Ne Nat I D) ∧ (@Ne Nat C D)) →
      wpAny (model prog w) A (isTrue ct (compEnvC scope cl C env) (eval ct (compEnvC scope cl C env))) (TestAny h₀ L m ((I, oI) :: (C, oC) :: (D, LCg.lst ys) :: news) { { s₁ with heap := g } with heap := h, toks := tk }) E' { s₁ with heap := h, toks := tk })
    (hf : ∀ g ws ns', IntsAre ws ns' → ws.length ≤ 8 → Fin { s₁ with heap := g } ws news) :
    LCt.CompSrcT prog w A h₀ L m env ct (.Name x p4) x scope cl Fin (.ref ax) s₁ := by
  refine LCt.CompSrcT.ledger hh F N hm (by rw [PySem.sizeLine_eq, List.size_toArray]; omega) fun g => ?_
  rw [List.size_toArray]
  exact num_rest (s := { s₁ with heap := g }) (.inr ⟨_, hm, rfl, _, rfl⟩) (fun C => hk) (fun C => lookup_relabel_local hl) hd (ht g) vs ns r 0 [] (fun j => by simp) fun ws ns' hI hw => hf g ws ns' hI (Nat.le_trans hw hlen)
end
-- P18
section
example : True := by
  (k_with "L214" => ((k_dflt (refine' sorted_nums ?hhz214 ?Fz214 ?Nz214 ?mz214 ?dz214 ?loz214 ?lenz214 ?_; (case hhz214 => rfl); (case Fz214 => k_asm); (case Nz214 => k_asm); (case mz214 => k_mem); (case dz214 => assumption); (case loz214 => assumption); (case lenz214 => first | assumption | exact Nat.le_trans addN_len (by decide))); intro B' c' h' tk' vs' ns' F' N' l1 hI' hp'; (try k_lt l1))))
  trivial
local macro_rules | `(tactic| walk_at "call builtin:sorted") => `(tactic| k_extra "L214")
theorem outE_c {prog : Program} {w : World} {dp un : Nat} {gd : Option (List Code)} {cn : Str} {cs : Scope} {a : Addr} {ccd : Value} {cl : List (Str × Addr)} {outer : List Env} {A₀ : Around} {base h₀ : Heap} {L : Addr} {m : Str → Option Value} {p : Program} {loose : List Str} {mean : ExcName → Option Value} {mg mb : Str → Option Value} {hp : Heap} {gs : Array GenState} {dr : Drawn} {tk : Nat} {os : OsState} {Q E : Value → Shared → Prop} {news : List (Addr × Obj)} {v : Value} {d : Cond} {k : Cols}
    (c : Cx w dp un 840 8680 cs A₀ base outer h₀ L hp m p loose mean mg mb) (N : News h₀ L hp (news)) (hR : ExprIn w k news v d) (hB : d.Ok)
    (ret : ∀ B c vs ns h₁ tk₁, IntsAre vs ns → vs.length ≤ 8 → (∀ p ∈ news, p.1 < B) → Fr h₀ L h₁ m → News h₀ L h₁ ((B, listOf vs.toArray c) :: news) → Q (.ref B) ⟨h₁, gs, dr, tk₁, os⟩) :
    wpAny (model prog w) (ktrTop dp un gd cn cs L a ccd cl outer) (call (.ref 495) [v]) Q E ⟨hp, gs, dr, tk, os⟩ := by
  obtain ⟨B, F, X, T, hk, hdp, hun⟩ := c
  refine lowerK hdp hun ?_
  k_dflt (refine' enterM (binds := [(Str.ofString "expr", _)]) ?k0 ?k1 ?k2 ?k3 ?k4 ?k5 ?kA ?kF ?kK ?k6 ?k7 ?k8 ?k9 ?kB ?c2 ?_; (case k0 => exact rfl); (case kA => exact rfl); (case kF => exact rfl); (case kK => assumption); (case k1 => k_asm); (case k2 => k_asm); (case k3 => k_asm); (case k4 => k_asm); (case k5 => k_asm); (case k6 => k_is); (case k7 => k_is); (case k8 => exact Nat.le_of_ble_eq_true rfl); (case k9 => kernel_rfl!); (case kB => kernel_rfl!); (case c2 => kernel_rfl!); k_whole; intro g' L' h' t' FG' F' N' B' X' T' e9 A9 qk ek)
  k_steps
  (refine' ret _ _ _ _ _ _ ?e247_0 ?e247_1 ?e247_2 ?eF247 ?eN247; (case eN247 => ktn_no "Mine.N"); (case eF247 => k_asm); (case e247_0 => assumption); (case e247_1 => (rw [IntsAre.length (by assumption), List.Perm.length_eq (by assumption), List.length_map]; assumption)); (case e247_2 => first | assumption | exact ktn_ltOf (by ktn_no "Mine.lt")))
end
example : True := by
  (k_with "CR" => (((with_reducible show wpAny _ _ (call (Value.ref 495) _) _ _ _); k_dflt (refine' outE_c ?cz215 ?Nz215 ?p0z215 ?p1z215 ?_; (case cz215 => ktn_no "Mine.cx"); (case Nz215 => k_asm); (case p0z215 => ktn_no "Mine.rel"); (case p1z215 => k_asm); k_whole); intro B' c' vs' ns' h' tk' hI' hz' l1 F' N'; (try k_lt l1); (try k_sweep); ktn_no "Mine.aft")))
  trivial
-- B36
noncomputable def Side.isName : Side → Bool
  | .col _ => true | _ => false
theorem isinst_name {prog : Program} {w : World} {A : Around} {E : Value → Shared → Prop} {s : Shared} {h₀ : Heap} {L : Addr} {m : Str → Option Value} {news : List (Addr × Obj)} {k : Cols} {v : Value} {l : Side} {p : Program} {loose : List Str} {mean : ExcName → Option Value} {mg mb : Str → Option Value} {Q : Value → Shared → Prop}
    (F : Fr h₀ L s.heap m) (N : News h₀ L s.heap news) (X : (mk.heap_1 w.params).In h₀) (T : Top p loose mean mg mb h₀) (h : NodeIn w k news v l) (hQ : ∀ tk, Q (.bool l.isName) { s with toks := tk }) : wpAny (model prog w) A (call (.builtin "isinstance") [v, .ref 116]) Q E s := by
  cases h with
  | col i h1 h2 => walk1; exact hQ _
  | lit h1 h2 h3 => walk1; exact hQ _
  | cast h1 h2 h3 => walk1; exact hQ _
  | coll h1 h2 h3 => walk1; exact hQ _
theorem set_made {prog : Program} {w : World} {A : Around} {E : Value → Shared → Prop} {s : Shared} {h₀ : Heap} {L : Addr} {m : Str → Option Value} {news : List (Addr × Obj)} {l : Addr} {vs : List Value} {ns : List Int} {c : Nat} {Q : Value → Shared → Prop} (hh : A.handled = none) (F : Fr h₀ L s.heap m) (N : News h₀ L s.heap news)
    (hm : (l, listOf vs.toArray c) ∈ news) (hi : IntsAre vs ns) (hb : vs.length ≤ 8)
    (h : ∀ D h' tk o, Fr h₀ L h' m → News h₀ L h' ((D, o) :: news) → (∀ p ∈ news, p.1 < D) → Q (.ref D) { s with heap := h', toks := tk }) : wpAny (model prog w) A (call (.type "set") [.ref l]) Q E s := by
  have hl' : s.heap.IsList l vs.toArray := News.isList N hm
  refine PySem.call_set_list (items := vs.toArray) (ns := ns) hh hl' (by simpa using hi) (by rw [List.size_toArray]; unfold scanBound; omega) fun h' tk hS hk => ?_
  obtain ⟨o, ho, _⟩ := hS.objOf
  obtain ⟨oL, _, _, hL, _⟩ := F.ns
  have hLlt : L < s.heap.objs.size := Heap.lt_size hL
  refine h _ h' tk o ⟨F.ns.at' fun o' e => hk L o' hLlt e, fun b o' e => hk b o' (Heap.lt_size (F.keep b o' e)) (F.keep b o' e), F.above⟩ (fun p hp => ?_) fun p hp => Heap.lt_size (N p hp).1
  rcases List.mem_cons.mp hp with rfl | hp
  · refine ⟨ho, Nat.ne_of_gt hLlt, ?_⟩
    cases hq : h₀.get? s.heap.objs.size with
    | none => rfl
    | some o' => exact absurd (Heap.lt_size (F.keep _ _ hq)) (Nat.lt_irrefl _)
  · exact ⟨hk _ _ (Heap.lt_size (N p hp).1) (N p hp).1, (N p hp).2.1, (N p hp).2.2⟩
-- P24
section
example : True := by
  (k_with "L216" => ((k_dflt (refine LCt.ListComp_T (F₀ := by k_asm) (by with_unfolding_all rfl) (by decide) (by rfl) (by decide) (by rfl) ?_))))
  trivial
local macro_rules | `(tactic| walk_at "eval ListComp") => `(tactic| k_extra "L216")
example : True := by
  (k_with "L217" => ((k_dflt (refine' num_src ?hhz217 ?Fz217 ?Nz217 ?hmz217 ?rz217 ?hlenz217 ?hkz217 ?hlz217 ?hdz217 ?_ ?_; (case hhz217 => rfl); (case Fz217 => k_asm); (case Nz217 => k_asm); (case hmz217 => k_mem); (case rz217 => assumption); (case hlenz217 => assumption); (case hkz217 => rfl); (case hlz217 => rfl); (case hdz217 => decide)))))
  trivial
local macro_rules | `(tactic| walk_at "CompSrcT") => `(tactic| k_extra "L217")
example : True := by
  (k_with "L218" => ((refine' TestAny.of ?Fz218 ?Nz218; (case Fz218 => k_asm); (case Nz218 => k_asm))))
  trivial
local macro_rules | `(tactic| walk_at "TestAny") => `(tactic| k_extra "L218")
example : True := by
  (k_with "L219" => (((with_reducible show wpAny _ _ (call _ [_, Value.ref 116]) _ _ _); k_dflt (refine' isinst_name ?Fz219 ?Nz219 ?Xz219 ?Tz219 ?hz219 ?_; (case Fz219 => k_asm); (case Nz219 => k_asm); (case Xz219 => k_asm); (case Tz219 => k_asm); (case hz219 => ktn_no "Mine.rel")); intro tk')))
  trivial
local macro_rules | `(tactic| walk_at "call builtin:isinstance") => `(tactic| k_extra "L219")
example : True := by
  (k_with "L220" => ((k_dflt (refine' in_list_ints ?lz220 ?iz220 ?_; (case lz220 => exact News.isList (by k_asm) (by k_mem)); (case iz220 => exact IntsAre.cons _ _ (IntsAre.cons _ _ IntsAre.nil))))))
  trivial
local macro_rules | `(tactic| walk_at "compareOp In") => `(tactic| k_extra "L220")
example : True := by
  (k_with "L221" => ((k_dflt (refine' set_made ?hhz221 ?Fz221 ?Nz221 ?mz221 ?iz221 ?bz221 ?_; (case hhz221 => rfl); (case Fz221 => k_asm); (case Nz221 => k_asm); (case mz221 => k_mem); (case iz221 => assumption); (case bz221 => assumption)); intro D' h' tk' o' F' N' l1; (try k_lt l1))))
  trivial
local macro_rules | `(tactic| walk_at "call type:set") => `(tactic| k_extra "L221")
example : True := by
  (k_with "L222" => (((with_reducible show wpAny _ _ (subscriptTail _ _ (Value.ref 540) (Value.str _ _)) _ _ _); k_dflt (refine' turn_top_get ?Fz222 ?Xz222 ?oz222 ?tz222 ?_; (case Fz222 => k_asm); (case Xz222 => k_asm); (case oz222 => assumption); (case tz222 => assumption)); intro t'; (try dsimp only))))
  trivial
local macro_rules | `(tactic| walk_at "subscriptTail") => `(tactic| k_extra "L222")
example : True := by
  (k_with "L223" => (((with_reducible show wpAny _ _ (compareOp _ (Value.str _ _) (Value.ref 540)) _ _ _); k_dflt (refine' turn_top_in ?Fz223 ?Xz223 ?oz223 ?_; (case Fz223 => k_asm); (case Xz223 => k_asm); (case oz223 => assumption)))))
  trivial
local macro_rules | `(tactic| walk_at "compareOp In str ref") => `(tactic| k_extra "L223")
theorem topNotIn_K {prog : Program} {w : World} {A : Around} {E : Value → Shared → Prop} {s : Shared} {K : Frag} {h₀ : Heap} {L a : Addr} {m : Str → Option Value} {x : Str} {t : Tok} {es : Array DictEntry} {n : Nat} {r : Option Value} {Q : Value → Shared → Prop} (F : Fr h₀ L s.heap m) (X₀ : K.In h₀) (hl : K.lookup a = some ⟨.type "dict", none, .dict es n, #[]⟩) (hk : KeysLit w.params es.toList) (e : nsIn K a x = some r) (lo : (a == sysModules) = false)
    (h : Q (.bool (!r.isSome)) { s with toks := s.toks + 1 }) : wpAny (model prog w) A (compareOp .NotIn (.str x t) (.ref a)) Q E s :=
  wpAny_notIn_of (strKind_is prog w x t) lo (mapOf_K (prog := prog) (X₀.keeps F.keep) hl hk) (by rw [find_K hl e]; exact h)
theorem turn_top_notin {prog : Program} {w : World} {A : Around} {E : Value → Shared → Prop} {s : Shared} {h₀ : Heap} {L : Addr} {m : Str → Option Value} {op : Str} {t : Tok} {Q : Value → Shared → Prop} (F : Fr h₀ L s.heap m) (X : (mk.heap_1 w.params).In h₀) (ho : op ∈ OPS) (h : Q (.bool (!isTurn op)) { s with toks := s.toks + 1 }) :
    wpAny (model prog w) A (compareOp .NotIn (.str op t) (.ref 540)) Q E s := by
  rcases ops_cases ho with rfl | rfl | rfl | rfl | rfl | rfl
  · rw [turn_eq.2] at h; k_dflt (refine' topNotIn_K F X ?l1 ?k1 ?e1 ?o1 ?_; (case l1 => k_is); (case k1 => k_keys); (case e1 => k_is); (case o1 => decide)); exact h
  · rw [turn_lt.2] at h; k_dflt (refine' topNotIn_K F X ?l2 ?k2 ?e2 ?o2 ?_; (case l2 => k_is); (case k2 => k_keys); (case e2 => k_is); (case o2 => decide)); exact h
  · rw [turn_le.2] at h; k_dflt (refine' topNotIn_K F X ?l3 ?k3 ?e3 ?o3 ?_; (case l3 => k_is); (case k3 => k_keys); (case e3 => k_is); (case o3 => decide)); exact h
  · rw [turn_gt.2] at h; k_dflt (refine' topNotIn_K F X ?l4 ?k4 ?e4 ?o4 ?_; (case l4 => k_is); (case k4 => k_keys); (case e4 => k_is); (case o4 => decide)); exact h
  · rw [turn_ge.2] at h; k_dflt (refine' topNotIn_K F X ?l5 ?k5 ?e5 ?o5 ?_; (case l5 => k_is); (case k5 => k_keys); (case e5 => k_is); (case o5 => decide)); exact h
  · rw [turn_ne] at h; k_dflt (refine' topNotIn_K F X ?l6 ?k6 ?e6 ?o6 ?_; (case l6 => k_is); (case k6 => k_keys); (case e6 => k_is); (case o6 => decide)); exact h
theorem not_f {b : Bool} (h : (!b) = false) : b = true := by cases b <;> simp_all
example : True := by
  (k_with "L224" => (((with_reducible show wpAny _ _ (compareOp _ (Value.str _ _) (Value.ref 540)) _ _ _); k_dflt (refine' turn_top_notin ?Fz224 ?Xz224 ?oz224 ?_; (case Fz224 => k_asm); (case Xz224 => k_asm); (case oz224 => assumption)); (try dsimp only))))
  trivial
local macro_rules | `(tactic| walk_at "compareOp NotIn str ref") => `(tactic| k_extra "L224")
example : True := by
  (k_with "L225" => (((with_reducible show wpAny _ _ (subscriptTail _ _ (Value.ref 540) (Value.str _ _)) _ _ _); k_dflt (refine' turn_top_get ?Fz225 ?Xz225 ?oz225 ?tz225 ?_; (case Fz225 => k_asm); (case Xz225 => k_asm); (case oz225 => assumption); (case tz225 => first | assumption | exact not_f (by assumption))); intro t'; (try dsimp only))))
  trivial
local macro_rules | `(tactic| walk_at "subscriptTail Name Attribute ref str") => `(tactic| k_extra "L225")
theorem tkf_c {prog : Program} {w : World} {dp un : Nat} {gd : Option (List Code)} {cn : Str} {cs : Scope} {a : Addr} {ccd : Value} {cl : List (Str × Addr)} {outer : List Env} {A₀ : Around} {base h₀ : Heap} {L : Addr} {m : Str → Option Value} {p : Program} {loose : List Str} {mean : ExcName → Option Value} {mg mb : Str → Option Value} {hp : Heap} {gs : Array GenState} {dr : Drawn} {tk : Nat} {os : OsState} {Q E : Value → Shared → Prop} {rest : List (Addr × Obj)} {x dx : Addr} {k1 k2 k3 k4 k5 : Tok} {v v2 : Value} {d : Cond} {k : Cols}
    (c : Cx w dp un 870 8840 cs A₀ base outer h₀ L hp m p loose mean mg mb) (N : News h₀ L hp ((dx, dictOf [ent w "expr" k1 v, ent w "needs" k2 v2, ent w "op" k3 .none, ent w "left_name" k4 .none, ent w "right" k5 .none] 5) :: rest)) (hne : ∀ p ∈ rest, p.1 ≠ dx) (hx : (x, instObj 618 dx) ∈ rest) (hR : ExprIn w k rest v d) (hB : d.Ok)
    (ret : ∀ v3 v4 v5 h₁ tk₁, Fr h₀ L h₁ m → News h₀ L h₁ ((dx, dictOf [ent w "expr" k1 v, ent w "needs" k2 v2, ent w "op" k3 v3, ent w "left_name" k4 v4, ent w "right" k5 v5] 5) :: rest) → Q .none ⟨h₁, gs, dr, tk₁, os⟩) :
    wpAny (model prog w) (ktrTop dp un gd cn cs L a ccd cl outer) (call (.ref 594) [.ref x]) Q E ⟨hp, gs, dr, tk, os⟩ := by
  obtain ⟨B, F, X, T, hk, hdp, hun⟩ := c
  refine lowerK hdp hun ?_
  cases hB with
  | op ho hl hr =>
    cases hR with
    | op hm hm2 h1 h2 =>
      k_dflt (refine' enterM (binds := [(Str.ofString "self", _)]) ?k0 ?k1 ?k2 ?k3 ?k4 ?k5 ?kA ?kF ?kK ?k6 ?k7 ?k8 ?k9 ?kB ?c2 ?_; (case k0 => exact rfl); (case kA => exact rfl); (case kF => exact rfl); (case kK => assumption); (case k1 => k_asm); (case k2 => k_asm); (case k3 => k_asm); (case k4 => k_asm); (case k5 => k_asm); (case k6 => k_is); (case k7 => k_is); (case k8 => exact Nat.le_of_ble_eq_true rfl); (case k9 => kernel_rfl!); (case kB => kernel_rfl!); (case c2 => kernel_rfl!); k_whole; intro g' L' h' t' FG' F' N' B' X' T' e9 A9 qk ek)
      k_steps
      · (refine' ret _ _ _ _ _  ?eF249 ?eN249; (case eN249 => ktn_no "Mine.N"); (case eF249 => k_asm))
      · (refine' ret _ _ _ _ _  ?eF250 ?eN250; (case eN250 => ktn_no "Mine.N"); (case eF250 => k_asm))
      · (refine' ret _ _ _ _ _  ?eF251 ?eN251; (case eN251 => ktn_no "Mine.N"); (case eF251 => k_asm))
      · (refine' ret _ _ _ _ _  ?eF252 ?eN252; (case eN252 => ktn_no "Mine.N"); (case eF252 => k_asm))
  | btw hl hr hz =>
    cases hR with
    | btw hm hm2 h1 h2 h3 =>
      k_dflt (refine' enterM (binds := [(Str.ofString "self", _)]) ?k0 ?k1 ?k2 ?k3 ?k4 ?k5 ?kA ?kF ?kK ?k6 ?k7 ?k8 ?k9 ?kB ?c2 ?_; (case k0 => exact rfl); (case kA => exact rfl); (case kF => exact rfl); (case kK => assumption); (case k1 => k_asm); (case k2 => k_asm); (case k3 => k_asm); (case k4 => k_asm); (case k5 => k_asm); (case k6 => k_is); (case k7 => k_is); (case k8 => exact Nat.le_of_ble_eq_true rfl); (case k9 => kernel_rfl!); (case kB => kernel_rfl!); (case c2 => kernel_rfl!); k_whole; intro g' L' h' t' FG' F' N' B' X' T' e9 A9 qk ek)
      k_steps
      (refine' ret _ _ _ _ _  ?eF253 ?eN253; (case eN253 => ktn_no "Mine.N"); (case eF253 => k_asm))
  | inn hl hlen hds =>
    cases hR with
    | inn hm hm2 h1 hla h3 =>
      k_dflt (refine' enterM (binds := [(Str.ofString "self", _)]) ?k0 ?k1 ?k2 ?k3 ?k4 ?k5 ?kA ?kF ?kK ?k6 ?k7 ?k8 ?k9 ?kB ?c2 ?_; (case k0 => exact rfl); (case kA => exact rfl); (case kF => exact rfl); (case kK => assumption); (case k1 => k_asm); (case k2 => k_asm); (case k3 => k_asm); (case k4 => k_asm); (case k5 => k_asm); (case k6 => k_is); (case k7 => k_is); (case k8 => exact Nat.le_of_ble_eq_true rfl); (case k9 => kernel_rfl!); (case kB => kernel_rfl!); (case c2 => kernel_rfl!); k_whole; intro g' L' h' t' FG' F' N' B' X' T' e9 A9 qk ek)
      k_steps
      (refine' ret _ _ _ _ _  ?eF254 ?eN254; (case eN254 => ktn_no "Mine.N"); (case eF254 => k_asm))
  | null hl =>
    cases hR with
    | null hm hm2 h1 =>
      k_dflt (refine' enterM (binds := [(Str.ofString "self", _)]) ?k0 ?k1 ?k2 ?k3 ?k4 ?k5 ?kA ?kF ?kK ?k6 ?k7 ?k8 ?k9 ?kB ?c2 ?_; (case k0 => exact rfl); (case kA => exact rfl); (case kF => exact rfl); (case kK => assumption); (case k1 => k_asm); (case k2 => k_asm); (case k3 => k_asm); (case k4 => k_asm); (case k5 => k_asm); (case k6 => k_is); (case k7 => k_is); (case k8 => exact Nat.le_of_ble_eq_true rfl); (case k9 => kernel_rfl!); (case kB => kernel_rfl!); (case c2 => kernel_rfl!); k_whole; intro g' L' h' t' FG' F' N' B' X' T' e9 A9 qk ek)
      k_steps
      (refine' ret _ _ _ _ _  ?eF255 ?eN255; (case eN255 => ktn_no "Mine.N"); (case eF255 => k_asm))
end
example : True := by
  (k_with "CR" => (((with_reducible show wpAny _ _ (call (Value.ref 594) _) _ _ _); k_dflt (refine' tkf_c ?cz226 ?Nz226 ?p0z226 ?p1z226 ?p2z226 ?p3z226 ?_; (case cz226 => ktn_no "Mine.cx"); (case Nz226 => ktn_no "Mine.src"); (case p0z226 => k_all); (case p1z226 => k_mem); (case p2z226 => ktn_no "Mine.rel"); (case p3z226 => k_asm); k_whole); intro v3' v4' v5' h' tk' F' N'; (try k_sweep); ktn_no "Mine.aft")))
  trivial
-- P19
section
example : True := by
  (k_with "L227" => ((k_dflt (refine LCt.ListComp_T (F₀ := by k_asm) (by with_unfolding_all rfl) (by decide) (by rfl) (by decide) (by rfl) ?_))))
  trivial
local macro_rules | `(tactic| walk_at "eval ListComp") => `(tactic| k_extra "L227")
example : True := by
  (k_with "L228" => ((k_dflt (refine' num_src ?hhz228 ?Fz228 ?Nz228 ?hmz228 ?rz228 ?hlenz228 ?hkz228 ?hlz228 ?hdz228 ?_ ?_; (case hhz228 => rfl); (case Fz228 => k_asm); (case Nz228 => k_asm); (case hmz228 => k_mem); (case rz228 => assumption); (case hlenz228 => assumption); (case hkz228 => rfl); (case hlz228 => rfl); (case hdz228 => decide)))))
  trivial
local macro_rules | `(tactic| walk_at "CompSrcT") => `(tactic| k_extra "L228")
example : True := by
  (k_with "L229" => ((refine' TestAny.of ?Fz229 ?Nz229; (case Fz229 => k_asm); (case Nz229 => k_asm))))
  trivial
local macro_rules | `(tactic| walk_at "TestAny") => `(tactic| k_extra "L229")
example : True := by
  (k_with "L230" => (((with_reducible show wpAny _ _ (call _ [_, Value.ref 116]) _ _ _); k_dflt (refine' isinst_name ?Fz230 ?Nz230 ?Xz230 ?Tz230 ?hz230 ?_; (case Fz230 => k_asm); (case Nz230 => k_asm); (case Xz230 => k_asm); (case Tz230 => k_asm); (case hz230 => ktn_no "Mine.rel")); intro tk')))
  trivial
local macro_rules | `(tactic| walk_at "call builtin:isinstance") => `(tactic| k_extra "L230")
example : True := by
  (k_with "L231" => ((k_dflt (refine' in_list_ints ?lz231 ?iz231 ?_; (case lz231 => exact News.isList (by k_asm) (by k_mem)); (case iz231 => exact IntsAre.cons _ _ (IntsAre.cons _ _ IntsAre.nil))))))
  trivial
local macro_rules | `(tactic| walk_at "compareOp In") => `(tactic| k_extra "L231")
example : True := by
  (k_with "L232" => ((k_dflt (refine' set_made ?hhz232 ?Fz232 ?Nz232 ?mz232 ?iz232 ?bz232 ?_; (case hhz232 => rfl); (case Fz232 => k_asm); (case Nz232 => k_asm); (case mz232 => k_mem); (case iz232 => assumption); (case bz232 => assumption)); intro D' h' tk' o' F' N' l1; (try k_lt l1))))
  trivial
local macro_rules | `(tactic| walk_at "call type:set") => `(tactic| k_extra "L232")
theorem tm_c {prog : Program} {w : World} {dp un : Nat} {gd : Option (List Code)} {cn : Str} {cs : Scope} {a : Addr} {ccd : Value} {cl : List (Str × Addr)} {outer : List Env} {A₀ : Around} {base h₀ : Heap} {L : Addr} {m : Str → Option Value} {p : Program} {loose : List Str} {mean : ExcName → Option Value} {mg mb : Str → Option Value} {hp : Heap} {gs : Array GenState} {dr : Drawn} {tk : Nat} {os : OsState} {Q E : Value → Shared → Prop} {news : List (Addr × Obj)} {v : Value} {d : Cond} {k : Cols} {na : Addr} {nn : Nat} {tn1 tn2 : Tok}
    (c : Cx w dp un 810 8520 cs A₀ base outer h₀ L hp m p loose mean mg mb) (N : News h₀ L hp (news)) (hR : ExprIn w k news v d) (hB : d.Ok) (hna : (na, listOf [.int 1 tn1, .int 2 tn2].toArray nn) ∈ news)
    (ret : ∀ r tl h₁ tk₁, TermIn w k (tl ++ news) r d → Apart news tl → Fr h₀ L h₁ m → News h₀ L h₁ (tl ++ news) → Q r ⟨h₁, gs, dr, tk₁, os⟩) :
    wpAny (model prog w) (ktrTop dp un gd cn cs L a ccd cl outer) (call (.ref 618) [v, .ref na]) Q E ⟨hp, gs, dr, tk, os⟩ := by
  obtain ⟨B, F, X, T, hk, hdp, hun⟩ := c
  refine lowerK hdp hun ?_
  obtain ⟨kind, names, gen, co, more⟩ := cs
  (try dsimp only at hk)
  subst hk
  k_steps
  · (refine' ret _ _ _ _ ?e258_0 ?e258_1 ?eF258 ?eN258; (case eN258 => (refine' keepI ?q256_0 ?q256_1 ?q256_2 ?q256_3; (case q256_0 => assumption); (case q256_1 => k_mem); (case q256_2 => k_mem); (case q256_3 => ktn_no "Mine.sub"))); (case eF258 => k_asm); (case e258_0 => (refine' TermIn.mk ?q257_0 ?q257_1 ?q257_2; (case q257_0 => k_mem); (case q257_1 => k_mem); (case q257_2 => exact ExprIn.mono hR (by ktn_no "Mine.sub")))); (case e258_1 => ktn_no "Mine.apart"))
end
example : True := by
  (k_with "CR" => (((with_reducible show wpAny _ _ (call (Value.ref 618) _) _ _ _); k_dflt (refine' tm_c ?cz233 ?Nz233 ?p0z233 ?p1z233 ?p2z233 ?_; (case cz233 => ktn_no "Mine.cx"); (case Nz233 => k_asm); (case p0z233 => ktn_no "Mine.rel"); (case p1z233 => k_asm); (case p2z233 => k_mem); k_whole); intro r' tl' h' tk' ht' ha' F' N'; (try k_sweep); ktn_no "Mine.aft")))
  trivial
-- B37
inductive RowIn (news : List (Addr × Obj)) : Value → Side → Prop
  | col {a : Addr} {n : Nat} {t1 t2 t3 : Tok} (i : Col) : (a, tupO [.str (Str.ofString "name") t1, .str (tabS i) t2, .str (colS i) t3] n) ∈ news → RowIn news (.ref a) (.col i)
  | lnone {a : Addr} {n : Nat} {t1 t2 : Tok} : (a, tupO [.str (Str.ofString "literal") t1, .str (Str.ofString "null") t2, .none] n) ∈ news → RowIn news (.ref a) (.lit .none)
  | lint {a : Addr} {n : Nat} {t1 t2 t3 : Tok} {z : Int} : (a, tupO [.str (Str.ofString "literal") t1, .str (Str.ofString "integer") t2, .int z t3] n) ∈ news → RowIn news (.ref a) (.lit (.int z))
  | lstr {a : Addr} {n : Nat} {t1 t2 t3 : Tok} {x : Str} : (a, tupO [.str (Str.ofString "literal") t1, .str (Str.ofString "text") t2, .str x t3] n) ∈ news → x ∈ TEXTS → RowIn news (.ref a) (.lit (.str x))
  | cast {a : Addr} {n : Nat} {t1 t3 : Tok} {r : Value} {x : Side} {ty : Str} : (a, tupO [.str (Str.ofString "cast") t1, r, .str ty t3] n) ∈ news → RowIn news r x → ty ∈ TYPES → RowIn news (.ref a) (.cast x ty)
  | coll {a : Addr} {n : Nat} {t1 t3 : Tok} {r : Value} {x : Side} {c : Str} : (a, tupO [.str (Str.ofString "collate") t1, r, .str c t3] n) ∈ news → RowIn news r x → c ∈ NAMES → RowIn news (.ref a) (.coll x c)
theorem RowIn.mono {news news' : List (Addr × Obj)} {v : Value} {d : Side} (h : RowIn news v d) (hs : ∀ p ∈ news, p ∈ news') : RowIn news' v d := by
  induction h with
  | col i h => exact .col i (hs _ h)
  | lnone h => exact .lnone (hs _ h)
  | lint h => exact .lint (hs _ h)
  | lstr h hx => exact .lstr (hs _ h) hx
  | cast h _ ht ih => exact .cast (hs _ h) ih ht
  | coll h _ ht ih => exact .coll (hs _ h) ih ht
noncomputable def rowD : Side → PyData
  | .col i => .tuple [.str (Str.ofString "name"), .str (tabS i), .str (colS i)]
  | .lit .none => .tuple [.str (Str.ofString "literal"), .str (Str.ofString "null"), .none]
  | .lit (.int z) => .tuple [.str (Str.ofString "literal"), .str (Str.ofString "integer"), .int z]
  | .lit (.str x) => .tuple [.str (Str.ofString "literal"), .str (Str.ofString "text"), .str x]
  | .cast x ty => .tuple [.str (Str.ofString "cast"), rowD x, .str ty]
  | .coll x c => .tuple [.str (Str.ofString "collate"), rowD x, .str c]
theorem row_reads {h₀ h : Heap} {L : Addr} {news : List (Addr × Obj)} (N : News h₀ L h news) {v : Value} {d : Side} (r : RowIn news v d) : ∃ as, Reads h v (rowD d) as := by
  induction r with
  | col i hm => exact ⟨_, Reads.tuple (N _ hm).1 rfl rfl (ReadsAll.cons (Reads.str _ _) (ReadsAll.cons (Reads.str _ _) (ReadsAll.cons (Reads.str _ _) ReadsAll.nil)))⟩
  | lnone hm => exact ⟨_, Reads.tuple (N _ hm).1 rfl rfl (ReadsAll.cons (Reads.str _ _) (ReadsAll.cons (Reads.str _ _) (ReadsAll.cons Reads.none ReadsAll.nil)))⟩
  | lint hm => exact ⟨_, Reads.tuple (N _ hm).1 rfl rfl (ReadsAll.cons (Reads.str _ _) (ReadsAll.cons (Reads.str _ _) (ReadsAll.cons (Reads.int _ _) ReadsAll.nil)))⟩
  | lstr hm _ => exact ⟨_, Reads.tuple (N _ hm).1 rfl rfl (ReadsAll.cons (Reads.str _ _) (ReadsAll.cons (Reads.str _ _) (ReadsAll.cons (Reads.str _ _) ReadsAll.nil)))⟩
  | cast hm _ _ ih => obtain ⟨as, r⟩ := ih; exact ⟨_, Reads.tuple (N _ hm).1 rfl rfl (ReadsAll.cons (Reads.str _ _) (ReadsAll.cons r (ReadsAll.cons (Reads.str _ _) ReadsAll.nil)))⟩
  | coll hm _ _ ih => obtain ⟨as, r⟩ := ih; exact ⟨_, Reads.tuple (N _ hm).1 rfl rfl (ReadsAll.cons (Reads.str _ _) (ReadsAll.cons r (ReadsAll.cons (Reads.str _ _) ReadsAll.nil)))⟩
theorem k_words : PyData.strOk (Str.ofString "literal") = true ∧ PyData.strOk (Str.ofString "null") = true ∧ PyData.strOk (Str.ofString "integer") = true ∧ PyData.strOk (Str.ofString "text") = true := by decide +kernel
theorem k_tab (i : Col) : PyData.strOk (tabS i) = true ∧ PyData.strOk (colS i) = true := by cases i <;> decide +kernel
noncomputable def Side.deep : Side → Nat
  | .col _ => 0 | .lit _ => 0 | .cast x _ => x.deep + 1 | .coll x _ => x.deep + 1
theorem row_lay {news : List (Addr × Obj)} {v : Value} {d : Side} (r : RowIn news v d) : PyData.canLay0 (rowD d) = true ∧ PyData.depth (rowD d) ≤ d.deep + 1 := by
  induction r with
  | col i hm => exact ⟨by simp [rowD, PyData.canLay0, PyData.canLayAll0, k_name, (k_tab i).1, (k_tab i).2], by simp [rowD, PyData.depth, PyData.depthAll, Side.deep]⟩
  | lnone hm => exact ⟨by simp [rowD, PyData.canLay0, PyData.canLayAll0, k_words], by simp [rowD, PyData.depth, PyData.depthAll, Side.deep]⟩
  | lint hm => exact ⟨by simp [rowD, PyData.canLay0, PyData.canLayAll0, k_words], by simp [rowD, PyData.depth, PyData.depthAll, Side.deep]⟩
  | lstr hm hx => exact ⟨by simp [rowD, PyData.canLay0, PyData.canLayAll0, k_words, text_ok hx], by simp [rowD, PyData.depth, PyData.depthAll, Side.deep]⟩
  | cast hm _ ht ih =>
    refine ⟨by simp [rowD, PyData.canLay0, PyData.canLayAll0, k_cast, ih.1, type_ok ht], ?_⟩
    simp only [rowD, PyData.depth, PyData.depthAll, Side.deep]
    have := ih.2
    omega
  | coll hm _ ht ih =>
    refine ⟨by simp [rowD, PyData.canLay0, PyData.canLayAll0, k_coll, ih.1, name_ok ht], ?_⟩
    simp only [rowD, PyData.depth, PyData.depthAll, Side.deep]
    have := ih.2
    omega
theorem base_deep {d : Side} (h : d.Base) : d.deep = 0 := by cases h <;> rfl
theorem ok_deep {d : Side} (h : d.Ok) : d.deep ≤ 1 := by
  cases h with
  | base h => rw [base_deep h]; exact Nat.zero_le _
  | cast h _ => show Side.deep _ + 1 ≤ 1; rw [base_deep h]; exact Nat.le_refl _
  | coll h _ => show Side.deep _ + 1 ≤ 1; rw [base_deep h]; exact Nat.le_refl _
theorem row_eqv (d : Side) : PyData.eqv (rowD d) (rowD d) = true := by
  induction d with
  | col i => simp [rowD, PyData.eqv, PyData.eqvAll]
  | lit v => cases v <;> simp [rowD, PyData.eqv, PyData.eqvAll]
  | cast x y ih => simp [rowD, PyData.eqv, PyData.eqvAll, ih]
  | coll x y ih => simp [rowD, PyData.eqv, PyData.eqvAll, ih]
inductive RowsIn (news : List (Addr × Obj)) : List Value → List Side → Prop
  | nil : RowsIn news [] []
  | cons {v : Value} {vs : List Value} {d : Side} {ds : List Side} : RowIn news v d → RowsIn news vs ds → RowsIn news (v :: vs) (d :: ds)
theorem RowsIn.mono {news news' : List (Addr × Obj)} {vs : List Value} {ds : List Side} (h : RowsIn news vs ds) (hs : ∀ p ∈ news, p ∈ news') : RowsIn news' vs ds := by
  induction h with
  | nil => exact .nil
  | cons h _ ih => exact .cons (h.mono hs) ih
theorem RowsIn.snoc {news : List (Addr × Obj)} {v : Value} {d : Side} (h : RowIn news v d) : ∀ {vs : List Value} {ds : List Side}, RowsIn news vs ds → RowsIn news (vs ++ [v]) (ds ++ [d])
  | _, _, .nil => .cons h .nil
  | _, _, .cons h1 h2 => .cons h1 (RowsIn.snoc h h2)
theorem rows_reads {h₀ h : Heap} {L : Addr} {news : List (Addr × Obj)} (N : News h₀ L h news) {vs : List Value} {ds : List Side} (r : RowsIn news vs ds) : (∀ d ∈ ds, d.Ok) → (∃ as, ReadsAll h vs (ds.map rowD) as) ∧ PyData.canLayAll0 (ds.map rowD) = true ∧ PyData.depthAll (ds.map rowD) ≤ 2 := by
  induction r with
  | nil => exact fun _ => ⟨⟨_, ReadsAll.nil⟩, rfl, Nat.zero_le _⟩
  | cons h1 _ ih =>
    intro hb
    obtain ⟨⟨as, r⟩, e1, e2⟩ := ih fun d hd => hb d (List.mem_cons_of_mem _ hd)
    obtain ⟨bs, q⟩ := row_reads N h1
    have hl := row_lay h1
    have hk := ok_deep (hb _ (List.mem_cons_self ..))
    refine ⟨⟨_, ReadsAll.cons q r⟩, by simp [PyData.canLayAll0, hl.1, e1], ?_⟩
    simp only [List.map_cons, PyData.depthAll]
    have := hl.2
    omega
theorem rows_eqv : ∀ ds : List Side, PyData.eqvAll (ds.map rowD) (ds.map rowD) = true
  | [] => rfl
  | d :: ds => by simp [PyData.eqvAll, row_eqv d, rows_eqv ds]
section
variable {prog : Program} {w : World} {A : Around} {E : Value → Shared → Prop} {s : Shared} {h₀ : Heap} {L : Addr} {m : Str → Option Value} {env : Env}
theorem eq_rows {D1 D2 : Addr} {vs us : List Value} {ds : List Side} {n1 n2 : Nat} {news : List (Addr × Obj)} {Q : Value → Shared → Prop} (N : News h₀ L s.heap news) (h1 : (D1, listOf vs.toArray n1) ∈ news) (h2 : (D2, listOf us.toArray n2) ∈ news) (r1 : RowsIn news vs ds) (r2 : RowsIn news us ds) (hb : ∀ d ∈ ds, d.Ok) (hu : A.units + 64 < cLine) (h : Q (.bool true) s) :
    wpAny (model prog w) A (compareOp .Eq (.ref D1) (.ref D2)) Q E s := by
  obtain ⟨⟨as, q1⟩, e1, e2⟩ := rows_reads N r1 hb
  obtain ⟨⟨bs, q2⟩, _, _⟩ := rows_reads N r2 hb
  have sh : SeqAt.shaped (.list (ds.map rowD)) = true := by
    have d1 : PyData.canLay0 (.list (ds.map rowD)) = true := e1
    have d2 : PyData.depth (.list (ds.map rowD)) ≤ 64 := by simp only [PyData.depth]; omega
    unfold SeqAt.shaped
    rw [d1, decide_eq_true d2]; rfl
  refine eq_dataH (Reads.list (N _ h1).1 rfl rfl q1) (Reads.list (N _ h2).1 rfl rfl q2) sh sh hu ?_
  have e : PyData.eqv (.list (ds.map rowD)) (.list (ds.map rowD)) = true := by
    have := rows_eqv ds
    simpa [PyData.eqv] using this
  rw [e]; exact h
inductive RelL (R : Value → Side → Prop) : List Value → List Side → Prop
  | nil : RelL R [] []
  | cons {v : Value} {vs : List Value} {d : Side} {ds : List Side} : R v d → RelL R vs ds → RelL R (v :: vs) (d :: ds)
theorem RelL.nodes {w : World} {k : Cols} {news : List (Addr × Obj)} {vs : List Value} {ds : List Side} (h : NodesIn w k news vs ds) : RelL (NodeIn w k news) vs ds := by
  induction h with
  | nil => exact .nil
  | cons h _ ih => exact .cons h ih
theorem RelL.sides {news : List (Addr × Obj)} {vs : List Value} {ds : List Side} (h : SidesIn news vs ds) : RelL (SideIn news) vs ds := by
  induction h with
  | nil => exact .nil
  | cons h _ ih => exact .cons h ih
theorem RelL.len {R : Value → Side → Prop} {vs : List Value} {ds : List Side} (h : RelL R vs ds) : vs.length = ds.length := by
  induction h with
  | nil => rfl
  | cons _ _ ih => exact congrArg (· + 1) ih
noncomputable def RowEnd (h₀ : Heap) (L : Addr) (m : Str → Option Value) (l : List (Addr × Obj)) (d : Side) (s : Shared) (r : Value) (s' : Shared) : Prop :=
  ∃ tl h tk, s' = { s with heap := h, toks := tk } ∧ Fr h₀ L h m ∧ News h₀ L h (tl ++ l) ∧ Apart l tl ∧ RowIn tl r d
theorem RowEnd.of {h₀ : Heap} {L : Addr} {m : Str → Option Value} {l tl : List (Addr × Obj)} {d : Side} {s : Shared} {r : Value} {h : Heap} {tk : Nat} (N : News h₀ L h (tl ++ l)) (F : Fr h₀ L h m) (ap : Apart l tl) (x : RowIn tl r d) : RowEnd h₀ L m l d s r { s with heap := h, toks := tk } := ⟨tl, h, tk, rfl, F, N, ap, x⟩
theorem row_rest {R : Value → Side → Prop} {x : Str} {elt : PySem.Expr} {scope : Scope} {cl : List (Str × Addr)} {S : List (Addr × Obj) → Prop} {all : List Value} {Fin : List Value → List (Addr × Obj) → Prop} {news : List (Addr × Obj)} (hS : ∀ tl, S (tl ++ news))
    (ht : ∀ v d tl I oI C oC D m₂ ys h tk (E' : Value → Shared → Prop), R v d → d.Ok → LCg.NsObj oC m₂ → m₂ x = some v → Fr h₀ L h m → News h₀ L h ((I, oI) :: (C, oC) :: (D, LCg.lst ys) :: (tl ++ news)) → LCg.Off3 I C D (tl ++ news) → ((@Ne Nat I C) ∧ (@Ne Nat I D) ∧ (@Ne Nat C D)) →
      wpAny (model prog w) A (eval elt (compEnvC scope cl C env)) (RowEnd h₀ L m ((I, oI) :: (C, oC) :: (D, LCg.lst ys) :: (tl ++ news)) d { s with heap := h, toks := tk }) E' { s with heap := h, toks := tk }) :
    ∀ (vs : List Value) (ds : List Side), RelL R vs ds → (∀ d ∈ ds, d.Ok) → ∀ (i : Nat) (ys : List Value) (es : List Side) (tl : List (Addr × Obj)), Apart news tl → RowsIn (tl ++ news) ys es → (∀ j : Nat, all.toArray[i + j]? = vs[j]?) →
      (∀ ys' tl', Apart news tl' → RowsIn (tl' ++ news) ys' (es ++ ds) → Fin ys' (tl' ++ news)) →
      LCg.CompRest prog w A h₀ L m env elt x scope cl s S (fun i v => all.toArray[i]? = some v) Fin vs.length i ys (tl ++ news) := by
  intro vs ds r
  induction r with
  | nil => exact fun _ i ys es tl ap hr _ h => LCg.CompRest.zero (h ys tl ap (by simpa using hr))
  | @cons v vs d ds h1 _ ih =>
    intro hb i ys es tl ap hr hj h
    refine LCg.CompRest.succ ?_
    intro v' I oI C oC D m₂ h' tk E' hv hC hx F N off ne
    have e0 := hj 0
    simp only [Nat.add_zero, List.getElem?_cons_zero] at e0
    have e : v = v' := Option.some.inj (e0.symm.trans hv)
    subst e
    have hj' : ∀ j : Nat, all.toArray[i + 1 + j]? = vs[j]? := fun j => by
      have := hj (j + 1)
      simp only [List.getElem?_cons_succ] at this
      rw [← this]; congr 1; omega
    refine wpAny_mono (ht v d tl I oI C oC D m₂ ys h' tk E' h1 (hb _ (List.mem_cons_self ..)) hC hx F N off ne) (fun y s' hq => ?_) fun _ _ e => e
    obtain ⟨t2, h₂, tk₂, rfl, F₂, N₂, ap2, hrow⟩ := hq
    have eas : t2 ++ (tl ++ news) = (t2 ++ tl) ++ news := (List.append_assoc ..).symm
    refine compEndA F₂ N₂ ap2 off (by rw [eas]; exact hS _) ?_
    rw [eas]
    refine ih (fun d hd => hb d (List.mem_cons_of_mem _ hd)) (i + 1) (ys ++ [y]) (es ++ [d]) (t2 ++ tl) (Apart.app (Apart.sub ap2 fun p hp => by simp [hp]) ap) (RowsIn.snoc (hrow.mono fun p hp => by simp [hp]) (hr.mono fun p hp => by rcases List.mem_append.mp hp with hp | hp <;> simp [hp])) hj' fun ys' tl' ap' hr' => h ys' tl' ap' (by simpa using hr')
theorem row_src {R : Value → Side → Prop} {x : Str} {elt : PySem.Expr} {scope : Scope} {cl : List (Str × Addr)} {Fin : Shared → List Value → List (Addr × Obj) → Prop} {ax : Addr} {vs : List Value} {ds : List Side} {k : Nat} {news : List (Addr × Obj)} {s₁ : Shared}
    (hh : A.handled = none) (F : Fr h₀ L s₁.heap m) (N : News h₀ L s₁.heap news) (hm : (ax, listOf vs.toArray k) ∈ news) (r : RelL R vs ds) (hb : ∀ d ∈ ds, d.Ok) (hlen : ds.length ≤ 2)
    (ht : ∀ g v d tl I oI C oC D m₂ ys h tk (E' : Value → Shared → Prop), R v d → d.Ok → LCg.NsObj oC m₂ → m₂ x = some v → Fr h₀ L h m → News h₀ L h ((I, oI) :: (C, oC) :: (D, LCg.lst ys) :: (tl ++ news)) → LCg.Off3 I C D (tl ++ news) → ((@Ne Nat I C) ∧ (@Ne Nat I D) ∧ (@Ne Nat C D)) →
      wpAny (model prog w) A (eval elt (compEnvC scope cl C env)) (RowEnd h₀ L m ((I, oI) :: (C, oC) :: (D, LCg.lst ys) :: (tl ++ news)) d { { s₁ with heap := g } with heap := h, toks := tk }) E' { s₁ with heap := h, toks := tk })
    (hf : ∀ g ys tl, Apart news tl → RowsIn (tl ++ news) ys ds → Fin { s₁ with heap := g } ys (tl ++ news)) :
    LCg.CompSrc prog w A h₀ L m env elt x scope cl Fin (.ref ax) s₁ := by
  have hlv := r.len
  refine LCg.CompSrc.ledger hh F N hm (by rw [PySem.sizeLine_eq, List.size_toArray]; omega) fun g => ?_
  rw [List.size_toArray]
  exact row_rest (news := news) (s := { s₁ with heap := g }) (fun tl => .inr ⟨_, List.mem_append_right _ hm, rfl, _, rfl⟩) (ht g) vs ds r hb 0 [] [] [] Apart.nil .nil (fun j => by simp) (fun ys tl ap hr => hf g ys tl ap hr)
end
-- P20
theorem rowlit_c {prog : Program} {w : World} {dp un : Nat} {gd : Option (List Code)} {cn : Str} {cs : Scope} {a : Addr} {ccd : Value} {cl : List (Str × Addr)} {outer : List Env} {A₀ : Around} {base h₀ : Heap} {L : Addr} {m : Str → Option Value} {p : Program} {loose : List Str} {mean : ExcName → Option Value} {mg mb : Str → Option Value} {hp : Heap} {gs : Array GenState} {dr : Drawn} {tk : Nat} {os : OsState} {Q E : Value → Shared → Prop} {news : List (Addr × Obj)} {v : Value} {k : Cols} {lv : LV}
    (c : Cx w dp un 885 8920 cs A₀ base outer h₀ L hp m p loose mean mg mb) (N : News h₀ L hp (news)) (hR : NodeIn w k news v (.lit lv))
    (ret : ∀ r tl h₁ tk₁, Apart news tl → RowIn tl r (.lit lv) → Fr h₀ L h₁ m → News h₀ L h₁ (tl ++ news) → Q r ⟨h₁, gs, dr, tk₁, os⟩) :
    wpAny (model prog w) (ktrTop dp un gd cn cs L a ccd cl outer) (call (.ref 87) [v]) Q E ⟨hp, gs, dr, tk, os⟩ := by
  obtain ⟨B, F, X, T, hk, hdp, hun⟩ := c
  refine lowerK hdp hun ?_
  cases hR with
  | lit hm hm2 hv =>
    cases hv with
    | none =>
      k_dflt (refine' enterM (binds := [(Str.ofString "self", _)]) ?k0 ?k1 ?k2 ?k3 ?k4 ?k5 ?kA ?kF ?kK ?k6 ?k7 ?k8 ?k9 ?kB ?c2 ?_; (case k0 => exact rfl); (case kA => exact rfl); (case kF => exact rfl); (case kK => assumption); (case k1 => k_asm); (case k2 => k_asm); (case k3 => k_asm); (case k4 => k_asm); (case k5 => k_asm); (case k6 => k_is); (case k7 => k_is); (case k8 => exact Nat.le_of_ble_eq_true rfl); (case k9 => kernel_rfl!); (case kB => kernel_rfl!); (case c2 => kernel_rfl!); k_whole; intro g' L' h' t' FG' F' N' B' X' T' e9 A9 qk ek)
      k_steps
      (refine' ret _ _ _ _ ?e260_0 ?e260_1 ?eF260 ?eN260; (case eN260 => exact tl1 (by k_asm)); (case eF260 => k_asm); (case e260_0 => ktn_no "Mine.apart"); (case e260_1 => (refine' RowIn.lnone ?q259_0; (case q259_0 => k_mem))))
    | int z t =>
      k_dflt (refine' enterM (binds := [(Str.ofString "self", _)]) ?k0 ?k1 ?k2 ?k3 ?k4 ?k5 ?kA ?kF ?kK ?k6 ?k7 ?k8 ?k9 ?kB ?c2 ?_; (case k0 => exact rfl); (case kA => exact rfl); (case kF => exact rfl); (case kK => assumption); (case k1 => k_asm); (case k2 => k_asm); (case k3 => k_asm); (case k4 => k_asm); (case k5 => k_asm); (case k6 => k_is); (case k7 => k_is); (case k8 => exact Nat.le_of_ble_eq_true rfl); (case k9 => kernel_rfl!); (case kB => kernel_rfl!); (case c2 => kernel_rfl!); k_whole; intro g' L' h' t' FG' F' N' B' X' T' e9 A9 qk ek)
      k_steps
      (refine' ret _ _ _ _ ?e262_0 ?e262_1 ?eF262 ?eN262; (case eN262 => exact tl1 (by k_asm)); (case eF262 => k_asm); (case e262_0 => ktn_no "Mine.apart"); (case e262_1 => (refine' RowIn.lint ?q261_0; (case q261_0 => k_mem))))
    | str x t hx =>
      k_dflt (refine' enterM (binds := [(Str.ofString "self", _)]) ?k0 ?k1 ?k2 ?k3 ?k4 ?k5 ?kA ?kF ?kK ?k6 ?k7 ?k8 ?k9 ?kB ?c2 ?_; (case k0 => exact rfl); (case kA => exact rfl); (case kF => exact rfl); (case kK => assumption); (case k1 => k_asm); (case k2 => k_asm); (case k3 => k_asm); (case k4 => k_asm); (case k5 => k_asm); (case k6 => k_is); (case k7 => k_is); (case k8 => exact Nat.le_of_ble_eq_true rfl); (case k9 => kernel_rfl!); (case kB => kernel_rfl!); (case c2 => kernel_rfl!); k_whole; intro g' L' h' t' FG' F' N' B' X' T' e9 A9 qk ek)
      k_steps
      (refine' ret _ _ _ _ ?e264_0 ?e264_1 ?eF264 ?eN264; (case eN264 => exact tl1 (by k_asm)); (case eF264 => k_asm); (case e264_0 => ktn_no "Mine.apart"); (case e264_1 => (refine' RowIn.lstr ?q263_0 ?q263_1; (case q263_0 => k_mem); (case q263_1 => assumption))))
example : True := by
  (k_with "CR" => (((with_reducible show wpAny _ _ (call (Value.ref 87) _) _ _ _); k_dflt (refine' rowlit_c ?cz234 ?Nz234 ?p0z234 ?_; (case cz234 => ktn_no "Mine.cx"); (case Nz234 => k_asm); (case p0z234 => ktn_no "Mine.rel"); k_whole); intro r' tl' h' tk' ha' hr' F' N'; (try k_sweep); ktn_no "Mine.aft")))
  trivial
theorem rowcol_c {prog : Program} {w : World} {dp un : Nat} {gd : Option (List Code)} {cn : Str} {cs : Scope} {a : Addr} {ccd : Value} {cl : List (Str × Addr)} {outer : List Env} {A₀ : Around} {base h₀ : Heap} {L : Addr} {m : Str → Option Value} {p : Program} {loose : List Str} {mean : ExcName → Option Value} {mg mb : Str → Option Value} {hp : Heap} {gs : Array GenState} {dr : Drawn} {tk : Nat} {os : OsState} {Q E : Value → Shared → Prop} {news : List (Addr × Obj)} {v : Value} {k : Cols} {i : Col}
    (c : Cx w dp un 885 8920 cs A₀ base outer h₀ L hp m p loose mean mg mb) (N : News h₀ L hp (news)) (hR : NodeIn w k news v (.col i))
    (ret : ∀ r tl h₁ tk₁, Apart news tl → RowIn tl r (.col i) → Fr h₀ L h₁ m → News h₀ L h₁ (tl ++ news) → Q r ⟨h₁, gs, dr, tk₁, os⟩) :
    wpAny (model prog w) (ktrTop dp un gd cn cs L a ccd cl outer) (call (.ref 113) [v]) Q E ⟨hp, gs, dr, tk, os⟩ := by
  obtain ⟨B, F, X, T, hk, hdp, hun⟩ := c
  refine lowerK hdp hun ?_
  cases hR with
  | col _ hm hm2 =>
    k_dflt (refine' enterM (binds := [(Str.ofString "self", _)]) ?k0 ?k1 ?k2 ?k3 ?k4 ?k5 ?kA ?kF ?kK ?k6 ?k7 ?k8 ?k9 ?kB ?c2 ?_; (case k0 => exact rfl); (case kA => exact rfl); (case kF => exact rfl); (case kK => assumption); (case k1 => k_asm); (case k2 => k_asm); (case k3 => k_asm); (case k4 => k_asm); (case k5 => k_asm); (case k6 => k_is); (case k7 => k_is); (case k8 => exact Nat.le_of_ble_eq_true rfl); (case k9 => kernel_rfl!); (case kB => kernel_rfl!); (case c2 => kernel_rfl!); k_whole; intro g' L' h' t' FG' F' N' B' X' T' e9 A9 qk ek)
    k_steps
    (refine' ret _ _ _ _ ?e266_0 ?e266_1 ?eF266 ?eN266; (case eN266 => exact tl1 (by k_asm)); (case eF266 => k_asm); (case e266_0 => ktn_no "Mine.apart"); (case e266_1 => (refine' RowIn.col _ ?q265_0; (case q265_0 => k_mem))))
example : True := by
  (k_with "CR" => (((with_reducible show wpAny _ _ (call (Value.ref 113) _) _ _ _); k_dflt (refine' rowcol_c ?cz235 ?Nz235 ?p0z235 ?_; (case cz235 => ktn_no "Mine.cx"); (case Nz235 => k_asm); (case p0z235 => ktn_no "Mine.rel"); k_whole); intro r' tl' h' tk' ha' hr' F' N'; (try k_sweep); ktn_no "Mine.aft")))
  trivial
section
theorem rowcast_c {prog : Program} {w : World} {dp un : Nat} {gd : Option (List Code)} {cn : Str} {cs : Scope} {a : Addr} {ccd : Value} {cl : List (Str × Addr)} {outer : List Env} {A₀ : Around} {base h₀ : Heap} {L : Addr} {m : Str → Option Value} {p : Program} {loose : List Str} {mean : ExcName → Option Value} {mg mb : Str → Option Value} {hp : Heap} {gs : Array GenState} {dr : Drawn} {tk : Nat} {os : OsState} {Q E : Value → Shared → Prop} {news : List (Addr × Obj)} {v : Value} {k : Cols} {x : Side} {ty : Str}
    (c : Cx w dp un 870 8840 cs A₀ base outer h₀ L hp m p loose mean mg mb) (N : News h₀ L hp (news)) (hR : NodeIn w k news v (.cast x ty)) (hx : x.Base) (hty : ty ∈ TYPES)
    (ret : ∀ r tl h₁ tk₁, Apart news tl → RowIn tl r (.cast x ty) → Fr h₀ L h₁ m → News h₀ L h₁ (tl ++ news) → Q r ⟨h₁, gs, dr, tk₁, os⟩) :
    wpAny (model prog w) (ktrTop dp un gd cn cs L a ccd cl outer) (call (.ref 371) [v]) Q E ⟨hp, gs, dr, tk, os⟩ := by
  obtain ⟨B, F, X, T, hk, hdp, hun⟩ := c
  refine lowerK hdp hun ?_
  cases hR with
  | cast hm hm2 hi =>
    cases hx with
    | col i =>
      have gi := hi
      cases hi with
      | col _ hm3 hm4 =>
        k_dflt (refine' enterM (binds := [(Str.ofString "self", _)]) ?k0 ?k1 ?k2 ?k3 ?k4 ?k5 ?kA ?kF ?kK ?k6 ?k7 ?k8 ?k9 ?kB ?c2 ?_; (case k0 => exact rfl); (case kA => exact rfl); (case kF => exact rfl); (case kK => assumption); (case k1 => k_asm); (case k2 => k_asm); (case k3 => k_asm); (case k4 => k_asm); (case k5 => k_asm); (case k6 => k_is); (case k7 => k_is); (case k8 => exact Nat.le_of_ble_eq_true rfl); (case k9 => kernel_rfl!); (case kB => kernel_rfl!); (case c2 => kernel_rfl!); k_whole; intro g' L' h' t' FG' F' N' B' X' T' e9 A9 qk ek)
        k_steps
        (refine' ret _ _ _ _ ?e268_0 ?e268_1 ?eF268 ?eN268; (case eN268 => exact tA1 (by k_asm)); (case eF268 => k_asm); (case e268_0 => ktn_no "Mine.apart"); (case e268_1 => (refine' RowIn.cast ?q267_0 ?q267_1 ?q267_2; (case q267_0 => k_mem); (case q267_1 => (exact RowIn.mono (by assumption) (by ktn_no "Mine.sub"))); (case q267_2 => assumption))))
    | lit lv =>
      have gi := hi
      cases hi with
      | lit hm3 hm4 hv =>
        k_dflt (refine' enterM (binds := [(Str.ofString "self", _)]) ?k0 ?k1 ?k2 ?k3 ?k4 ?k5 ?kA ?kF ?kK ?k6 ?k7 ?k8 ?k9 ?kB ?c2 ?_; (case k0 => exact rfl); (case kA => exact rfl); (case kF => exact rfl); (case kK => assumption); (case k1 => k_asm); (case k2 => k_asm); (case k3 => k_asm); (case k4 => k_asm); (case k5 => k_asm); (case k6 => k_is); (case k7 => k_is); (case k8 => exact Nat.le_of_ble_eq_true rfl); (case k9 => kernel_rfl!); (case kB => kernel_rfl!); (case c2 => kernel_rfl!); k_whole; intro g' L' h' t' FG' F' N' B' X' T' e9 A9 qk ek)
        k_steps
        (refine' ret _ _ _ _ ?e270_0 ?e270_1 ?eF270 ?eN270; (case eN270 => exact tA1 (by k_asm)); (case eF270 => k_asm); (case e270_0 => ktn_no "Mine.apart"); (case e270_1 => (refine' RowIn.cast ?q269_0 ?q269_1 ?q269_2; (case q269_0 => k_mem); (case q269_1 => (exact RowIn.mono (by assumption) (by ktn_no "Mine.sub"))); (case q269_2 => assumption))))
theorem rowcoll_c {prog : Program} {w : World} {dp un : Nat} {gd : Option (List Code)} {cn : Str} {cs : Scope} {a : Addr} {ccd : Value} {cl : List (Str × Addr)} {outer : List Env} {A₀ : Around} {base h₀ : Heap} {L : Addr} {m : Str → Option Value} {p : Program} {loose : List Str} {mean : ExcName → Option Value} {mg mb : Str → Option Value} {hp : Heap} {gs : Array GenState} {dr : Drawn} {tk : Nat} {os : OsState} {Q E : Value → Shared → Prop} {news : List (Addr × Obj)} {v : Value} {k : Cols} {x : Side} {cc : Str}
    (c : Cx w dp un 870 8840 cs A₀ base outer h₀ L hp m p loose mean mg mb) (N : News h₀ L hp (news)) (hR : NodeIn w k news v (.coll x cc)) (hx : x.Base) (hty : cc ∈ NAMES)
    (ret : ∀ r tl h₁ tk₁, Apart news tl → RowIn tl r (.coll x cc) → Fr h₀ L h₁ m → News h₀ L h₁ (tl ++ news) → Q r ⟨h₁, gs, dr, tk₁, os⟩) :
    wpAny (model prog w) (ktrTop dp un gd cn cs L a ccd cl outer) (call (.ref 397) [v]) Q E ⟨hp, gs, dr, tk, os⟩ := by
  obtain ⟨B, F, X, T, hk, hdp, hun⟩ := c
  refine lowerK hdp hun ?_
  cases hR with
  | coll hm hm2 hi =>
    cases hx with
    | col i =>
      have gi := hi
      cases hi with
      | col _ hm3 hm4 =>
        k_dflt (refine' enterM (binds := [(Str.ofString "self", _)]) ?k0 ?k1 ?k2 ?k3 ?k4 ?k5 ?kA ?kF ?kK ?k6 ?k7 ?k8 ?k9 ?kB ?c2 ?_; (case k0 => exact rfl); (case kA => exact rfl); (case kF => exact rfl); (case kK => assumption); (case k1 => k_asm); (case k2 => k_asm); (case k3 => k_asm); (case k4 => k_asm); (case k5 => k_asm); (case k6 => k_is); (case k7 => k_is); (case k8 => exact Nat.le_of_ble_eq_true rfl); (case k9 => kernel_rfl!); (case kB => kernel_rfl!); (case c2 => kernel_rfl!); k_whole; intro g' L' h' t' FG' F' N' B' X' T' e9 A9 qk ek)
        k_steps
        (refine' ret _ _ _ _ ?e272_0 ?e272_1 ?eF272 ?eN272; (case eN272 => exact tA1 (by k_asm)); (case eF272 => k_asm); (case e272_0 => ktn_no "Mine.apart"); (case e272_1 => (refine' RowIn.coll ?q271_0 ?q271_1 ?q271_2; (case q271_0 => k_mem); (case q271_1 => (exact RowIn.mono (by assumption) (by ktn_no "Mine.sub"))); (case q271_2 => assumption))))
    | lit lv =>
      have gi := hi
      cases hi with
      | lit hm3 hm4 hv =>
        k_dflt (refine' enterM (binds := [(Str.ofString "self", _)]) ?k0 ?k1 ?k2 ?k3 ?k4 ?k5 ?kA ?kF ?kK ?k6 ?k7 ?k8 ?k9 ?kB ?c2 ?_; (case k0 => exact rfl); (case kA => exact rfl); (case kF => exact rfl); (case kK => assumption); (case k1 => k_asm); (case k2 => k_asm); (case k3 => k_asm); (case k4 => k_asm); (case k5 => k_asm); (case k6 => k_is); (case k7 => k_is); (case k8 => exact Nat.le_of_ble_eq_true rfl); (case k9 => kernel_rfl!); (case kB => kernel_rfl!); (case c2 => kernel_rfl!); k_whole; intro g' L' h' t' FG' F' N' B' X' T' e9 A9 qk ek)
        k_steps
        (refine' ret _ _ _ _ ?e274_0 ?e274_1 ?eF274 ?eN274; (case eN274 => exact tA1 (by k_asm)); (case eF274 => k_asm); (case e274_0 => ktn_no "Mine.apart"); (case e274_1 => (refine' RowIn.coll ?q273_0 ?q273_1 ?q273_2; (case q273_0 => k_mem); (case q273_1 => (exact RowIn.mono (by assumption) (by ktn_no "Mine.sub"))); (case q273_2 => assumption))))
end
example : True := by
  (k_with "CR" => (((with_reducible show wpAny _ _ (call (Value.ref 371) _) _ _ _); k_dflt (refine' rowcast_c ?cz236 ?Nz236 ?p0z236 ?p1z236 ?p2z236 ?_; (case cz236 => ktn_no "Mine.cx"); (case Nz236 => k_asm); (case p0z236 => ktn_no "Mine.rel"); (case p1z236 => assumption); (case p2z236 => assumption); k_whole); intro r' tl' h' tk' ha' hr' F' N'; (try k_sweep); ktn_no "Mine.aft")))
  trivial
example : True := by
  (k_with "CR" => (((with_reducible show wpAny _ _ (call (Value.ref 397) _) _ _ _); k_dflt (refine' rowcoll_c ?cz237 ?Nz237 ?p0z237 ?p1z237 ?p2z237 ?_; (case cz237 => ktn_no "Mine.cx"); (case Nz237 => k_asm); (case p0z237 => ktn_no "Mine.rel"); (case p1z237 => assumption); (case p2z237 => assumption); k_whole); intro r' tl' h' tk' ha' hr' F' N'; (try k_sweep); ktn_no "Mine.aft")))
  trivial
-- B38
inductive Due.Fine : Due → Prop
  | one {i : Col} {op : Str} {d : Side} {led : Option Aff} {coll : Str} : op ∈ OPS → d.Ok → PyData.strOk coll = true → Due.Fine (.one i op d led coll)
  | many {i : Col} {ds : List Side} {led : Option Aff} {coll : Str} : ds.length ≤ 2 → (∀ d ∈ ds, d.Base) → PyData.strOk coll = true → Due.Fine (.many i ds led coll)
theorem colls_ok {x : Str} (h : x ∈ COLLS) : PyData.strOk x = true := by
  simp only [COLLS, List.mem_cons, List.not_mem_nil, or_false] at h
  rcases h with rfl | rfl | rfl <;> decide +kernel
theorem low_ok {x : Str} (h : x ∈ NAMES) : PyData.strOk (lowS x) = true := by
  rcases names_cases h with rfl | rfl | rfl
  · rw [lowS_nocase]; decide +kernel
  · rw [lowS_rtrim]; decide +kernel
  · rw [lowS_binary]; decide +kernel
theorem expl_ok {d : Side} (h : d.Ok) {x : Str} (e : d.expl = some x) : PyData.strOk x = true := by
  cases h with
  | base h => cases h <;> cases e
  | cast h _ => cases h <;> cases e
  | coll h hc => cases e; exact low_ok hc
theorem collS_ok {k : Cols} (hk : k.Ok) {l r : Side} (hl : l.Ok) (hr : r.Ok) : PyData.strOk (collS k l r) = true := by
  cases e1 : l.expl with
  | some x => rw [collS_1 e1]; exact expl_ok hl e1
  | none =>
    cases e2 : r.expl with
    | some x => rw [collS_2 e1 e2]; exact expl_ok hr e2
    | none =>
      cases e3 : l.ofcol k with
      | some x => rw [collS_3 e1 e2 e3]; exact colls_ok (ofcol_mem hk e3)
      | none =>
        cases e4 : r.ofcol k with
        | some x => rw [collS_4 e1 e2 e3 e4]; exact colls_ok (ofcol_mem hk e4)
        | none => rw [collS_5 e1 e2 e3 e4]; decide +kernel
theorem ok_castT {x : Side} {ty : Str} (h : (Side.cast x ty).Ok) : ty ∈ TYPES := by
  cases h with
  | base h => cases h
  | cast _ h => exact h
theorem ok_collT {x : Side} {c : Str} (h : (Side.coll x c).Ok) : c ∈ NAMES := by
  cases h with
  | base h => cases h
  | coll _ h => exact h
theorem due_ok {k : Cols} (hk : k.Ok) {f : Col → Aff} {c : Cond} (h : c.Ok) : ∀ d ∈ dueS k f c, d.Fine := by
  have one : ∀ {op : Str} {sd ot l r : Side} {d : Due}, op ∈ OPS → ot.Ok → l.Ok → r.Ok → d ∈ (oneS k f op sd ot l r).toList → d.Fine := by
    intro op sd ot l r d ho hb hl hr hd
    cases sd with
    | col i =>
      by_cases hc : i.t = 1 ∧ ot.own = false ∧ (ledS (some (f i)) (ot.affn f)).1 = none
      · rw [oneS_is hc.1 hc.2.1 hc.2.2] at hd
        simp only [Option.toList, List.mem_singleton] at hd
        subst hd
        exact .one ho hb (collS_ok hk hl hr)
      · rw [oneS_not hc] at hd
        simp only [Option.toList, List.not_mem_nil] at hd
    | lit v => have e : oneS k f op (.lit v) ot l r = none := rfl; rw [e] at hd; simp only [Option.toList, List.not_mem_nil] at hd
    | cast x y => have e : oneS k f op (.cast x y) ot l r = none := rfl; rw [e] at hd; simp only [Option.toList, List.not_mem_nil] at hd
    | coll x y => have e : oneS k f op (.coll x y) ot l r = none := rfl; rw [e] at hd; simp only [Option.toList, List.not_mem_nil] at hd
  cases h with
  | @op o l r ho hl hr =>
    intro d hd
    have hd' : d ∈ (if isTurn o = true then (oneS k f o l r l r).toList ++ (oneS k f (turnS o) r l l r).toList else []) := hd
    split at hd'
    · rcases List.mem_append.mp hd' with hd' | hd'
      · exact one ho hr hl hr hd'
      · exact one (turn_mem ho) hl hl hr hd'
    · nomatch hd'
  | @btw v lo hi neg hv hl hh =>
    intro d hd
    have hd' : d ∈ (if neg = true then [] else (oneS k f (Str.ofString ">=") v lo v lo).toList ++ (oneS k f (Str.ofString "<=") v hi v hi).toList) := hd
    split at hd'
    · nomatch hd'
    · rcases List.mem_append.mp hd' with hd' | hd'
      · exact one (by decide) hl hv hl hd'
      · exact one (by decide) hh hv hh hd'
  | @inn v ds neg hv hlen hds =>
    intro d hd
    have hd' : d ∈ (if neg = true then [] else inS k f v ds) := hd
    split at hd'
    · nomatch hd'
    · cases v with
      | col i =>
        by_cases hc : i.t = 1 ∧ ds ≠ [] ∧ (∀ d ∈ ds, d.own = false)
        · rw [inS_is hc, List.mem_singleton] at hd'
          subst hd'
          exact .many hlen hds (colls_ok (hk.coll i))
        · rw [inS_not hc] at hd'
          nomatch hd'
      | lit v => have e : inS k f (.lit v) ds = [] := rfl; rw [e] at hd'; nomatch hd'
      | cast x y => have e : inS k f (.cast x y) ds = [] := rfl; rw [e] at hd'; nomatch hd'
      | coll x y => have e : inS k f (.coll x y) ds = [] := rfl; rw [e] at hd'; nomatch hd'
  | null hv => intro d hd; nomatch hd
theorem in_ops {op : Str} (h : op ∈ OPS) : op ≠ Str.ofString "in" := by
  rcases ops_cases h with rfl | rfl | rfl | rfl | rfl | rfl <;> decide
theorem eq_in {prog : Program} {w : World} {A : Around} {E : Value → Shared → Prop} {s : Shared} {op : Str} {t u : Tok} {Q : Value → Shared → Prop} (h : op ∈ OPS) (hQ : Q (.bool false) s) : wpAny (model prog w) A (compareOp .Eq (.str op t) (.str (Str.ofString "in") u)) Q E s :=
  PyProof.Rows.eq_str (by rw [beq_eq_false_iff_ne.mpr (in_ops h)]; exact hQ)
/-- two tuples of a place, a word, an affinity, a collation -/
theorem oa_same {h : Heap} {v v' : Value} {a : Option Aff} (x : OA v a) (y : OA v' a) : Reads h v (affD a) [] ∧ Reads h v' (affD a) [] := ⟨oa_reads x, oa_reads y⟩
theorem aff_eqv (a : Option Aff) : PyData.eqv (affD a) (affD a) = true := by rcases a with _ | (_ | _ | _ | _) <;> decide +kernel
theorem aff_lay (a : Option Aff) : PyData.canLay0 (affD a) = true ∧ PyData.depth (affD a) = 0 := by rcases a with _ | (_ | _ | _ | _) <;> decide +kernel
theorem ne_heads {prog : Program} {w : World} {A : Around} {E : Value → Shared → Prop} {s : Shared} {h₀ : Heap} {L : Addr} {news : List (Addr × Obj)} {a b : Addr} {z : Int} {op coll : Str} {v v' : Value} {led : Option Aff} {t1 t2 t3 u1 u2 u3 : Tok} {n n2 : Nat} {Q : Value → Shared → Prop} (N : News h₀ L s.heap news)
    (h1 : (a, tupO [.int z t1, .str op t2, v, .str coll t3] n) ∈ news) (h2 : (b, tupO [.int z u1, .str op u2, v', .str coll u3] n2) ∈ news) (x : OA v led) (y : OA v' led) (ho : PyData.strOk op = true) (hc : PyData.strOk coll = true) (hu : A.units + 64 < cLine) (h : Q (.bool false) s) :
    wpAny (model prog w) A (compareOp .NotEq (.ref a) (.ref b)) Q E s := by
  have sh : SeqAt.shaped (.tuple [.int z, .str op, affD led, .str coll]) = true := by
    have d1 : PyData.canLay0 (.tuple [.int z, .str op, affD led, .str coll]) = true := by simp [PyData.canLay0, PyData.canLayAll0, ho, hc, (aff_lay led).1]
    have d2 : PyData.depth (.tuple [.int z, .str op, affD led, .str coll]) ≤ 64 := by simp [PyData.depth, PyData.depthAll, (aff_lay led).2]
    unfold SeqAt.shaped
    rw [d1, decide_eq_true d2]; rfl
  refine ne_dataH (Reads.tuple (N _ h1).1 rfl rfl (ReadsAll.cons (Reads.int _ _) (ReadsAll.cons (Reads.str _ _) (ReadsAll.cons (oa_reads x) (ReadsAll.cons (Reads.str _ _) ReadsAll.nil)))))
    (Reads.tuple (N _ h2).1 rfl rfl (ReadsAll.cons (Reads.int _ _) (ReadsAll.cons (Reads.str _ _) (ReadsAll.cons (oa_reads y) (ReadsAll.cons (Reads.str _ _) ReadsAll.nil))))) sh sh hu ?_
  have e : PyData.eqv (.tuple [.int z, .str op, affD led, .str coll]) (.tuple [.int z, .str op, affD led, .str coll]) = true := by simp [PyData.eqv, PyData.eqvAll, aff_eqv]
  rw [e]; exact h
theorem ops_ok {x : Str} (h : x ∈ OPS) : PyData.strOk x = true := by
  rcases ops_cases h with rfl | rfl | rfl | rfl | rfl | rfl <;> decide +kernel
theorem RowEnd.of2 {h₀ : Heap} {L : Addr} {m : Str → Option Value} {l tl t2 : List (Addr × Obj)} {d : Side} {s : Shared} {r : Value} {h : Heap} {tk : Nat} (N : News h₀ L h (t2 ++ (tl ++ l))) (F : Fr h₀ L h m) (ap : Apart l tl) (ap2 : Apart (tl ++ l) t2) (x : RowIn t2 r d) : RowEnd h₀ L m l d s r { s with heap := h, toks := tk } :=
  ⟨t2 ++ tl, h, tk, rfl, F, by rw [List.append_assoc]; exact N, Apart.app (Apart.sub ap2 fun p hp => List.mem_append_right _ hp) ap, x.mono fun p hp => List.mem_append_left _ hp⟩
theorem oa_handed {v : Value} {a : Option Aff} (h : OA v a) : handedIn v = true := by cases h <;> rfl
theorem item_at8 {prog : Program} {w : World} {A : Around} {E : Value → Shared → Prop} {s : Shared} {h₀ : Heap} {L : Addr} {news : List (Addr × Obj)} {la : Addr} {vs : List Value} {ln : Nat} {Q : Value → Shared → Prop} {value slice : PySem.Expr} {k : Int} {u : Tok} {v : Value} (N : News h₀ L s.heap news) (hm : (la, listOf vs.toArray ln) ∈ news) (h0 : 0 ≤ k) (h1 : k ≤ 8) (hv : vs[k.toNat]? = some v) (h : Q v s)
    (hs : subscripted slice false (.ref la) (.int k u) = operate [.ref la, .int k u] (getItem (.ref la) (.int k u)) := by with_unfolding_all rfl) :
    wpAny (model prog w) A (subscriptTail value slice (.ref la) (.int k u)) Q E s := by
  have hL := News.isList N hm
  exact tail_any hL.typeIs slot_list_getitem.lookup (wpAny_getItem_list hL h0 (by omega) (by simpa using hv) h) hs
theorem in_ok : PyData.strOk (Str.ofString "in") = true := by decide +kernel
-- P26
noncomputable def RowFn : Side → Addr → Prop
  | .lit _, f => f = 87 | .col _, f => f = 113 | .cast _ _, f => f = 371 | .coll _ _, f => f = 397
theorem rowFn_keep {d : Side} {f : Addr} {w : World} (h : RowFn d f) : keepIn (mk.heap_1 w.params) (.ref f) = true := by
  cases d with
  | lit _ => have e : f = 87 := h; subst e; exact (by k_is : keepIn (mk.heap_1 w.params) (.ref 87) = true)
  | col _ => have e : f = 113 := h; subst e; exact (by k_is : keepIn (mk.heap_1 w.params) (.ref 113) = true)
  | cast _ _ => have e : f = 371 := h; subst e; exact (by k_is : keepIn (mk.heap_1 w.params) (.ref 371) = true)
  | coll _ _ => have e : f = 397 := h; subst e; exact (by k_is : keepIn (mk.heap_1 w.params) (.ref 397) = true)
theorem meth_row {prog : Program} {w : World} {A : Around} {E : Value → Shared → Prop} {s : Shared} {h₀ : Heap} {L : Addr} {m : Str → Option Value} {news : List (Addr × Obj)} {k : Cols} {v : Value} {d : Side} {p : Program} {loose : List Str} {mean : ExcName → Option Value} {mg mb : Str → Option Value} {pl : Sem Bool} {Q : Value × List Value → Shared → Prop}
    (F : Fr h₀ L s.heap m) (N : News h₀ L s.heap news) (X : (mk.heap_1 w.params).In h₀) (T : Top p loose mean mg mb h₀) (hR : NodeIn w k news v d) (h : ∀ f tk, RowFn d f → Q (.ref f, [v]) { s with toks := tk }) : wpAny (model prog w) A (getMethod v (Str.ofString "row") pl) Q E s := by
  cases hR with
  | lit h1 h2 h3 => walk1; exact h _ _ rfl
  | col i h1 h2 => walk1; exact h _ _ rfl
  | cast h1 h2 h3 => walk1; exact h _ _ rfl
  | coll h1 h2 h3 => walk1; exact h _ _ rfl
theorem row_c {prog : Program} {w : World} {dp un : Nat} {gd : Option (List Code)} {cn : Str} {cs : Scope} {a : Addr} {ccd : Value} {cl : List (Str × Addr)} {outer : List Env} {A₀ : Around} {base h₀ : Heap} {L : Addr} {m : Str → Option Value} {p : Program} {loose : List Str} {mean : ExcName → Option Value} {mg mb : Str → Option Value} {hp : Heap} {gs : Array GenState} {dr : Drawn} {tk : Nat} {os : OsState} {Q E : Value → Shared → Prop} {news : List (Addr × Obj)} {v : Value} {k : Cols} {d : Side} {f9 : Addr}
    (c : Cx w dp un 855 8760 cs A₀ base outer h₀ L hp m p loose mean mg mb) (N : News h₀ L hp (news)) (hR : NodeIn w k news v d) (hB : d.Ok) (hf : RowFn d f9)
    (ret : ∀ r tl h₁ tk₁, Apart news tl → RowIn tl r d → Fr h₀ L h₁ m → News h₀ L h₁ (tl ++ news) → Q r ⟨h₁, gs, dr, tk₁, os⟩) :
    wpAny (model prog w) (ktrTop dp un gd cn cs L a ccd cl outer) (call (.ref f9) [v]) Q E ⟨hp, gs, dr, tk, os⟩ := by
  obtain ⟨B, F, X, T, hk, hdp, hun⟩ := c
  refine lowerK hdp hun ?_
  cases hR with
  | lit h1 h2 h3 => have e : f9 = 87 := hf; subst e; exact rowlit_c ⟨B, F, X, T, hk, by decide, by decide⟩ N (NodeIn.lit (k := k) h1 h2 h3) ret
  | col i h1 h2 => have e : f9 = 113 := hf; subst e; exact rowcol_c ⟨B, F, X, T, hk, by decide, by decide⟩ N (NodeIn.col (k := k) i h1 h2) ret
  | cast h1 h2 h3 => have e : f9 = 371 := hf; subst e; exact rowcast_c ⟨B, F, X, T, hk, by decide, by decide⟩ N (NodeIn.cast (k := k) h1 h2 h3) (ok_cast hB) (ok_castT hB) ret
  | coll h1 h2 h3 => have e : f9 = 397 := hf; subst e; exact rowcoll_c ⟨B, F, X, T, hk, by decide, by decide⟩ N (NodeIn.coll (k := k) h1 h2 h3) (ok_coll hB) (ok_collT hB) ret
example : True := by
  (k_with "CR" => (((with_reducible show wpAny _ _ (call (Value.ref _) _) _ _ _); k_dflt (refine' row_c ?cz238 ?Nz238 ?p0z238 ?p1z238 ?p2z238 ?_; (case cz238 => ktn_no "Mine.cx"); (case Nz238 => k_asm); (case p0z238 => ktn_no "Mine.rel"); (case p1z238 => assumption); (case p2z238 => assumption); k_whole); intro r' tl' h' tk' ha' hr' F' N'; (try k_sweep); ktn_no "Mine.aft")))
  trivial
-- P21
section
example : True := by
  (k_with "L239" => (((with_reducible show wpAny _ _ (subscriptTail _ _ (Value.ref _) (Value.int _ _)) _ _ _); k_dflt (refine' item_at8 ?z1z239 ?z2z239 ?z3z239 ?z4z239 ?z5z239 ?_; (case z1z239 => k_asm); (case z2z239 => k_mem); (case z3z239 => decide); (case z4z239 => decide); (case z5z239 => rfl)))))
  trivial
local macro_rules | `(tactic| walk_at "subscriptTail") => `(tactic| k_extra "L239")
example : True := by
  (k_with "L240" => (exact oa_handed (by assumption)))
  trivial
local macro_rules | `(tactic| k_handed) => `(tactic| k_extra "L240")
example : True := by
  (k_with "L241" => ((k_dflt (refine' ne_heads ?Nz241 ?mz241 ?ez241 ?xz241 ?yz241 ?oz241 ?cz241 ?uz241 ?_; (case Nz241 => k_asm); (case mz241 => k_mem); (case ez241 => k_mem); (case xz241 => assumption); (case yz241 => assumption); (case oz241 => first | exact in_ok | exact ops_ok (by assumption)); (case cz241 => assumption); (case uz241 => k_units)))))
  trivial
local macro_rules | `(tactic| walk_at "compareOp NotEq ref ref") => `(tactic| k_extra "L241")
example : True := by
  (k_with "L242" => ((refine eq_in (by assumption) ?_)))
  trivial
local macro_rules | `(tactic| walk_at "compareOp Eq str str") => `(tactic| k_extra "L242")
example : True := by
  (k_with "L243" => ((k_dflt (refine' eq_rows ?Nz243 ?mz243 ?ez243 ?xz243 ?yz243 ?bz243 ?uz243 ?_; (case Nz243 => k_asm); (case mz243 => k_mem); (case ez243 => k_mem); (case xz243 => exact RowsIn.mono (by assumption) (by ktn_no "Mine.sub")); (case yz243 => exact RowsIn.mono (by assumption) (by ktn_no "Mine.sub")); (case bz243 => assumption); (case uz243 => k_units)))))
  trivial
local macro_rules | `(tactic| walk_at "compareOp Eq ref ref") => `(tactic| k_extra "L243")
example : True := by
  (k_with "L244" => ((k_dflt (refine' row_src ?hhz244 ?Fz244 ?Nz244 ?hmz244 ?rz244 ?hbz244 ?hlenz244 ?_ ?_; (case hhz244 => rfl); (case Fz244 => k_asm); (case Nz244 => k_asm); (case hmz244 => k_mem); (case rz244 => first | exact RelL.cons (by assumption) RelL.nil | exact RelL.nodes (by assumption) | exact RelL.sides (by assumption)); (case hbz244 => assumption); (case hlenz244 => first | assumption | exact Nat.le_of_ble_eq_true rfl)); (try dsimp only))))
  trivial
local macro_rules | `(tactic| walk_at "CompSrc") => `(tactic| k_extra "L244")
example : True := by
  (k_with "L245" => (first | (refine' RowEnd.of ?Nz245 ?Fz245 ?az245 ?xz245; (case Nz245 => k_asm); (case Fz245 => k_asm); (case az245 => assumption); (case xz245 => assumption)) | (refine' RowEnd.of2 ?Nz245 ?Fz245 ?az245 ?bz245 ?xz245; (case Nz245 => k_asm); (case Fz245 => k_asm); (case az245 => assumption); (case bz245 => assumption); (case xz245 => assumption))))
  trivial
local macro_rules | `(tactic| walk_at "RowEnd") => `(tactic| k_extra "L245")
example : True := by
  (k_with "L246" => ((k_dflt (refine' meth_row ?Fz246 ?Nz246 ?Xz246 ?Tz246 ?hz246 ?_; (case Fz246 => k_asm); (case Nz246 => k_asm); (case Xz246 => k_asm); (case Tz246 => k_asm); (case hz246 => ktn_no "Mine.rel")); intro f' tk' hf'; (try dsimp only))))
  trivial
local macro_rules | `(tactic| walk_at "getMethod") => `(tactic| k_extra "L246")
example : True := by
  (k_with "L247" => ((k_dflt (first | (refine' callWith_K ?k1z247 ?k2z247 ?_; (case k1z247 => k_asm); (case k2z247 => exact rowFn_keep (by assumption)); k_whole) | (refine' callWith_K0 ?k1z247 ?k2z247 ?_; (case k1z247 => k_in); (case k2z247 => exact rowFn_keep (by assumption)); k_whole) | (refine' callWith_M0 ?k1z247 ?k2z247 ?_; (case k1z247 => k_meth); (case k2z247 => exact rowFn_keep (by assumption)); k_whole; try dsimp only [List.nil_append, List.cons_append])))))
  trivial
local macro_rules | `(tactic| walk_at "callWith ref") => `(tactic| k_extra "L247")
theorem alike_c {prog : Program} {w : World} {dp un : Nat} {gd : Option (List Code)} {cn : Str} {cs : Scope} {a : Addr} {ccd : Value} {cl : List (Str × Addr)} {outer : List Env} {A₀ : Around} {base h₀ : Heap} {L : Addr} {m : Str → Option Value} {p : Program} {loose : List Str} {mean : ExcName → Option Value} {mg mb : Str → Option Value} {hp : Heap} {gs : Array GenState} {dr : Drawn} {tk : Nat} {os : OsState} {Q E : Value → Shared → Prop} {news : List (Addr × Obj)} {bv dv cv : Value} {e : Due} {k : Cols}
    (c : Cx w dp un 825 8600 cs A₀ base outer h₀ L hp m p loose mean mg mb) (N : News h₀ L hp (news)) (hR1 : BoundIn w k news bv e) (hR2 : DueIn news dv e) (hF : e.Fine) (hC : ColsIn prog w news cv k)
    (ret : ∀  h₁ tk₁, Fr h₀ L h₁ m → News h₀ L h₁ news → Q (.bool true) ⟨h₁, gs, dr, tk₁, os⟩) :
    wpAny (model prog w) (ktrTop dp un gd cn cs L a ccd cl outer) (call (.ref 771) [bv, dv, cv]) Q E ⟨hp, gs, dr, tk, os⟩ := by
  obtain ⟨B, F, X, T, hk, hdp, hun⟩ := c
  refine lowerK hdp hun ?_
  obtain ⟨kind, names, gen, co, more⟩ := cs
  (try dsimp only at hk)
  subst hk
  cases hF with
  | one ho hd hc =>
    have hds := List.forall_mem_cons.mpr ⟨hd, List.forall_mem_nil Side.Ok⟩
    cases hR1 with
    | one h1 h2 h3 h4 =>
      cases hR2 with
      | one g1 g2 g3 =>
        refine wpAny_call ?_
        k_dflt k_enter
        (first | (refine letA ?_; intro A9 e9) | skip)
        k_steps
        (refine' ret _ _  ?eF275 ?eN275; (case eN275 => ktn_no "Mine.N"); (case eF275 => k_asm))
  | many hlen hb hc =>
    have hds := fun d hd => Side.Ok.base (hb d hd)
    cases hR1 with
    | many h1 h2 h3 h4 h5 =>
      cases hR2 with
      | many g1 g2 g3 g4 =>
        refine wpAny_call ?_
        k_dflt k_enter
        (first | (refine letA ?_; intro A9 e9) | skip)
        k_steps
        (refine' ret _ _  ?eF276 ?eN276; (case eN276 => ktn_no "Mine.N"); (case eF276 => k_asm))
end
example : True := by
  (k_with "CR" => (((with_reducible show wpAny _ _ (call (Value.ref 771) _) _ _ _); k_dflt (refine' alike_c ?cz248 ?Nz248 ?p0z248 ?p1z248 ?p2z248 ?p3z248 ?_; (case cz248 => ktn_no "Mine.cx"); (case Nz248 => k_asm); (case p0z248 => ktn_no "Mine.rel"); (case p1z248 => ktn_no "Mine.rel"); (case p2z248 => assumption); (case p3z248 => ktn_no "Mine.rel"); k_whole); intro h' tk' F' N'; (try k_sweep); ktn_no "Mine.aft")))
  trivial
-- B39
theorem opt_len (o : Option Due) : o.toList.length ≤ 1 := by cases o <;> simp
theorem due_len {k : Cols} {f : Col → Aff} {c : Cond} : (dueS k f c).length ≤ 2 := by
  cases c with
  | op o l r =>
    show (if isTurn o = true then _ else _ : List Due).length ≤ 2
    split
    · rw [List.length_append]; have := opt_len (oneS k f o l r l r); have := opt_len (oneS k f (turnS o) r l l r); omega
    · exact Nat.zero_le _
  | btw v lo hi neg =>
    show (if neg = true then _ else _ : List Due).length ≤ 2
    split
    · exact Nat.zero_le _
    · rw [List.length_append]; have := opt_len (oneS k f (Str.ofString ">=") v lo v lo); have := opt_len (oneS k f (Str.ofString "<=") v hi v hi); omega
  | inn v ds neg =>
    show (if neg = true then _ else _ : List Due).length ≤ 2
    split
    · exact Nat.zero_le _
    · cases v with
      | col i =>
        by_cases hc : i.t = 1 ∧ ds ≠ [] ∧ (∀ d ∈ ds, d.own = false)
        · rw [inS_is hc]; exact Nat.le_succ _
        · rw [inS_not hc]; exact Nat.zero_le _
      | lit v => exact Nat.zero_le _
      | cast x y => exact Nat.zero_le _
      | coll x y => exact Nat.zero_le _
  | null v => exact Nat.zero_le _
theorem pair_cases {w : World} {k : Cols} {n1 n2 : List (Addr × Obj)} {vs us : List Value} {ds : List Due} (hb : BoundsIn w k n1 vs ds) (hd : DuesIn n2 us ds) (hl : ds.length ≤ 2) (hf : ∀ d ∈ ds, d.Fine) :
    (vs = [] ∧ us = []) ∨ (∃ v u d, vs = [v] ∧ us = [u] ∧ BoundIn w k n1 v d ∧ DueIn n2 u d ∧ d.Fine) ∨ (∃ v u d v2 u2 d2, vs = [v, v2] ∧ us = [u, u2] ∧ BoundIn w k n1 v d ∧ DueIn n2 u d ∧ d.Fine ∧ BoundIn w k n1 v2 d2 ∧ DueIn n2 u2 d2 ∧ d2.Fine) := by
  cases hb with
  | nil => cases hd with | nil => exact .inl ⟨rfl, rfl⟩
  | cons b1 hb =>
    cases hd with
    | cons d1 hd =>
      have f1 := hf _ (List.mem_cons_self ..)
      cases hb with
      | nil => cases hd with | nil => exact .inr (.inl ⟨_, _, _, rfl, rfl, b1, d1, f1⟩)
      | cons b2 hb =>
        cases hd with
        | cons d2 hd =>
          have f2 := hf _ (List.mem_cons_of_mem _ (List.mem_cons_self ..))
          cases hb with
          | nil => cases hd with | nil => exact .inr (.inr ⟨_, _, _, _, _, _, rfl, rfl, b1, d1, f1, b2, d2, f2⟩)
          | cons _ _ => simp only [List.length_cons] at hl; omega
-- A19
theorem ite01 {p : Prop} [Decidable p] : (0 : Int) ≤ if p then 1 else 0 := by split <;> decide
section
example : True := by
  (k_with "L249" => ((refine call_len_list (Fr.lst (by k_asm) (by assumption)) (by rw [List.size_toArray, IntsAre.length (by assumption)]; omega) ?_)))
  trivial
local macro_rules | `(tactic| walk_at "call builtin:len") => `(tactic| k_extra "L249")
theorem pool_c {prog : Program} {w : World} {dp un : Nat} {gd : Option (List Code)} {cn : Str} {cs : Scope} {a : Addr} {ccd : Value} {cl : List (Str × Addr)} {outer : List Env} {A₀ : Around} {base h₀ : Heap} {L : Addr} {m : Str → Option Value} {p : Program} {loose : List Str} {mean : ExcName → Option Value} {mg mb : Str → Option Value} {hp : Heap} {gs : Array GenState} {dr : Drawn} {tk : Nat} {os : OsState} {Q E : Value → Shared → Prop} {news : List (Addr × Obj)} {xs : Addr} {vs : List Value} {ns : List Int} {tz : Tok}
    (c : Cx w dp un 885 8920 cs A₀ base outer h₀ L hp m p loose mean mg mb) (N : News h₀ L hp (news)) (hl : base.IsList xs vs.toArray) (hI : IntsAre vs ns) (hn : ns.length ≤ 63)
    (ret : ∀ sa x tx y ty n h₁ tk₁, 0 ≤ x → 0 ≤ y → (∀ p ∈ news, p.1 < sa) → Fr h₀ L h₁ m → News h₀ L h₁ ((sa, src x tx y ty n) :: news) → Q (.ref sa) ⟨h₁, gs, dr, tk₁, os⟩) :
    wpAny (model prog w) (ktrTop dp un gd cn cs L a ccd cl outer) (call (.ref 660) [.ref xs, .int 0 tz]) Q E ⟨hp, gs, dr, tk, os⟩ := by
  obtain ⟨B, F, X, T, hk, hdp, hun⟩ := c
  refine lowerK hdp hun ?_
  obtain ⟨kind, names, gen, co, more⟩ := cs
  (try dsimp only at hk)
  subst hk
  refine wpAny_call ?_
  k_dflt k_enter
  (first | (refine letA ?_; intro A9 e9) | skip)
  k_steps
  · (refine' ret _ _ _ _ _ _ _ _ ?e277_0 ?e277_1 ?e277_2 ?eF277 ?eN277; (case eN277 => ktn_no "Mine.N"); (case eF277 => k_asm); (case e277_0 => first | exact fm_lo _ | exact Int.mul_nonneg (by split <;> omega) ite01 | exact Int.mul_nonneg (by decide) ite01 | decide | omega); (case e277_1 => first | exact fm_lo _ | exact Int.mul_nonneg (by split <;> omega) ite01 | exact Int.mul_nonneg (by decide) ite01 | decide | omega); (case e277_2 => assumption))
  · (refine' ret _ _ _ _ _ _ _ _ ?e278_0 ?e278_1 ?e278_2 ?eF278 ?eN278; (case eN278 => ktn_no "Mine.N"); (case eF278 => k_asm); (case e278_0 => first | exact fm_lo _ | exact Int.mul_nonneg (by split <;> omega) ite01 | exact Int.mul_nonneg (by decide) ite01 | decide | omega); (case e278_1 => first | exact fm_lo _ | exact Int.mul_nonneg (by split <;> omega) ite01 | exact Int.mul_nonneg (by decide) ite01 | decide | omega); (case e278_2 => assumption))
end
example : True := by
  (k_with "CR" => (((with_reducible show wpAny _ _ (call (Value.ref 660) _) _ _ _); k_dflt (refine' pool_c ?cz250 ?Nz250 ?p0z250 ?p1z250 ?p2z250 ?_; (case cz250 => ktn_no "Mine.cx"); (case Nz250 => k_asm); (case p0z250 => assumption); (case p1z250 => assumption); (case p2z250 => omega); k_whole); intro sa' x' tx' y' ty' n' h' tk' hx' hy' l1 F' N'; (try k_lt l1); (try k_sweep); ktn_no "Mine.aft")))
  trivial
-- B40
noncomputable def notCell (o : Obj) : Bool :=
  match o.data with
  | .cell _ => false | _ => true
theorem SideIn.strip {l l' : List (Addr × Obj)} {v : Value} {d : Side} (h : SideIn l v d) (hs : ∀ p ∈ l, notCell p.2 = true → p ∈ l') : SideIn l' v d := by
  induction h with
  | col i hm => exact .col i (hs _ hm rfl)
  | lit hm hv => exact .lit (hs _ hm rfl) hv
  | cast hm _ ih => exact .cast (hs _ hm rfl) ih
  | coll hm _ ih => exact .coll (hs _ hm rfl) ih
theorem SidesIn.strip {l l' : List (Addr × Obj)} {vs : List Value} {ds : List Side} (h : SidesIn l vs ds) (hs : ∀ p ∈ l, notCell p.2 = true → p ∈ l') : SidesIn l' vs ds := by
  induction h with
  | nil => exact .nil
  | cons h _ ih => exact .cons (h.strip hs) ih
theorem NodeIn.strip {w : World} {k : Cols} {l l' : List (Addr × Obj)} {v : Value} {d : Side} (h : NodeIn w k l v d) (hs : ∀ p ∈ l, notCell p.2 = true → p ∈ l') : NodeIn w k l' v d := by
  induction h with
  | col i h1 h2 => exact .col i (hs _ h1 rfl) (hs _ h2 rfl)
  | lit h1 h2 h3 => exact .lit (hs _ h1 rfl) (hs _ h2 rfl) h3
  | cast h1 h2 _ ih => exact .cast (hs _ h1 rfl) (hs _ h2 rfl) ih
  | coll h1 h2 _ ih => exact .coll (hs _ h1 rfl) (hs _ h2 rfl) ih
theorem NodesIn.strip {w : World} {k : Cols} {l l' : List (Addr × Obj)} {vs : List Value} {ds : List Side} (h : NodesIn w k l vs ds) (hs : ∀ p ∈ l, notCell p.2 = true → p ∈ l') : NodesIn w k l' vs ds := by
  induction h with
  | nil => exact .nil
  | cons h _ ih => exact .cons (h.strip hs) ih
theorem BoundIn.strip {w : World} {k : Cols} {l l' : List (Addr × Obj)} {v : Value} {d : Due} (h : BoundIn w k l v d) (hs : ∀ p ∈ l, notCell p.2 = true → p ∈ l') : BoundIn w k l' v d := by
  cases h with
  | one h1 h2 h3 h4 => exact .one (hs _ h1 rfl) (hs _ h2 rfl) (h3.strip hs) h4
  | many h1 h2 h3 h4 h5 => exact .many (hs _ h1 rfl) (hs _ h2 rfl) (hs _ h3 rfl) (h4.strip hs) h5
theorem DueIn.strip {l l' : List (Addr × Obj)} {v : Value} {d : Due} (h : DueIn l v d) (hs : ∀ p ∈ l, notCell p.2 = true → p ∈ l') : DueIn l' v d := by
  cases h with
  | one h1 h2 h3 => exact .one (hs _ h1 rfl) (h2.strip hs) h3
  | many h1 h2 h3 h4 => exact .many (hs _ h1 rfl) (hs _ h2 rfl) (h3.strip hs) h4
theorem subC_cons {q : Addr × Obj} {r l' : List (Addr × Obj)} (h : notCell q.2 = true → q ∈ l') (k : ∀ p ∈ r, notCell p.2 = true → p ∈ l') : ∀ p ∈ q :: r, notCell p.2 = true → p ∈ l' := fun p hp hc => by
  rcases List.mem_cons.mp hp with rfl | hp
  · exact h hc
  · exact k p hp hc
theorem subC_app {a b l' : List (Addr × Obj)} (h : ∀ p ∈ a, notCell p.2 = true → p ∈ l') (k : ∀ p ∈ b, notCell p.2 = true → p ∈ l') : ∀ p ∈ a ++ b, notCell p.2 = true → p ∈ l' := fun p hp hc => by
  rcases List.mem_append.mp hp with hp | hp
  · exact h p hp hc
  · exact k p hp hc
theorem notCell_of {o : Obj} {v : Option Value} (h : o.data = .cell v) : notCell o = false := by unfold notCell; rw [h]
theorem cell_out {a : Addr} {o : Obj} {v : Option Value} {l' : List (Addr × Obj)} (h : o.data = .cell v) : notCell (a, o).2 = true → (a, o) ∈ l' := fun h9 => by rw [notCell_of (o := (a, o).2) h] at h9; cases h9
theorem subC_nil {l' : List (Addr × Obj)} : ∀ p ∈ ([] : List (Addr × Obj)), notCell p.2 = true → p ∈ l' := fun _ h => nomatch h
/-- three cells lie off a ledger -/
noncomputable def OffC (a3 a2 a1 : Addr) (R : List (Addr × Obj)) : Prop := (∀ p ∈ R, p.1 ≠ a3) ∧ (∀ p ∈ R, p.1 ≠ a2) ∧ (∀ p ∈ R, p.1 ≠ a1)
section
variable {a3 a2 a1 : Addr} {o3 o2 o1 : Obj} {l tl R : List (Addr × Obj)} {h₀ h : Heap} {L : Addr} {x q1 q2 q3 q4 q5 q6 q7 p1 p2 p3 : Addr × Obj}
theorem offC_new (h : Apart [(a3, o3), (a2, o2), (a1, o1)] tl) : OffC a3 a2 a1 (tl ++ []) :=
  ⟨fun p hp => h (a3, o3) (by simp) p (by simpa using hp), fun p hp => h (a2, o2) (by simp) p (by simpa using hp), fun p hp => h (a1, o1) (by simp) p (by simpa using hp)⟩
theorem offC_app (c : OffC a3 a2 a1 R) (h : Apart l tl) (m3 : (a3, o3) ∈ l) (m2 : (a2, o2) ∈ l) (m1 : (a1, o1) ∈ l) : OffC a3 a2 a1 (tl ++ R) :=
  ⟨fun p hp => (List.mem_append.mp hp).elim (Apart.ne h m3 p) (c.1 p), fun p hp => (List.mem_append.mp hp).elim (Apart.ne h m2 p) (c.2.1 p), fun p hp => (List.mem_append.mp hp).elim (Apart.ne h m1 p) (c.2.2 p)⟩
theorem offC3 (h : OffC a3 a2 a1 R) : ∀ p ∈ R, p.1 ≠ a3 := h.1
theorem offC2 (h : OffC a3 a2 a1 R) : ∀ p ∈ R, p.1 ≠ a2 := h.2.1
theorem offC1 (h : OffC a3 a2 a1 R) : ∀ p ∈ R, p.1 ≠ a1 := h.2.2
theorem headC {a : Addr} {o : Obj} (uc : OffC a3 a2 a1 R) (h : Apart l ((a, o) :: tl)) (m3 : (a3, o3) ∈ l) (m2 : (a2, o2) ∈ l) (m1 : (a1, o1) ∈ l) : a ≠ a3 ∧ a ≠ a2 ∧ a ≠ a1 :=
  ⟨(Apart.head h _ m3).symm, (Apart.head h _ m2).symm, (Apart.head h _ m1).symm⟩
theorem rotS (N : News h₀ L h (x :: (tl ++ p1 :: p2 :: p3 :: R))) : News h₀ L h (p1 :: p2 :: p3 :: x :: (tl ++ R)) := cb_drop N (by ktn_no "Mine.sub")
theorem rotP5 (N : News h₀ L h (tl ++ q1 :: q2 :: q3 :: q4 :: q5 :: R)) : News h₀ L h (q1 :: q2 :: q3 :: q4 :: q5 :: (tl ++ R)) := cb_drop N (by ktn_no "Mine.sub")
theorem rotP6 (N : News h₀ L h (tl ++ q1 :: q2 :: q3 :: q4 :: q5 :: q6 :: R)) : News h₀ L h (q1 :: q2 :: q3 :: q4 :: q5 :: q6 :: (tl ++ R)) := cb_drop N (by ktn_no "Mine.sub")
theorem rotH6 (N : News h₀ L h (x :: (tl ++ q1 :: q2 :: q3 :: q4 :: q5 :: q6 :: R))) : News h₀ L h (x :: q1 :: q2 :: q3 :: q4 :: q5 :: q6 :: (tl ++ R)) := cb_drop N (by ktn_no "Mine.sub")
theorem rotH7 (N : News h₀ L h (x :: (tl ++ q1 :: q2 :: q3 :: q4 :: q5 :: q6 :: q7 :: R))) : News h₀ L h (x :: q1 :: q2 :: q3 :: q4 :: q5 :: q6 :: q7 :: (tl ++ R)) := cb_drop N (by ktn_no "Mine.sub")
end
-- P22
section
example : True := by
  (k_with "L251" => (((with_reducible show wpAny _ _ (call (Value.ref 771) _) _ _ _); k_dflt (refine' alike_c ?cz251 ?Nz251 ?p0z251 ?p1z251 ?p2z251 ?p3z251 ?_; (case cz251 => ktn_no "Mine.cx"); (case Nz251 => k_asm); (case p0z251 => ktn_no "Mine.rel"); (case p1z251 => ktn_no "Mine.rel"); (case p2z251 => assumption); (case p3z251 => ktn_no "Mine.rel")); intro h' tk' F' N'; (try k_sweep); ktn_no "Mine.aft")))
  trivial
local macro_rules | `(tactic| walk_at "call ref") => `(tactic| k_extra "L251")
example : True := by
  (k_with "L252" => (((with_reducible show wpAny _ _ (call (Value.ref 681) _) _ _ _); k_dflt (refine' columns_c ?cz252 ?Nz252 ?p0z252 ?p1z252 ?p2z252 ?_; (case cz252 => ktn_no "Mine.cx"); (case Nz252 => ktn_no "Mine.src"); (case p0z252 => k_all); (case p1z252 => assumption); (case p2z252 => assumption); k_whole); intro v' k' tl' x' tx' y' ty' n' h' tk' hts' ha' hv' hk' hx' hy' F' N'; (try k_sweep); (obtain ⟨f', hf'⟩ := Cols.Ok.affIs hk'); (have C' := offC_new ha'); (have x3' := offC3 C'); (have x2' := offC2 C'); (have x1' := offC1 C'); replace N' := rotS N'; ktn_no "Mine.aft")))
  trivial
local macro_rules | `(tactic| walk_at "call ref") => `(tactic| k_extra "L252")
example : True := by
  (k_with "L253" => (((with_reducible show wpAny _ _ (call (Value.ref 749) _) _ _ _); k_dflt (refine' cond_c ?cz253 ?Nz253 ?p0z253 ?p1z253 ?p2z253 ?_; (case cz253 => ktn_no "Mine.cx"); (case Nz253 => ktn_no "Mine.src"); (case p0z253 => k_all); (case p1z253 => assumption); (case p2z253 => assumption); k_whole); intro v' d' tl' x' tx' y' ty' n' h' tk' hts' ha' hv' hd' hx' hy' F' N'; (try k_sweep); (have C' := offC_app (by assumption) ha' (by k_mem) (by k_mem) (by k_mem)); (have x3' := offC3 C'); (have x2' := offC2 C'); (have x1' := offC1 C'); replace N' := rotS N'; ktn_no "Mine.aft")))
  trivial
local macro_rules | `(tactic| walk_at "call ref") => `(tactic| k_extra "L253")
example : True := by
  (k_with "L254" => (((with_reducible show wpAny _ _ (call (Value.ref 754) _) _ _ _); k_dflt (refine' expr_c ?cz254 ?Nz254 ?p0z254 ?p1z254 ?p2z254 ?_; (case cz254 => ktn_no "Mine.cx"); (case Nz254 => k_asm); (case p0z254 => ktn_no "Mine.rel"); (case p1z254 => k_asm); (case p2z254 => ktn_no "Mine.rel"); k_whole); intro r' tl' h' tk' ha' hn' F' N'; (try k_sweep); (have C' := offC_app (by assumption) ha' (by k_mem) (by k_mem) (by k_mem)); (have x3' := offC3 C'); (have x2' := offC2 C'); (have x1' := offC1 C'); replace N' := rotP5 N'; ktn_no "Mine.aft")))
  trivial
local macro_rules | `(tactic| walk_at "call ref") => `(tactic| k_extra "L254")
example : True := by
  (k_with "L255" => (((with_reducible show wpAny _ _ (call (Value.ref 618) _) _ _ _); k_dflt (refine' tm_c ?cz255 ?Nz255 ?p0z255 ?p1z255 ?p2z255 ?_; (case cz255 => ktn_no "Mine.cx"); (case Nz255 => k_asm); (case p0z255 => ktn_no "Mine.rel"); (case p1z255 => k_asm); (case p2z255 => k_mem); k_whole); intro r' tl' h' tk' ht' ha' F' N'; (try k_sweep); (have C' := offC_app (by assumption) ha' (by k_mem) (by k_mem) (by k_mem)); (have x3' := offC3 C'); (have x2' := offC2 C'); (have x1' := offC1 C'); replace N' := rotP6 N'; ktn_no "Mine.aft")))
  trivial
local macro_rules | `(tactic| walk_at "call ref") => `(tactic| k_extra "L255")
example : True := by
  (k_with "L256" => (((with_reducible show wpAny _ _ (call (Value.ref 653) _) _ _ _); k_dflt (refine' bnd_c ?cz256 ?Nz256 ?p0z256 ?p1z256 ?p2z256 ?p3z256 ?_; (case cz256 => ktn_no "Mine.cx"); (case Nz256 => k_asm); (case p0z256 => ktn_no "Mine.rel"); (case p1z256 => k_asm); (case p2z256 => k_asm); (case p3z256 => k_asm); k_whole); intro la' vs' n' tl' h' tk' hb' ha' F' N'; (try k_sweep); (have z9' := headC (by assumption) ha' (by k_mem) (by k_mem) (by k_mem)); (have z3' := And.left z9'); (have z2' := And.left (And.right z9')); (have z1' := And.right (And.right z9')); (clear z9'); (have ha9 := Apart.tail ha'); (have C' := offC_app (by assumption) ha9 (by k_mem) (by k_mem) (by k_mem)); (have x3' := offC3 C'); (have x2' := offC2 C'); (have x1' := offC1 C'); replace N' := rotH6 N'; ktn_no "Mine.aft")))
  trivial
local macro_rules | `(tactic| walk_at "call ref") => `(tactic| k_extra "L256")
example : True := by
  (k_with "L257" => (((with_reducible show wpAny _ _ (call (Value.ref 766) _) _ _ _); k_dflt (refine' due_c ?cz257 ?Nz257 ?p0z257 ?p1z257 ?p2z257 ?p3z257 ?_; (case cz257 => ktn_no "Mine.cx"); (case Nz257 => k_asm); (case p0z257 => ktn_no "Mine.rel"); (case p1z257 => k_asm); (case p2z257 => ktn_no "Mine.rel"); (case p3z257 => k_asm); k_whole); intro la' vs' n' tl' h' tk' hd' ha' F' N'; (try k_sweep); (have z9' := headC (by assumption) ha' (by k_mem) (by k_mem) (by k_mem)); (have z3' := And.left z9'); (have z2' := And.left (And.right z9')); (have z1' := And.right (And.right z9')); (clear z9'); (have ha9 := Apart.tail ha'); (have C' := offC_app (by assumption) ha9 (by k_mem) (by k_mem) (by k_mem)); (have x3' := offC3 C'); (have x2' := offC2 C'); (have x1' := offC1 C'); replace N' := rotH7 N'; (rcases pair_cases (by assumption) hd' due_len (due_ok (by assumption) (by assumption)) with ⟨e1', e2'⟩ | ⟨v1', u1', d1', e1', e2', b1', q1', f1'⟩ | ⟨v1', u1', d1', v2', u2', d2', e1', e2', b1', q1', f1', b2', q2', f2'⟩ <;> subst e1' <;> subst e2') <;> ktn_no "Mine.aft")))
  trivial
local macro_rules | `(tactic| walk_at "call ref") => `(tactic| k_extra "L257")
example : True := by
  (k_with "L258" => ((refine' compEnd0 ?z1z258 ?z2z258 ?z3z258 ?z4z258 ?_; (case z1z258 => k_asm); (case z2z258 => k_asm); (case z3z258 => assumption); (case z4z258 => trivial))))
  trivial
local macro_rules | `(tactic| walk_at "CompEnd") => `(tactic| k_extra "L258")
example : True := by
  (k_with "L259" => ((k_dflt (refine LCt.CompSrcT.range (by rfl) (by k_asm) (by k_asm) (by assumption) (by first | decide | rfl) (by first | rfl | decide) (by exact Nat.le_of_ble_eq_true rfl) ?_; intro g'; lct_lit))))
  trivial
local macro_rules | `(tactic| walk_at "CompSrcT") => `(tactic| k_extra "L259")
example : True := by
  (k_with "L260" => ((k_dflt (refine' len_mem ?k1z260 ?k2z260 ?k3z260 ?_; (case k1z260 => k_asm); (case k2z260 => ktn_no "Mine.memR"); (case k3z260 => exact Nat.le_of_ble_eq_true rfl)); (try dsimp only [List.length]))))
  trivial
local macro_rules | `(tactic| walk_at "call builtin:len") => `(tactic| k_extra "L260")
example : True := by
  (k_with "L261" => ((k_dflt (refine' eq_nil ?Nz261 ?mz261 ?ez261 ?uz261 ?_; (case Nz261 => k_asm); (case mz261 => exact List.mem_cons_of_mem _ List.mem_cons_self); (case ez261 => exact List.mem_cons_self); (case uz261 => k_units)))))
  trivial
local macro_rules | `(tactic| walk_at "compareOp Eq ref ref") => `(tactic| k_extra "L261")
local macro_rules | `(tactic| ktn_no "Mine.offc") => `(tactic| first | with_reducible assumption | with_reducible exact List.forall_mem_nil _ | (with_reducible refine List.forall_mem_cons.mpr ⟨?_, ?_⟩; focus (first | with_reducible assumption | k_ne); ktn_no "Mine.offc"))
example : True := by
  (k_with "L262" => (((with_reducible refine inCellsS ?_); (rename Fr _ _ _ _ => F'); (rename News _ _ _ _ => N'); first | (with_unfolding_all refine stLocN F' N' ?_; intro _ _ _) | (with_unfolding_all refine stCN (own := []) (rest := _) F' N' rfl (by assumption) (by ktn_no "Mine.offc") (by ktn_no "Mine.offc") ?_; intro _ _ _ _ _) | (with_unfolding_all refine stCN (own := [_]) (rest := _) F' N' rfl (by assumption) (by ktn_no "Mine.offc") (by ktn_no "Mine.offc") ?_; intro _ _ _ _ _) | (with_unfolding_all refine stCN (own := [_, _]) (rest := _) F' N' rfl (by assumption) (by ktn_no "Mine.offc") (by ktn_no "Mine.offc") ?_; intro _ _ _ _ _) | (with_unfolding_all refine stCN (own := [_, _, _]) (rest := _) F' N' rfl (by assumption) (by ktn_no "Mine.offc") (by ktn_no "Mine.offc") ?_; intro _ _ _ _ _) | (with_unfolding_all refine stCN (own := [_, _, _, _]) (rest := _) F' N' rfl (by assumption) (by ktn_no "Mine.offc") (by ktn_no "Mine.offc") ?_; intro _ _ _ _ _) | (with_unfolding_all refine stCN (own := [_, _, _, _, _]) (rest := _) F' N' rfl (by assumption) (by ktn_no "Mine.offc") (by ktn_no "Mine.offc") ?_; intro _ _ _ _ _) | (with_unfolding_all refine stCN (own := [_, _, _, _, _, _]) (rest := _) F' N' rfl (by assumption) (by ktn_no "Mine.offc") (by ktn_no "Mine.offc") ?_; intro _ _ _ _ _) | (with_unfolding_all refine stCN (own := [_, _, _, _, _, _, _]) (rest := _) F' N' rfl (by assumption) (by ktn_no "Mine.offc") (by ktn_no "Mine.offc") ?_; intro _ _ _ _ _))))
  trivial
local macro_rules | `(tactic| walk_at "storeName") => `(tactic| k_extra "L262")
local macro_rules | `(tactic| ktn_no "Mine.subC") => `(tactic| first
  | exact subC_nil
  | (refine' subC_cons ?sca ?scb; (case sca => first | (refine' cell_out ?sco; (case sco => with_reducible assumption)) | (intro h9; k_mem)); (case scb => ktn_no "Mine.subC"))
  | (refine' subC_app ?sca ?scb; (case sca => ktn_no "Mine.subC"); (case scb => ktn_no "Mine.subC"))
  | (intro p9 hp9 _; k_mem))
local macro_rules | `(tactic| ktn_no "Mine.rel") => `(tactic| first
  | (refine' TermIn.mono ?sm1 ?sm2; (case sm1 => assumption); (case sm2 => ktn_no "Mine.sub"))
  | (refine' BoundIn.strip ?sm1 ?sm2; (case sm1 => assumption); (case sm2 => ktn_no "Mine.subC"))
  | (refine' DueIn.strip ?sm1 ?sm2; (case sm1 => assumption); (case sm2 => ktn_no "Mine.subC")))
theorem fin.tw10567028658651823492 : True := True.intro
theorem fin.tw2824846461999071874 : True := True.intro
theorem fin.tw16502652511500755 : True := True.intro
theorem fin.tw17042547190273235257 : True := True.intro
theorem fin.tw13294311002278339166 : True := True.intro
theorem fin.tw6381419901266130222 : True := True.intro
theorem fin.tw4171678462856256454 : True := True.intro
theorem fin.tw4768634762848416435 : True := True.intro
theorem fin.tw12237877928780879103 : True := True.intro
theorem fin.tw12629903358213643309 : True := True.intro
theorem fin.tw11079828417688620724 : True := True.intro
theorem fin.tw5678346346211369953 : True := True.intro
theorem fin.tw2321816554428607280 : True := True.intro
theorem fin.tw6144012678527597917 : True := True.intro
theorem fin.tw5293390819737331289 : True := True.intro
theorem fin.tw6956187926921108005 : True := True.intro
theorem fin.tw11298980531735778240 : True := True.intro
theorem fin.tw18295790063311454060 : True := True.intro
theorem fin.tw16175276709679454751 : True := True.intro
theorem fin.tw15564276425815640635 : True := True.intro
theorem fin.tw2866121171748074186 : True := True.intro
theorem fin.tw12180539936304867106 : True := True.intro
theorem fin.tw10147658903529517814 : True := True.intro
theorem fin.tw12711679700452659978 : True := True.intro
theorem fin.tw3683778510129048087 : True := True.intro
theorem fin.tw12212933522069011988 : True := True.intro
theorem fin.tw4950403968356008110 : True := True.intro
theorem fin.tw10874316729293906858 : True := True.intro
theorem fin.tw12118000046449163591 : True := True.intro
theorem fin.tw14574801432027512755 : True := True.intro
theorem fin.tw1625080806587739848 : True := True.intro
theorem fin.tw999798209818781672 : True := True.intro
theorem fin.tw3810338749695602999 : True := True.intro
theorem fin.tw10895054467252067526 : True := True.intro
theorem fin.tw8352470293576582857 : True := True.intro
theorem fin.tw16401934584784274106 : True := True.intro
theorem fin.tw15688172546075569117 : True := True.intro
theorem fin.tw17656766251404061198 : True := True.intro
theorem fin.tw13516622038369049944 : True := True.intro
theorem fin.tw1963134401048803436 : True := True.intro
theorem fin.tw16196181902256332553 : True := True.intro
theorem fin.tw7995362448368537469 : True := True.intro
theorem fin.tw10807920368746810246 : True := True.intro
theorem fin.tw1976505206021243879 : True := True.intro
theorem fin.tw5897612983314593646 : True := True.intro
theorem fin.tw13790858721211988464 : True := True.intro
theorem fin.tw17197158672614542318 : True := True.intro
theorem fin.tw6207176494656529804 : True := True.intro
theorem fin.tw6081921254191324426 : True := True.intro
theorem fin.tw17717364068325071970 : True := True.intro
theorem fin.tw15205425988870721313 : True := True.intro
theorem fin.tw13870153662132920491 : True := True.intro
theorem fin.tw3199103547748192838 : True := True.intro
theorem fin.tw14517287926952318261 : True := True.intro
theorem fin.tw3173534031939492945 : True := True.intro
theorem fin.tw7000300075881102575 : True := True.intro
theorem fin.tw2656788454239962097 : True := True.intro
theorem fin.tw14497727239971306367 : True := True.intro
theorem fin.tw3975253019698251321 : True := True.intro
theorem fin.tw8383268338085895543 : True := True.intro
theorem fin.tw16958243865122950064 : True := True.intro
theorem fin.tw3343445320678177929 : True := True.intro
theorem fin.tw1666694428299288667 : True := True.intro
theorem fin.tw744865244796547220 : True := True.intro
theorem fin.tw15583698165555649274 : True := True.intro
theorem fin.tw17067295170570645592 : True := True.intro
theorem fin.tw4878226113927451544 : True := True.intro
theorem fin.tw8643116662766533202 : True := True.intro
theorem fin.tw10383673109516279431 : True := True.intro
theorem fin.tw14210890002308233579 : True := True.intro
theorem fin.tw757079261281740938 : True := True.intro
theorem fin.tw9113340658982188547 : True := True.intro
theorem fin.tw1982079694162106894 : True := True.intro
theorem fin.tw8025084765662995669 : True := True.intro
theorem fin.tw6068950659093879613 : True := True.intro
theorem fin.tw12464766053444552404 : True := True.intro
theorem fin.tw17449020081951674710 : True := True.intro
theorem fin.tw1613116972386908190 : True := True.intro
theorem fin.tw5098551885099359569 : True := True.intro
theorem fin.tw17861066769153400444 : True := True.intro
theorem fin.tw2462912638960843985 : True := True.intro
theorem fin.tw6127190174262240918 : True := True.intro
theorem fin.tw10875463905939285979 : True := True.intro
theorem fin.tw8919302590299486024 : True := True.intro
theorem fin.tw7613857476909055813 : True := True.intro
theorem fin.tw6968583824967984638 : True := True.intro
theorem fin.tw12284014389350100970 : True := True.intro
theorem fin.tw3599858809825778643 : True := True.intro
theorem fin.tw5901363791540438844 : True := True.intro
theorem fin.tw9735714214384596553 : True := True.intro
theorem fin.tw5486226609284752418 : True := True.intro
theorem fin.tw12696600883282566439 : True := True.intro
theorem fin.tw18105285910621931680 : True := True.intro
theorem fin.tw15533503492667675913 : True := True.intro
theorem fin.tw3263211703599914710 : True := True.intro
theorem fin.tw4588413851689716618 : True := True.intro
theorem fin.tw6454446336052903152 : True := True.intro
theorem fin.tw1887099378405440850 : True := True.intro
theorem fin.tw10852849658779182186 : True := True.intro
theorem fin.tw14431720936831517352 : True := True.intro
theorem fin.tw4868334931027891882 : True := True.intro
theorem fin.tw891787732878383699 : True := True.intro
theorem fin.tw11336253725339858928 : True := True.intro
theorem fin.tw15832999045522443761 : True := True.intro
theorem fin.tw16656299143469825513 : True := True.intro
theorem fin.tw3404873503106905745 : True := True.intro
theorem fin.tw10242451874928486539 : True := True.intro
theorem fin.tw13467322939085005891 : True := True.intro
theorem fin.tw251868834278440796 : True := True.intro
theorem fin.tw17801579834951734752 : True := True.intro
theorem fin.tw9913140749668108558 : True := True.intro
theorem fin.tw11615019562542576733 : True := True.intro
theorem fin.tw12567809125941998234 : True := True.intro
theorem fin.tw8272817396058243321 : True := True.intro
theorem fin.tw8399098705505230059 : True := True.intro
theorem fin.tw2305881189932309285 : True := True.intro
theorem fin.tw9001875181463519149 : True := True.intro
theorem fin.tw895571856199123645 : True := True.intro
theorem fin.tw4218790737952374519 : True := True.intro
theorem fin.tw17204297501091165112 : True := True.intro
theorem fin.tw799341379326975648 : True := True.intro
theorem fin.tw14347400895652799225 : True := True.intro
theorem fin.tw1921391257341544841 : True := True.intro
theorem fin.tw3459265974087741279 : True := True.intro
theorem fin.tw670465573061467203 : True := True.intro
theorem fin.tw10936777179133785780 : True := True.intro
theorem fin.tw4788878847521262168 : True := True.intro
theorem fin.tw1014637456484912126 : True := True.intro
theorem fin.tw14245171486683049214 : True := True.intro
theorem fin.tw7976502392129159676 : True := True.intro
theorem fin.tw13724452099449386491 : True := True.intro
theorem fin.tw8577089030196625639 : True := True.intro
theorem fin.tw15989303212955285315 : True := True.intro
theorem fin.tw5776136370200156792 : True := True.intro
theorem fin.tw18195182924450695511 : True := True.intro
theorem fin.tw14856888987745899463 : True := True.intro
theorem fin.tw1819255440876223710 : True := True.intro
theorem fin.tw12876116671307685997 : True := True.intro
theorem fin.tw2512408688544751470 : True := True.intro
theorem fin.tw12869217540446652890 : True := True.intro
theorem fin.tw428092273266315144 : True := True.intro
theorem fin.tw12550770813317053977 : True := True.intro
theorem fin.tw6766378078585498003 : True := True.intro
theorem fin.tw6498334528663615478 : True := True.intro
theorem fin.tw3810570522144960214 : True := True.intro
theorem fin.tw4170516301191304579 : True := True.intro
theorem fin.tw14139026862911339306 : True := True.intro
theorem fin.tw8947099994592609211 : True := True.intro
theorem fin.tw15201286185872193147 : True := True.intro
theorem fin.tw846297522682114974 : True := True.intro
theorem fin.tw7613945582906998725 : True := True.intro
theorem fin.tw12494888245299231016 : True := True.intro
theorem fin.tw9722632081671974098 : True := True.intro
theorem fin.tw4640724917100965312 : True := True.intro
theorem fin.tw6567050819087999508 : True := True.intro
theorem fin.tw4769821431679368130 : True := True.intro
theorem fin.tw1252854909445205041 : True := True.intro
theorem fin.tw11192643925408225281 : True := True.intro
theorem fin.tw14560573928864763818 : True := True.intro
theorem fin.tw2367325634123391141 : True := True.intro
theorem fin.tw17662344363894024548 : True := True.intro
theorem fin.tw16934629359412608497 : True := True.intro
theorem fin.tw15373703851562958014 : True := True.intro
theorem fin.tw5805905742469029177 : True := True.intro
theorem fin.tw18105942590061964161 : True := True.intro
theorem fin.tw216489041496292469 : True := True.intro
theorem fin.tw6634307039904815820 : True := True.intro
theorem fin.tw16103849850496634939 : True := True.intro
theorem fin.tw12355744275394475900 : True := True.intro
theorem fin.tw4209717502836232480 : True := True.intro
theorem fin.tw14578271805448956485 : True := True.intro
theorem fin.tw3125960719983571848 : True := True.intro
theorem fin.tw18230178534529381785 : True := True.intro
theorem fin.tw4570111826955561243 : True := True.intro
theorem fin.tw2910385600587045654 : True := True.intro
theorem fin.tw17963964198891936676 : True := True.intro
theorem fin.tw12962497063298326498 : True := True.intro
theorem fin.tw12105171945263650130 : True := True.intro
theorem fin.tw17362494058136835672 : True := True.intro
theorem fin.tw452842511749404161 : True := True.intro
theorem fin.tw9746214513668125432 : True := True.intro
theorem fin.tw1535588207084551279 : True := True.intro
theorem fin.tw10599938827571368224 : True := True.intro
theorem fin.tw16530489862217454893 : True := True.intro
theorem fin.tw9363291351745731410 : True := True.intro
theorem fin.tw876206183137641144 : True := True.intro
theorem fin.tw6667815254911646788 : True := True.intro
theorem fin.tw1397303283331804279 : True := True.intro
theorem fin.tw12135189313929291683 : True := True.intro
theorem fin.tw13925877587632400325 : True := True.intro
theorem fin.tw10196768644732416780 : True := True.intro
theorem fin.tw16109372258727991565 : True := True.intro
theorem fin.tw8559517257967667466 : True := True.intro
theorem fin.tw5102460946473063141 : True := True.intro
theorem fin.tw14814673180317915700 : True := True.intro
theorem fin.tw4598667867955821814 : True := True.intro
theorem fin.tw12977279227502587607 : True := True.intro
theorem fin.tw2304379251839397102 : True := True.intro
theorem fin.tw18373065035072037172 : True := True.intro
theorem fin.tw17896612028031085017 : True := True.intro
theorem fin.tw16229209127682248589 : True := True.intro
theorem fin.tw4719063310657182621 : True := True.intro
theorem fin.tw16252508478716706905 : True := True.intro
theorem fin.tw6455845175183424153 : True := True.intro
theorem fin.tw6515953530934532768 : True := True.intro
theorem fin.tw11587955951900863698 : True := True.intro
theorem fin.tw16237762584071213788 : True := True.intro
theorem fin.tw11151619158091525091 : True := True.intro
theorem fin.tw15309079848183770524 : True := True.intro
theorem fin.tw3004984022683251337 : True := True.intro
theorem fin.tw11273041486466551846 : True := True.intro
theorem fin.tw5073790198343104882 : True := True.intro
theorem fin.tw17123178472405020103 : True := True.intro
theorem fin.tw7803649310394182010 : True := True.intro
theorem fin.tw2608567993692976607 : True := True.intro
theorem fin.tw17784850919643140607 : True := True.intro
theorem fin.tw10391319463526535247 : True := True.intro
theorem fin.tw2976117146107443816 : True := True.intro
theorem fin.tw6766580051018981234 : True := True.intro
theorem fin.tw9544026089342320630 : True := True.intro
theorem fin.tw111200028466390044 : True := True.intro
theorem fin.tw8330952907988395303 : True := True.intro
theorem fin.tw1422313219903470601 : True := True.intro
theorem fin.tw5320702786494000081 : True := True.intro
theorem fin.tw17869975865946814897 : True := True.intro
theorem fin.tw13066358836101814915 : True := True.intro
theorem fin.tw7451905468542833597 : True := True.intro
theorem fin.tw11293339424137598113 : True := True.intro
theorem fin.tw14568449535678555946 : True := True.intro
theorem fin.tw7779959011674639804 : True := True.intro
theorem fin.tw10829458402184033698 : True := True.intro
theorem fin.tw7845872953664198349 : True := True.intro
theorem fin.tw17974384156558142227 : True := True.intro
theorem fin.tw6531376189190222733 : True := True.intro
theorem fin.tw6718411051458867188 : True := True.intro
theorem fin.tw9806666330580929782 : True := True.intro
theorem fin.tw17041991840579044601 : True := True.intro
theorem fin.tw11953781441336167498 : True := True.intro
theorem fin.tw2086631506510373192 : True := True.intro
theorem fin.tw13423622936843584764 : True := True.intro
theorem fin.tw1012361349325877821 : True := True.intro
theorem fin.tw1544503264643628384 : True := True.intro
theorem fin.tw4898026214463823928 : True := True.intro
theorem fin.tw17698704350827878285 : True := True.intro
theorem fin.tw16256441300576474876 : True := True.intro
theorem fin.tw7684487725183542926 : True := True.intro
theorem fin.tw14166196953294261902 : True := True.intro
theorem fin.tw12669758225909598566 : True := True.intro
theorem fin.tw5011121235533021005 : True := True.intro
theorem fin.tw2236755162388048479 : True := True.intro
theorem fin.tw11039862389202566683 : True := True.intro
theorem fin.tw18387650150990424433 : True := True.intro
theorem fin.tw17260493314774615805 : True := True.intro
theorem fin.tw7249652514872940865 : True := True.intro
theorem fin.tw9725021084223525626 : True := True.intro
theorem fin.tw2537931557510868981 : True := True.intro
theorem fin.tw7890596953891613788 : True := True.intro
theorem fin.tw4162185377826839926 : True := True.intro
theorem fin.tw17719728818120068181 : True := True.intro
theorem fin.tw1635022588487117616 : True := True.intro
theorem fin.tw17130245016438642246 : True := True.intro
theorem fin.tw16307707646766795581 : True := True.intro
theorem fin.tw15399907426655090358 : True := True.intro
theorem fin.tw7470013935711676318 : True := True.intro
theorem fin.tw10511823565363050587 : True := True.intro
theorem fin.tw8668149382578428375 : True := True.intro
theorem fin.tw15741700470354863883 : True := True.intro
theorem fin.tw8289400949097046189 : True := True.intro
theorem fin.tw5796354222422608987 : True := True.intro
theorem fin.tw6566618420281934 : True := True.intro
theorem fin.tw3222278782482380304 : True := True.intro
theorem fin.tw11575174756993882273 : True := True.intro
theorem fin.tw5402249366112354979 : True := True.intro
theorem fin.tw17164383140453370395 : True := True.intro
theorem fin.tw3268265519342814607 : True := True.intro
theorem fin.tw17347454772498655404 : True := True.intro
theorem fin.tw14679806638718605512 : True := True.intro
theorem fin.tw16205109500356779066 : True := True.intro
theorem fin.tw6232080684201472732 : True := True.intro
theorem fin.tw7321584467024264148 : True := True.intro
theorem fin.tw3955986520655104412 : True := True.intro
theorem fin.tw3812028171767442716 : True := True.intro
theorem fin.tw6323506392446703087 : True := True.intro
theorem fin.tw10070804522480449196 : True := True.intro
theorem fin.tw16570786720924097770 : True := True.intro
theorem fin.tw12291753297600562012 : True := True.intro
theorem fin.tw10671828304227620169 : True := True.intro
theorem fin.tw1560641971993327685 : True := True.intro
theorem fin.tw11897717083992391400 : True := True.intro
theorem fin.tw3998398428148030388 : True := True.intro
theorem fin.tw3456623496861543869 : True := True.intro
theorem fin.tw3762306804915933987 : True := True.intro
theorem fin.tw18082680734076937219 : True := True.intro
theorem fin.tw11040825799340251285 : True := True.intro
theorem fin.tw13815853411582834384 : True := True.intro
theorem fin.tw6435670951450185984 : True := True.intro
theorem fin.tw4265850918314828415 : True := True.intro
theorem fin.tw5071919506433949198 : True := True.intro
theorem fin.tw9260378047223084069 : True := True.intro
theorem fin.tw6449190631224713292 : True := True.intro
theorem fin.tw3112429581023547943 : True := True.intro
theorem fin.tw2617349483901765261 : True := True.intro
theorem fin.tw5647864574477489665 : True := True.intro
theorem fin.tw333583748066197110 : True := True.intro
theorem fin.tw18255404467826089762 : True := True.intro
theorem fin.tw10751089155417173751 : True := True.intro
theorem fin.tw17430205856086898164 : True := True.intro
theorem fin.tw8569027658895312972 : True := True.intro
theorem fin.tw13021059552284102479 : True := True.intro
theorem fin.tw888132650186811988 : True := True.intro
theorem fin.tw828056024939588000 : True := True.intro
theorem fin.tw3598329298470268980 : True := True.intro
theorem fin.tw14728723275428758510 : True := True.intro
theorem fin.tw11061592194353771069 : True := True.intro
theorem fin.tw3028926083550364057 : True := True.intro
theorem fin.tw5115476493328737885 : True := True.intro
theorem fin.tw803859442106103436 : True := True.intro
theorem fin.tw1080700006314346644 : True := True.intro
theorem fin.tw7661832156752021035 : True := True.intro
theorem fin.tw14075178694198228753 : True := True.intro
theorem fin.tw14838103818555229697 : True := True.intro
theorem fin.tw10907391636593693970 : True := True.intro
theorem fin.tw4684940682943077961 : True := True.intro
theorem fin.tw1951045429614898598 : True := True.intro
theorem fin.tw12221555665107904926 : True := True.intro
theorem fin.tw12557769604369416430 : True := True.intro
theorem fin.tw12149302876761508202 : True := True.intro
theorem fin.tw12946824338688289833 : True := True.intro
theorem fin.tw13093503161671486093 : True := True.intro
theorem fin.tw783483362715066742 : True := True.intro
theorem fin.tw6058378993454661626 : True := True.intro
theorem fin.tw4443050520305737185 : True := True.intro
theorem fin.tw2775396313129547428 : True := True.intro
theorem fin.tw4312942655851389009 : True := True.intro
theorem fin.tw9997704412844104603 : True := True.intro
theorem fin.tw7830629276484211593 : True := True.intro
theorem fin.tw982560976839675504 : True := True.intro
theorem fin.tw5962627729488381771 : True := True.intro
theorem fin.tw7930893340574950883 : True := True.intro
theorem fin.tw7929640520542984453 : True := True.intro
theorem fin.tw884059145510264010 : True := True.intro
theorem fin.tw7547296005191728479 : True := True.intro
theorem fin.tw10699407837109476802 : True := True.intro
theorem fin.tw9247658263007524724 : True := True.intro
theorem fin.tw3506512066687448480 : True := True.intro
theorem fin.tw9610726530385051774 : True := True.intro
theorem fin.tw6388184931127306564 : True := True.intro
theorem fin.tw8281523328739849912 : True := True.intro
theorem fin.tw16269368082590959529 : True := True.intro
theorem fin.tw14793013804824869981 : True := True.intro
theorem fin.tw15459455144867644326 : True := True.intro
theorem fin.tw13814004702073501669 : True := True.intro
theorem fin.tw3029852977388229646 : True := True.intro
theorem fin.tw12347537446847802165 : True := True.intro
theorem fin.tw13158425560686309300 : True := True.intro
theorem fin.tw2316539691658765527 : True := True.intro
theorem fin.tw13700621096757390547 : True := True.intro
theorem fin.tw2671655128345628175 : True := True.intro
theorem fin.tw14279960228734115912 : True := True.intro
theorem fin.tw9221430085559818832 : True := True.intro
theorem fin.tw4613182775407389354 : True := True.intro
theorem fin.tw1088692219920020602 : True := True.intro
theorem fin.tw15942684835789789487 : True := True.intro
theorem fin.tw2051409578822353534 : True := True.intro
theorem fin.tw15144710454662140524 : True := True.intro
theorem fin.tw4424551920762525699 : True := True.intro
theorem fin.tw500868675978126160 : True := True.intro
theorem fin.tw7439575562449295702 : True := True.intro
theorem fin.tw9445451236469955387 : True := True.intro
theorem fin.tw12847644182280273618 : True := True.intro
theorem fin.tw7844069586390513008 : True := True.intro
theorem fin.tw6474043946942992101 : True := True.intro
theorem fin.tw17132207802985990308 : True := True.intro
theorem fin.tw10818889477481085253 : True := True.intro
theorem fin.tw11277574374343807151 : True := True.intro
theorem fin.tw3857263333814641470 : True := True.intro
theorem fin.tw2067723777617599883 : True := True.intro
theorem fin.tw5266742908149448401 : True := True.intro
theorem fin.tw6577878126316647860 : True := True.intro
theorem fin.tw9917203430921899224 : True := True.intro
theorem fin.tw6846200578177281708 : True := True.intro
theorem fin.tw12932903420030652473 : True := True.intro
theorem fin.tw5227809002895711924 : True := True.intro
theorem fin.tw17186005699333237546 : True := True.intro
theorem fin.tw10234915967203826555 : True := True.intro
theorem fin.tw10939691994893167182 : True := True.intro
theorem fin.tw6878024787957991413 : True := True.intro
theorem fin.tw10007411396671696613 : True := True.intro
theorem fin.tw11607805686811502034 : True := True.intro
theorem fin.tw12356021495744459628 : True := True.intro
theorem fin.tw14786503066443513839 : True := True.intro
theorem fin.tw5196160543931855155 : True := True.intro
theorem fin.tw10782327089294195420 : True := True.intro
theorem fin.tw1450881378762983150 : True := True.intro
theorem fin.tw18164189302063226315 : True := True.intro
theorem fin.tw11936995450923721628 : True := True.intro
theorem fin.tw4928979718650693569 : True := True.intro
theorem fin.tw2789213428527533208 : True := True.intro
theorem fin.tw9839346839192117915 : True := True.intro
theorem fin.tw6341822008880759003 : True := True.intro
theorem fin.tw10696652717036330658 : True := True.intro
theorem fin.tw12809788781938459499 : True := True.intro
theorem fin.tw15234240111613058569 : True := True.intro
theorem fin.tw6289197191216398940 : True := True.intro
theorem fin.tw14855157385224911753 : True := True.intro
theorem fin.tw17495881415371897999 : True := True.intro
theorem fin.tw11227884535216515135 : True := True.intro
theorem fin.tw380778119907437045 : True := True.intro
theorem fin.tw4329306826757983850 : True := True.intro
theorem fin.tw15523922138108190246 : True := True.intro
theorem fin.tw7468727024169554154 : True := True.intro
theorem fin.tw8614737586434602478 : True := True.intro
theorem fin.tw4100293265295638779 : True := True.intro
theorem fin.tw15094949803261831281 : True := True.intro
theorem fin.tw17701328389417463424 : True := True.intro
theorem fin.tw3767311804947220896 : True := True.intro
theorem fin.tw17108682257543074861 : True := True.intro
theorem fin.tw7830602891274557492 : True := True.intro
theorem fin.tw11466478281803324712 : True := True.intro
theorem fin.tw8999559765510592377 : True := True.intro
theorem fin.tw14134379338385194387 : True := True.intro
theorem fin.tw16488607150827929282 : True := True.intro
theorem fin.tw7822013112032934038 : True := True.intro
theorem fin.tw7278507554335971580 : True := True.intro
theorem fin.tw9757074474933493440 : True := True.intro
theorem fin.tw13295704053362595847 : True := True.intro
theorem fin.tw4180101509539245183 : True := True.intro
theorem fin.tw9962418760945406050 : True := True.intro
theorem fin.tw9357874355931990178 : True := True.intro
theorem fin.tw5634151482396758240 : True := True.intro
theorem fin.tw8472697214298850164 : True := True.intro
theorem fin.tw17570509445847580414 : True := True.intro
theorem fin.tw3794220679723124481 : True := True.intro
theorem fin.tw6385529401280152062 : True := True.intro
theorem fin.tw9524518906428321964 : True := True.intro
theorem fin.tw5250828734511838712 : True := True.intro
theorem fin.tw11414119711712004833 : True := True.intro
theorem fin.tw9218923581257491847 : True := True.intro
theorem fin.tw7773504467932542270 : True := True.intro
theorem fin.tw2565351972500760935 : True := True.intro
theorem fin.tw8896352889252549814 : True := True.intro
theorem fin.tw3211687289105081006 : True := True.intro
theorem fin.tw9712136527352899355 : True := True.intro
theorem fin.tw10279692637995926009 : True := True.intro
theorem fin.tw2377308710366028375 : True := True.intro
theorem fin.tw8776770756819070316 : True := True.intro
theorem fin.tw15225332579556243176 : True := True.intro
theorem fin.tw4723787954990577340 : True := True.intro
theorem fin.tw17570709534508481193 : True := True.intro
theorem fin.tw16867096813858660809 : True := True.intro
theorem fin.tw9825859731914700964 : True := True.intro
theorem fin.tw6485783843944922600 : True := True.intro
theorem fin.tw5679570950571409650 : True := True.intro
theorem fin.tw16448676403291746579 : True := True.intro
theorem fin.tw1105837973531982728 : True := True.intro
theorem fin.tw12780881840741157306 : True := True.intro
theorem fin.tw12868640280835112553 : True := True.intro
theorem fin.tw3302319216010004292 : True := True.intro
theorem fin.tw1713156846745171867 : True := True.intro
theorem fin.tw17933470926392208243 : True := True.intro
theorem fin.tw2103456241558337223 : True := True.intro
theorem fin.tw8088732932480780420 : True := True.intro
theorem fin.tw16503470079419688546 : True := True.intro
theorem fin.tw9059937348426287209 : True := True.intro
theorem fin.tw14239432107786713131 : True := True.intro
theorem fin.tw7177338460636591580 : True := True.intro
theorem fin.tw7786677914034681988 : True := True.intro
theorem fin.tw2896703901015224195 : True := True.intro
theorem fin.tw220677088936066577 : True := True.intro
theorem fin.tw4395496475954998127 : True := True.intro
theorem fin.tw17416127249078093707 : True := True.intro
theorem fin.tw3885313090954376144 : True := True.intro
theorem fin.tw1128348596072947701 : True := True.intro
theorem fin.tw10393886385942881009 : True := True.intro
theorem fin.tw12292906935544458286 : True := True.intro
theorem fin.tw13326868189938593150 : True := True.intro
theorem fin.tw16584127079891442865 : True := True.intro
theorem fin.tw17311274769643918242 : True := True.intro
theorem fin.tw12996517811204074000 : True := True.intro
theorem fin.tw7334248845499685764 : True := True.intro
theorem fin.tw2503846163805864124 : True := True.intro
theorem fin.tw6400248389586479577 : True := True.intro
theorem fin.tw848606289541702500 : True := True.intro
theorem fin.tw5106123347721008290 : True := True.intro
theorem fin.tw16798467561266328274 : True := True.intro
theorem fin.tw12612204703400128841 : True := True.intro
theorem fin.tw4144819383078699286 : True := True.intro
theorem fin.tw11147117730913898307 : True := True.intro
theorem fin.tw4806268862455609328 : True := True.intro
theorem fin.tw4879674094562380441 : True := True.intro
theorem fin.tw8261031787919469916 : True := True.intro
theorem fin.tw9297318355482256503 : True := True.intro
theorem fin.tw14637358334870819178 : True := True.intro
theorem fin.tw7028063314416541132 : True := True.intro
theorem fin.tw1209720653154232198 : True := True.intro
theorem fin.tw9509447333196811905 : True := True.intro
theorem fin.tw13574545013463194659 : True := True.intro
theorem fin.tw17149882997012438147 : True := True.intro
theorem fin.tw5555312102172926907 : True := True.intro
theorem fin.tw11209750170652599755 : True := True.intro
theorem fin.tw11414674201277728305 : True := True.intro
theorem fin.tw1202912048536075021 : True := True.intro
theorem fin.tw3432132637015033673 : True := True.intro
theorem fin.tw15590172107835277464 : True := True.intro
theorem fin.tw6815667921103612162 : True := True.intro
theorem fin.tw3906754673857718949 : True := True.intro
theorem fin.tw2090205506522743130 : True := True.intro
theorem fin.tw14254621764821748828 : True := True.intro
theorem fin.tw17425937995043322649 : True := True.intro
theorem fin.tw373065315874586923 : True := True.intro
theorem fin.tw1545086475593560577 : True := True.intro
theorem fin.tw13162651487661262736 : True := True.intro
theorem fin.tw14111491100615862519 : True := True.intro
theorem fin.tw10708223146118651492 : True := True.intro
theorem fin.tw16708981103961760564 : True := True.intro
theorem fin.tw4043148821406017626 : True := True.intro
theorem fin.tw1390109508276135513 : True := True.intro
theorem fin.tw12171577908484138354 : True := True.intro
theorem fin.tw6214469639950668122 : True := True.intro
theorem fin.tw3863403702602939814 : True := True.intro
theorem fin.tw7130589087949165531 : True := True.intro
theorem fin.tw2885147992704089249 : True := True.intro
theorem fin.tw15815952407149668801 : True := True.intro
theorem fin.tw6525817661751114472 : True := True.intro
theorem fin.tw6380807493870290408 : True := True.intro
theorem fin.tw7021976415091001641 : True := True.intro
theorem fin.tw3550807849831375056 : True := True.intro
theorem fin.tw15069271281064182630 : True := True.intro
theorem fin.tw15216479089859931547 : True := True.intro
theorem fin.tw423345284130997744 : True := True.intro
theorem fin.tw4992356995671143779 : True := True.intro
theorem fin.tw9659392335347125073 : True := True.intro
theorem fin.tw16903924287465469464 : True := True.intro
theorem fin.tw2415902012162501839 : True := True.intro
theorem fin.tw14449560505687523246 : True := True.intro
theorem fin.tw5792265106169080782 : True := True.intro
theorem fin.tw9597861255099599992 : True := True.intro
theorem fin.tw2711489104339610207 : True := True.intro
theorem fin.tw12586190556516072552 : True := True.intro
theorem fin.tw11906472874536768445 : True := True.intro
theorem fin.tw1903126291601959907 : True := True.intro
theorem fin.tw14018533915963200917 : True := True.intro
theorem fin.tw16771295499568265973 : True := True.intro
theorem fin.tw4499257904209204147 : True := True.intro
theorem fin.tw15344004072050561172 : True := True.intro
theorem fin.tw7193555501269276637 : True := True.intro
theorem fin.tw18404063521330658252 : True := True.intro
theorem fin.tw7692301277026442203 : True := True.intro
theorem fin.tw17220895691602665673 : True := True.intro
theorem fin.tw10194128795564708546 : True := True.intro
theorem fin.tw10998343915150870288 : True := True.intro
theorem fin.tw2320886540369039338 : True := True.intro
theorem fin.tw8004206274103572539 : True := True.intro
theorem fin.tw3373110491918621954 : True := True.intro
theorem fin.tw13119895379190043232 : True := True.intro
theorem fin.tw16510490156224867327 : True := True.intro
theorem fin.tw12239064139714945176 : True := True.intro
theorem fin.tw3293696948919318046 : True := True.intro
theorem fin.tw7348594602126897846 : True := True.intro
theorem fin.tw862447977868951606 : True := True.intro
theorem fin.tw3008263204520378139 : True := True.intro
theorem fin.tw13272504610945704091 : True := True.intro
theorem fin.tw824797018042769846 : True := True.intro
theorem fin.tw10580198807604790814 : True := True.intro
theorem fin.tw12072802829135307789 : True := True.intro
theorem fin.tw11024638832163780183 : True := True.intro
theorem fin.tw15083174532876359662 : True := True.intro
theorem fin.tw14658254696389335927 : True := True.intro
theorem fin.tw7336344344812659824 : True := True.intro
theorem fin.tw13412572060209156058 : True := True.intro
theorem fin.tw13523910257889291827 : True := True.intro
theorem fin.tw520194297998822909 : True := True.intro
theorem fin.tw15913912297419572864 : True := True.intro
theorem fin.tw13278809456085556237 : True := True.intro
theorem fin.tw17628183408451194143 : True := True.intro
theorem fin.tw11325060847842403200 : True := True.intro
theorem fin.tw2277568627679802767 : True := True.intro
theorem fin.tw5230622158679508976 : True := True.intro
theorem fin.tw17267618260052754613 : True := True.intro
theorem fin.tw9038226972742754082 : True := True.intro
theorem fin.tw4704930585520482657 : True := True.intro
theorem fin.tw5593514722818144331 : True := True.intro
theorem fin.tw10411508006071892022 : True := True.intro
theorem fin.tw1921165311934587177 : True := True.intro
theorem fin.tw5514125408013525434 : True := True.intro
theorem fin.tw6707113841082798463 : True := True.intro
theorem fin.tw9578429878718019509 : True := True.intro
theorem fin.tw14899709244077398024 : True := True.intro
theorem fin.tw4302917861877037783 : True := True.intro
theorem fin.tw9747544060827109212 : True := True.intro
theorem fin.tw16192418988078311159 : True := True.intro
theorem fin.tw13469397999491448738 : True := True.intro
theorem fin.tw8166985623705000286 : True := True.intro
theorem fin.tw1580780407708033493 : True := True.intro
theorem fin.tw2021336271155450331 : True := True.intro
theorem fin.tw5978438607452443526 : True := True.intro
theorem fin.tw9746901515087519452 : True := True.intro
theorem fin.tw6848912972918003917 : True := True.intro
theorem fin.tw15530151957754944063 : True := True.intro
theorem fin.tw18004827428879835118 : True := True.intro
theorem fin.tw16429022384663243119 : True := True.intro
theorem fin.tw6951216239237536575 : True := True.intro
theorem fin.tw13177410634674063896 : True := True.intro
theorem fin.tw4124276233288881987 : True := True.intro
theorem fin.tw9437242357050131058 : True := True.intro
theorem fin.tw8185091604740117843 : True := True.intro
theorem fin.tw16145351769185666540 : True := True.intro
theorem fin.tw5246096745964282443 : True := True.intro
theorem fin.tw3236217559460173300 : True := True.intro
theorem fin.tw14468091648759818802 : True := True.intro
theorem fin.tw16912196016219973028 : True := True.intro
theorem fin.tw16497079637816224013 : True := True.intro
theorem fin.tw2275749259730422485 : True := True.intro
theorem fin.tw480829909506669009 : True := True.intro
theorem fin.tw4306616734650971735 : True := True.intro
theorem fin.tw331587747771337591 : True := True.intro
theorem fin.tw3558005061807245919 : True := True.intro
theorem fin.tw10372454290965829033 : True := True.intro
theorem fin.tw6113989636485653130 : True := True.intro
theorem fin.tw17217429795192226366 : True := True.intro
theorem fin.tw1281744992317467088 : True := True.intro
theorem fin.tw2441168790927817222 : True := True.intro
theorem fin.tw8465276812761224699 : True := True.intro
theorem fin.tw17911201065640838737 : True := True.intro
theorem fin.tw16906536467411238026 : True := True.intro
theorem fin.tw16375469754199864689 : True := True.intro
theorem fin.tw10469515968555745039 : True := True.intro
theorem fin.tw2620492485814837118 : True := True.intro
theorem fin.tw16908780153626456763 : True := True.intro
theorem fin.tw5285785234609935064 : True := True.intro
theorem fin.tw12741526300851653767 : True := True.intro
theorem fin.tw945457799607111265 : True := True.intro
theorem fin.tw17502855826952124057 : True := True.intro
theorem fin.tw8622160174418277736 : True := True.intro
theorem fin.tw9508293364712189505 : True := True.intro
theorem fin.tw3314143786362844604 : True := True.intro
theorem fin.tw9883050511414546368 : True := True.intro
theorem fin.tw7267163888087337239 : True := True.intro
theorem fin.tw11869342324683393730 : True := True.intro
theorem fin.tw5585719645790517573 : True := True.intro
theorem fin.tw15240623583426463711 : True := True.intro
theorem fin.tw1992996095170833049 : True := True.intro
theorem fin.tw5663504974038819100 : True := True.intro
theorem fin.tw15219631101029703214 : True := True.intro
theorem fin.tw4026100201820347962 : True := True.intro
theorem fin.tw2145012663239829070 : True := True.intro
theorem fin.tw8408514402456403777 : True := True.intro
theorem fin.tw4145619633490157487 : True := True.intro
theorem fin.tw15279137341521000952 : True := True.intro
theorem fin.tw14667941539000003185 : True := True.intro
theorem fin.tw3939050589584296047 : True := True.intro
theorem fin.tw1547390860169783007 : True := True.intro
theorem fin.tw7008622114716911220 : True := True.intro
theorem fin.tw12851234836949525663 : True := True.intro
theorem fin.tw1346022578215293949 : True := True.intro
theorem fin.tw2516017022742817472 : True := True.intro
theorem fin.tw11693106759165616088 : True := True.intro
theorem fin.tw12409915417874342407 : True := True.intro
theorem fin.tw14943911441677524827 : True := True.intro
theorem fin.tw8660049834305141905 : True := True.intro
theorem fin.tw13718649260633737024 : True := True.intro
theorem fin.tw17809232949079649038 : True := True.intro
theorem fin.tw8053913732961167717 : True := True.intro
theorem fin.tw13582292425324344769 : True := True.intro
theorem fin.tw15243534294739168615 : True := True.intro
theorem fin.tw12740692763255036000 : True := True.intro
theorem fin.tw1195334901915552329 : True := True.intro
theorem fin.tw11462241541112437924 : True := True.intro
theorem fin.tw17406136962360114138 : True := True.intro
theorem fin.tw15019234207855213703 : True := True.intro
theorem fin.tw11432402860279490204 : True := True.intro
theorem fin.tw14297971457927632359 : True := True.intro
theorem fin.tw2603282792292808943 : True := True.intro
theorem fin.tw17465016565071970851 : True := True.intro
theorem fin.tw3738894495883498167 : True := True.intro
theorem fin.tw8511326990415419460 : True := True.intro
theorem fin.tw3105451386036433885 : True := True.intro
theorem fin.tw13175226182763708026 : True := True.intro
theorem fin.tw11471956102464614933 : True := True.intro
theorem fin.tw5372875611105449904 : True := True.intro
theorem fin.tw11989984593139433840 : True := True.intro
theorem fin.tw1766193274316824492 : True := True.intro
theorem fin.tw10313180648002132564 : True := True.intro
theorem fin.tw3752056022367304142 : True := True.intro
theorem fin.tw14336544582882092262 : True := True.intro
theorem fin.tw9711862698833617823 : True := True.intro
theorem fin.tw6620434350048004 : True := True.intro
theorem fin.tw13383306551100868464 : True := True.intro
theorem fin.tw12705944875615423002 : True := True.intro
theorem fin.tw8775384921122389154 : True := True.intro
theorem fin.tw5920281757701029450 : True := True.intro
theorem fin.tw12343934877155477432 : True := True.intro
theorem fin.tw12757126508119417436 : True := True.intro
theorem fin.tw9562769462328344092 : True := True.intro
theorem fin.tw2523478847598653984 : True := True.intro
theorem fin.tw9682595657389325823 : True := True.intro
theorem fin.tw9508526790633795441 : True := True.intro
theorem fin.tw295240868970151085 : True := True.intro
theorem fin.tw12448240930570709186 : True := True.intro
theorem fin.tw17611727573569791414 : True := True.intro
theorem fin.tw9339408515151402362 : True := True.intro
theorem fin.tw11819170096642289871 : True := True.intro
theorem fin.tw1324748791087667916 : True := True.intro
theorem fin.tw14165584387687976329 : True := True.intro
theorem fin.tw4891822661719351221 : True := True.intro
theorem fin.tw4833179351181384845 : True := True.intro
theorem fin.tw448459338275823397 : True := True.intro
theorem fin.tw5689665320540551426 : True := True.intro
theorem fin.tw14895270292469626870 : True := True.intro
theorem fin.tw10329872625359487480 : True := True.intro
theorem fin.tw8344675336782298973 : True := True.intro
theorem fin.tw15396384818603876561 : True := True.intro
theorem fin.tw416177051242630535 : True := True.intro
theorem fin.tw12738864244801774330 : True := True.intro
theorem fin.tw14021872759519490765 : True := True.intro
theorem fin.tw2046393882495617769 : True := True.intro
theorem fin.tw13894747593318719542 : True := True.intro
theorem fin.tw17485583185531914963 : True := True.intro
theorem fin.tw7022806388564383982 : True := True.intro
theorem fin.tw6220327705178566785 : True := True.intro
theorem fin.tw16540275574145912595 : True := True.intro
theorem fin.tw17314879045244329059 : True := True.intro
theorem fin.tw14178952322520976695 : True := True.intro
theorem fin.tw947276838399291496 : True := True.intro
theorem fin.tw3399429508193669907 : True := True.intro
theorem fin.tw8785817190682134681 : True := True.intro
theorem fin.tw11772964195913830049 : True := True.intro
theorem fin.tw14979938633740849765 : True := True.intro
theorem fin.tw5598441983335636414 : True := True.intro
theorem fin.tw273201369580953799 : True := True.intro
theorem fin.tw2556814553914141322 : True := True.intro
theorem fin.tw13337293482115323266 : True := True.intro
theorem fin.tw11346557470443003569 : True := True.intro
theorem fin.tw13501502787908985413 : True := True.intro
theorem fin.tw3246839028233683650 : True := True.intro
theorem fin.tw8924392036579600891 : True := True.intro
theorem fin.tw4910921440188858082 : True := True.intro
theorem fin.tw11750646167744613905 : True := True.intro
theorem fin.tw10850621001676330593 : True := True.intro
theorem fin.tw2995622967998787300 : True := True.intro
theorem fin.tw1213908355484861934 : True := True.intro
theorem fin.tw15153159077126877473 : True := True.intro
theorem fin.tw11154830654865731599 : True := True.intro
theorem fin.tw4652738160404261841 : True := True.intro
theorem fin.tw11395320378806372228 : True := True.intro
theorem fin.tw13566729865485783148 : True := True.intro
theorem fin.tw11224825812204259059 : True := True.intro
theorem fin.tw10553471711426338075 : True := True.intro
theorem fin.tw12403690455625630471 : True := True.intro
theorem fin.tw12979919090201106820 : True := True.intro
theorem fin.tw9487260019516590291 : True := True.intro
theorem fin.tw612862322836996645 : True := True.intro
theorem fin.tw6113892759573084369 : True := True.intro
theorem fin.tw3018758056844737939 : True := True.intro
theorem fin.tw7319501015663598286 : True := True.intro
theorem fin.tw8097654560655122648 : True := True.intro
theorem fin.tw14060254640080698258 : True := True.intro
theorem fin.tw15701818922362908474 : True := True.intro
theorem fin.tw14257018576560825284 : True := True.intro
theorem fin.tw4538191230965241994 : True := True.intro
theorem fin.tw7650283484787511029 : True := True.intro
theorem fin.tw15566928917628492161 : True := True.intro
theorem fin.tw584112131590315491 : True := True.intro
theorem fin.tw10043950574865488231 : True := True.intro
theorem fin.tw17461915456910197578 : True := True.intro
theorem fin.tw13183061134860383702 : True := True.intro
theorem fin.tw11177036383054605599 : True := True.intro
theorem fin.tw418608610138435605 : True := True.intro
theorem fin.tw891448327626169016 : True := True.intro
theorem fin.tw14969715616416898430 : True := True.intro
theorem fin.tw10684981021144957211 : True := True.intro
theorem fin.tw13781542876482819989 : True := True.intro
theorem fin.tw8416529770105884409 : True := True.intro
theorem fin.tw488218634404078324 : True := True.intro
theorem fin.tw2306873549167696089 : True := True.intro
theorem fin.tw12273546716903637868 : True := True.intro
theorem fin.tw17344510285554748771 : True := True.intro
theorem fin.tw17344254963278052338 : True := True.intro
theorem fin.tw8151358987872166243 : True := True.intro
theorem fin.tw15846704840505152836 : True := True.intro
theorem fin.tw12757720458447036936 : True := True.intro
theorem fin.tw7856420140689306517 : True := True.intro
theorem fin.tw1348009686575996458 : True := True.intro
theorem fin.tw15149952090015108872 : True := True.intro
theorem fin.tw17356987340757268870 : True := True.intro
theorem fin.tw3839206501371402102 : True := True.intro
theorem fin.tw16593498308125037870 : True := True.intro
theorem fin.tw1239743038759826550 : True := True.intro
theorem fin.tw18075230132384515194 : True := True.intro
theorem fin.tw15530281825414154361 : True := True.intro
theorem fin.tw5576714124690252594 : True := True.intro
theorem fin.tw10656291684629039791 : True := True.intro
theorem fin.tw11179249921394602866 : True := True.intro
theorem fin.tw7518579229450374285 : True := True.intro
theorem fin.tw4759752924163587094 : True := True.intro
theorem fin.tw14752907821818930876 : True := True.intro
theorem fin.tw2185935427153128515 : True := True.intro
theorem fin.tw745748316474750422 : True := True.intro
theorem fin.tw8013244705931419473 : True := True.intro
theorem fin.tw13635414795387738630 : True := True.intro
theorem fin.tw10170948947761517979 : True := True.intro
theorem fin.tw16125780511175521129 : True := True.intro
theorem fin.tw13593179597827634900 : True := True.intro
theorem fin.tw17696989986258524660 : True := True.intro
theorem fin.tw16554438482525722971 : True := True.intro
theorem fin.tw17821466097196317003 : True := True.intro
theorem fin.tw16625790000389398615 : True := True.intro
theorem fin.tw3129228512308937268 : True := True.intro
theorem fin.tw3680538572021651005 : True := True.intro
theorem fin.tw1206694682578267724 : True := True.intro
theorem fin.tw1469139661183043837 : True := True.intro
theorem fin.tw4303106303303389909 : True := True.intro
theorem fin.tw4217414874291451276 : True := True.intro
theorem fin.tw18099640592841667524 : True := True.intro
theorem fin.tw7445452272831510455 : True := True.intro
theorem fin.tw17830361364027725262 : True := True.intro
theorem fin.tw16496857829328116044 : True := True.intro
theorem fin.tw13217662176923290317 : True := True.intro
theorem fin.tw17535827442545306379 : True := True.intro
theorem fin.tw8058895272353334144 : True := True.intro
theorem fin.tw3541825141892303889 : True := True.intro
theorem fin.tw17881394067367492771 : True := True.intro
theorem fin.tw12487371901255815361 : True := True.intro
theorem fin.tw2218633174628956881 : True := True.intro
theorem fin.tw6061592489118403721 : True := True.intro
theorem fin.tw15273852366172491244 : True := True.intro
theorem fin.tw4716181948101807 : True := True.intro
theorem fin.tw8269367382603917829 : True := True.intro
theorem fin.tw8119881530291889089 : True := True.intro
theorem fin.tw5734618986648460908 : True := True.intro
theorem fin.tw14923690756463084815 : True := True.intro
theorem fin.tw17734622675663726420 : True := True.intro
theorem fin.tw15429735469372272745 : True := True.intro
theorem fin.tw2916201000237178202 : True := True.intro
theorem fin.tw14502568938100002273 : True := True.intro
theorem fin.tw2395962145821203769 : True := True.intro
theorem fin.tw9261068021594943031 : True := True.intro
theorem fin.tw15754549843648202880 : True := True.intro
theorem fin.tw14694784702263565633 : True := True.intro
theorem fin.tw7552710137455990303 : True := True.intro
theorem fin.tw819001938494946534 : True := True.intro
theorem fin.tw11532055537040815959 : True := True.intro
theorem fin.tw8211280201704406185 : True := True.intro
theorem fin.tw13199158710529813207 : True := True.intro
theorem fin.tw9000015914152043466 : True := True.intro
theorem fin.tw12595923617535045753 : True := True.intro
theorem fin.tw9925297497669004859 : True := True.intro
theorem fin.tw12442378932847282289 : True := True.intro
theorem fin.tw333554032324873953 : True := True.intro
theorem fin.tw8284088276144492400 : True := True.intro
theorem fin.tw9819467923467850830 : True := True.intro
theorem fin.tw13715509101747965226 : True := True.intro
theorem fin.tw3865143581525485936 : True := True.intro
theorem fin.tw11010746924391106928 : True := True.intro
theorem fin.tw10631971776571026366 : True := True.intro
theorem fin.tw15715027068662055690 : True := True.intro
theorem fin.tw11351276838400808062 : True := True.intro
theorem fin.tw4054584095202114086 : True := True.intro
theorem fin.tw3380676343658781899 : True := True.intro
theorem fin.tw4652505110207094938 : True := True.intro
theorem fin.tw16282903010242473213 : True := True.intro
theorem fin.tw12952338173627110967 : True := True.intro
theorem fin.tw10212952176985394431 : True := True.intro
theorem fin.tw5067848676765434645 : True := True.intro
theorem fin.tw6452079792526151285 : True := True.intro
theorem fin.tw12751662967071866640 : True := True.intro
theorem fin.tw1852177515930521313 : True := True.intro
theorem fin.tw9073980366463248952 : True := True.intro
theorem fin.tw1881686670891119088 : True := True.intro
theorem fin.tw5409113828100790563 : True := True.intro
theorem fin.tw7077062725725365638 : True := True.intro
theorem fin.tw6033984107891203105 : True := True.intro
theorem fin.tw17266133344714474547 : True := True.intro
theorem fin.tw2371015234213354712 : True := True.intro
theorem fin.tw2302991567755704267 : True := True.intro
theorem fin.tw15675102808854859970 : True := True.intro
theorem fin.tw3836977890487744118 : True := True.intro
set_option maxHeartbeats 80000000 in
set_option Elab.async true in
theorem fin : PySem.Challenge.rw_pb0456_01.Holds := by
  (w_on; o_law; k_head; (case hw => w_witness2))
  k_go0
  (rename Frag.In _ _ => kx9)
  (have kx8 := (show (mk.heap_1 _).In _ from kx9))
  (try clear kx9)
  all_goals try k_fold
  k_steps
end
end Mine

set_option maxHeartbeats 8000000 in
theorem PySem.Challenge.cw_pb0456_01_holds : PySem.Challenge.rw_pb0456_01.Holds :=
  Mine.fin
