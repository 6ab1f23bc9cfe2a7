import PyProof.Rows.All
import Wide.All
import OpenK.AllK
import Wide.FinOn
import Lean
import PySem.Challenge.RW_ok0004_01
open PySem PySem.W PyProof.Rows
set_option Elab.async false
set_option linter.all false
namespace Mine
def stm (n : Nat) : PySem.Stmt := (PySem.Challenge.pw_ok0004_01.main.body.drop n).headD (.Pass ⟨0, 0, 0, 0⟩)
def st0 : PySem.Stmt := stm 0
def st1 : PySem.Stmt := stm 1
def st2 : PySem.Stmt := stm 2
def st3 : PySem.Stmt := stm 3
def st4 : PySem.Stmt := stm 4
def st5 : PySem.Stmt := stm 5
def st6 : PySem.Stmt := stm 6
def st7 : PySem.Stmt := stm 7
def st8 : PySem.Stmt := stm 8
def st9 : PySem.Stmt := stm 9
def st10 : PySem.Stmt := stm 10
def st11 : PySem.Stmt := stm 11
def st12 : PySem.Stmt := stm 12
def st13 : PySem.Stmt := stm 13
def st14 : PySem.Stmt := stm 14
def st15 : PySem.Stmt := stm 15
def st16 : PySem.Stmt := stm 16
def st17 : PySem.Stmt := stm 17
def st18 : PySem.Stmt := stm 18
def st19 : PySem.Stmt := stm 19
def st20 : PySem.Stmt := stm 20
def st21 : PySem.Stmt := stm 21
def st22 : PySem.Stmt := stm 22
def st23 : PySem.Stmt := stm 23
def pw : PySem.Program := { PySem.Challenge.pw_ok0004_01 with main := { PySem.Challenge.pw_ok0004_01.main with body := [st0, st1, st2, st3, st4, st5, st6, st7, st8, st9, st10, st11, st12, st13, st14, st15, st16, st17, st18, st19, st20, st21, st22, st23] } }
theorem pw_eq : PySem.Challenge.pw_ok0004_01 = pw := rfl
def rwq : PySem.W.OpenLaw := { prog := Mine.pw, name := PySem.Str.ofString "law", about := [PySem.Str.ofString "tried_clauses"], foot := 8, most := some 63, bound := none, writes := false }
theorem rwq_eq : PySem.Challenge.rw_ok0004_01 = rwq := rfl
set_option maxRecDepth 100000 in
set_option maxHeartbeats 8000000 in
open_top hd for Mine.rwq
theorem topOff : True := by
  w_top off
  trivial
def Ctr (w : World) (mean : ExcName → Option Value) (mg mb : Str → Option Value) (f : Addr) (d u : Nat) (news : List (Addr × Obj)) (vs : List Value) (Post : List (Addr × Obj) → Value → Prop) : Prop :=
  ∀ (dp un : Nat) (gd : Option (List Code)) (cn : Str) (cs : Scope) (a : Addr) (ccd : Value) (cl : List (Str × Addr)) (outer : List Env) (A₀ : Around) (base h₀ : Heap) (L : Addr) (m : Str → Option Value) (s : Shared)
    (Q E : Value → Shared → Prop),
    Below A₀ base outer h₀ → Fr h₀ L s.heap m → (Mine.hd.heap_39 w.params).In h₀ → News h₀ L s.heap news → Top Mine.hd.view_39 (looseW Mine.hd.view_39 [Str.ofString "LinkFault"]) mean mg mb h₀ → cs.kind = .function → dp + d < recursionLimit → un + u < cLine →
    (∀ r news' h' tk', Fr h₀ L h' m → News h₀ L h' news' → Post news' r → Q r { s with heap := h', toks := tk' }) →
    wpAny (model Mine.pw w) (ktrTop dp un gd cn cs L a ccd cl outer) (call (.ref f) vs) Q E s
theorem fillK : (Mine.hd.heap_39 = Mine.hd.heap_39 ∧ Mine.rwq = Mine.rwq) := by
  k_fill
  exact ⟨rfl, rfl⟩
theorem roomStep {dp a d R : Nat} (h : dp + (d + 1) < R) (e : a ≤ d) : dp + 1 + a < R := by omega
theorem unitStep {un a d R : Nat} (h : un + (d + 3) < R) (e : a ≤ d) : un + 3 + a < R := by omega
abbrev ChainTo (a D x : Nat) (r : Prop) : Prop := (x < D ∧ r) → a < D
theorem inc0 {i : Int} (h : 0 ≤ i) : 0 ≤ i + 1 := Int.add_nonneg h (by decide)
/-- where a part of the tree stands -/
inductive Wh where | any | var | con | lst | str
set_option genSizeOf false in
set_option genInjectivity false in
/-- the trees that _law_tree draws -/
inductive T where
  | cl (n : Int)
  | fail
  | ch2 (a b : T)
  | ch3 (a b c : T)
  | sw (a b c d : T)
  | tb0 (s : Bool) (d : T)
  | tb1 (s : Bool) (a d : T)
  | tb2 (s : Bool) (a b d : T)
abbrev tupO (vs : List Value) : Obj := { cls := .type "tuple", data := .seq vs.toArray }
@[reducible] def Wh.name : Wh → String
  | .any => "any" | .var => "var" | .con => "const" | .lst => "list" | .str => "struct"
@[reducible] def tname : Bool → String
  | false => "const" | true => "struct"
abbrev Led := List (Addr × Obj)
inductive TIn (R : Led) : Value → T → Prop where
  | cl {a n t1 t2} : (a, tupO [.str (Str.ofString "clause") t1, .int n t2]) ∈ R → TIn R (.ref a) (.cl n)
  | fail {a t1} : (a, tupO [.str (Str.ofString "fail") t1]) ∈ R → TIn R (.ref a) .fail
  | ch2 {a l t1 k v1 v2 x1 x2} : (a, tupO [.str (Str.ofString "chain") t1, .ref l]) ∈ R → (l, listOf #[v1, v2] k) ∈ R → TIn R v1 x1 → TIn R v2 x2 → TIn R (.ref a) (.ch2 x1 x2)
  | ch3 {a l t1 k v1 v2 v3 x1 x2 x3} : (a, tupO [.str (Str.ofString "chain") t1, .ref l]) ∈ R → (l, listOf #[v1, v2, v3] k) ∈ R → TIn R v1 x1 → TIn R v2 x2 → TIn R v3 x3 → TIn R (.ref a) (.ch3 x1 x2 x3)
  | sw {a l t1 k v1 v2 v3 v4 x1 x2 x3 x4} : (a, tupO [.str (Str.ofString "switch") t1, .ref l]) ∈ R → (l, listOf #[v1, v2, v3, v4] k) ∈ R → TIn R v1 x1 → TIn R v2 x2 → TIn R v3 x3 → TIn R v4 x4 → TIn R (.ref a) (.sw x1 x2 x3 x4)
  | tb0 {s a l t1 t2 k vd xd} : (a, tupO [.str (Str.ofString "table") t1, .str (Str.ofString (tname s)) t2, .ref l, vd]) ∈ R → (l, listOf #[] k) ∈ R → TIn R vd xd → TIn R (.ref a) (.tb0 s xd)
  | tb1 {s a l t1 t2 k vd xd p1 u1 v1 x1} : (a, tupO [.str (Str.ofString "table") t1, .str (Str.ofString (tname s)) t2, .ref l, vd]) ∈ R → (l, listOf #[.ref p1] k) ∈ R → (p1, tupO [.int 3 u1, v1]) ∈ R → TIn R v1 x1 → TIn R vd xd → TIn R (.ref a) (.tb1 s x1 xd)
  | tb2 {s a l t1 t2 k vd xd p1 u1 v1 x1 p2 u2 v2 x2} : (a, tupO [.str (Str.ofString "table") t1, .str (Str.ofString (tname s)) t2, .ref l, vd]) ∈ R → (l, listOf #[.ref p1, .ref p2] k) ∈ R → (p1, tupO [.int 3 u1, v1]) ∈ R → TIn R v1 x1 → (p2, tupO [.int 5 u2, v2]) ∈ R → TIn R v2 x2 → TIn R vd xd → TIn R (.ref a) (.tb2 s x1 x2 xd)
def TIn.Arm (R : Led) (P : Value → Prop) : T → Prop
  | .cl n => ∀ a t1 t2, (a, tupO [.str (Str.ofString "clause") t1, .int n t2]) ∈ R → P (.ref a)
  | .fail => ∀ a t1, (a, tupO [.str (Str.ofString "fail") t1]) ∈ R → P (.ref a)
  | .ch2 x1 x2 => ∀ a l t1 k v1 v2, (a, tupO [.str (Str.ofString "chain") t1, .ref l]) ∈ R → (l, listOf #[v1, v2] k) ∈ R → TIn R v1 x1 → TIn R v2 x2 → P (.ref a)
  | .ch3 x1 x2 x3 => ∀ a l t1 k v1 v2 v3, (a, tupO [.str (Str.ofString "chain") t1, .ref l]) ∈ R → (l, listOf #[v1, v2, v3] k) ∈ R → TIn R v1 x1 → TIn R v2 x2 → TIn R v3 x3 → P (.ref a)
  | .sw x1 x2 x3 x4 => ∀ a l t1 k v1 v2 v3 v4, (a, tupO [.str (Str.ofString "switch") t1, .ref l]) ∈ R → (l, listOf #[v1, v2, v3, v4] k) ∈ R → TIn R v1 x1 → TIn R v2 x2 → TIn R v3 x3 → TIn R v4 x4 → P (.ref a)
  | .tb0 s xd => ∀ a l t1 t2 k vd, (a, tupO [.str (Str.ofString "table") t1, .str (Str.ofString (tname s)) t2, .ref l, vd]) ∈ R → (l, listOf #[] k) ∈ R → TIn R vd xd → P (.ref a)
  | .tb1 s x1 xd => ∀ a l t1 t2 k vd p1 u1 v1, (a, tupO [.str (Str.ofString "table") t1, .str (Str.ofString (tname s)) t2, .ref l, vd]) ∈ R → (l, listOf #[.ref p1] k) ∈ R → (p1, tupO [.int 3 u1, v1]) ∈ R → TIn R v1 x1 → TIn R vd xd → P (.ref a)
  | .tb2 s x1 x2 xd => ∀ a l t1 t2 k vd p1 u1 v1 p2 u2 v2, (a, tupO [.str (Str.ofString "table") t1, .str (Str.ofString (tname s)) t2, .ref l, vd]) ∈ R → (l, listOf #[.ref p1, .ref p2] k) ∈ R → (p1, tupO [.int 3 u1, v1]) ∈ R → TIn R v1 x1 → (p2, tupO [.int 5 u2, v2]) ∈ R → TIn R v2 x2 → TIn R vd xd → P (.ref a)
theorem TIn.elim {R : Led} {P : Value → Prop} {v : Value} {x : T} (hx : TIn R v x) (K : TIn.Arm R P x) : P v := by
  cases hx with
  | cl h => exact K _ _ _ h
  | fail h => exact K _ _ h
  | ch2 h1 h2 h3 h4 => exact K _ _ _ _ _ _ h1 h2 h3 h4
  | ch3 h1 h2 h3 h4 h5 => exact K _ _ _ _ _ _ _ h1 h2 h3 h4 h5
  | sw h1 h2 h3 h4 h5 h6 => exact K _ _ _ _ _ _ _ _ h1 h2 h3 h4 h5 h6
  | tb0 h1 h2 h3 => exact K _ _ _ _ _ _ h1 h2 h3
  | tb1 h1 h2 h3 h4 h5 => exact K _ _ _ _ _ _ _ _ _ h1 h2 h3 h4 h5
  | tb2 h1 h2 h3 h4 h5 h6 h7 => exact K _ _ _ _ _ _ _ _ _ _ _ _ h1 h2 h3 h4 h5 h6 h7
theorem TIn.cl_elim {R : Led} {P : Value → Prop} {v : Value} {n : Int} (hx : TIn R v (.cl n)) (K : ∀ a t1 t2, (a, tupO [.str (Str.ofString "clause") t1, .int n t2]) ∈ R → P (.ref a)) : P v := hx.elim K
theorem TIn.fail_elim {R : Led} {P : Value → Prop} {v : Value} (hx : TIn R v .fail) (K : ∀ a t1, (a, tupO [.str (Str.ofString "fail") t1]) ∈ R → P (.ref a)) : P v := hx.elim K
theorem TIn.ch2_elim {R : Led} {P : Value → Prop} {v : Value} {x1 x2 : T} (hx : TIn R v (.ch2 x1 x2)) (K : ∀ a l t1 k v1 v2, (a, tupO [.str (Str.ofString "chain") t1, .ref l]) ∈ R → (l, listOf #[v1, v2] k) ∈ R → TIn R v1 x1 → TIn R v2 x2 → P (.ref a)) : P v := hx.elim K
theorem TIn.ch3_elim {R : Led} {P : Value → Prop} {v : Value} {x1 x2 x3 : T} (hx : TIn R v (.ch3 x1 x2 x3)) (K : ∀ a l t1 k v1 v2 v3, (a, tupO [.str (Str.ofString "chain") t1, .ref l]) ∈ R → (l, listOf #[v1, v2, v3] k) ∈ R → TIn R v1 x1 → TIn R v2 x2 → TIn R v3 x3 → P (.ref a)) : P v := hx.elim K
theorem TIn.sw_elim {R : Led} {P : Value → Prop} {v : Value} {x1 x2 x3 x4 : T} (hx : TIn R v (.sw x1 x2 x3 x4)) (K : ∀ a l t1 k v1 v2 v3 v4, (a, tupO [.str (Str.ofString "switch") t1, .ref l]) ∈ R → (l, listOf #[v1, v2, v3, v4] k) ∈ R → TIn R v1 x1 → TIn R v2 x2 → TIn R v3 x3 → TIn R v4 x4 → P (.ref a)) : P v := hx.elim K
theorem TIn.tb0_elim {R : Led} {P : Value → Prop} {v : Value} {s : Bool} {xd : T} (hx : TIn R v (.tb0 s xd)) (K : ∀ a l t1 t2 k vd, (a, tupO [.str (Str.ofString "table") t1, .str (Str.ofString (tname s)) t2, .ref l, vd]) ∈ R → (l, listOf #[] k) ∈ R → TIn R vd xd → P (.ref a)) : P v := hx.elim K
theorem TIn.tb1_elim {R : Led} {P : Value → Prop} {v : Value} {s : Bool} {x1 xd : T} (hx : TIn R v (.tb1 s x1 xd)) (K : ∀ a l t1 t2 k vd p1 u1 v1, (a, tupO [.str (Str.ofString "table") t1, .str (Str.ofString (tname s)) t2, .ref l, vd]) ∈ R → (l, listOf #[.ref p1] k) ∈ R → (p1, tupO [.int 3 u1, v1]) ∈ R → TIn R v1 x1 → TIn R vd xd → P (.ref a)) : P v := hx.elim K
theorem TIn.tb2_elim {R : Led} {P : Value → Prop} {v : Value} {s : Bool} {x1 x2 xd : T} (hx : TIn R v (.tb2 s x1 x2 xd)) (K : ∀ a l t1 t2 k vd p1 u1 v1 p2 u2 v2, (a, tupO [.str (Str.ofString "table") t1, .str (Str.ofString (tname s)) t2, .ref l, vd]) ∈ R → (l, listOf #[.ref p1, .ref p2] k) ∈ R → (p1, tupO [.int 3 u1, v1]) ∈ R → TIn R v1 x1 → (p2, tupO [.int 5 u2, v2]) ∈ R → TIn R v2 x2 → TIn R vd xd → P (.ref a)) : P v := hx.elim K
theorem TIn.mono {R R' : Led} {v : Value} {t : T} (h : TIn R v t) (hs : ∀ p ∈ R, p ∈ R') : TIn R' v t := by
  induction h with
  | cl h => exact .cl (hs _ h)
  | fail h => exact .fail (hs _ h)
  | ch2 h1 h2 _ _ i1 i2 => exact .ch2 (hs _ h1) (hs _ h2) i1 i2
  | ch3 h1 h2 _ _ _ i1 i2 i3 => exact .ch3 (hs _ h1) (hs _ h2) i1 i2 i3
  | sw h1 h2 _ _ _ _ i1 i2 i3 i4 => exact .sw (hs _ h1) (hs _ h2) i1 i2 i3 i4
  | tb0 h1 h2 _ i1 => exact .tb0 (hs _ h1) (hs _ h2) i1
  | tb1 h1 h2 h3 _ _ i1 i2 => exact .tb1 (hs _ h1) (hs _ h2) (hs _ h3) i1 i2
  | tb2 h1 h2 h3 _ h4 _ _ i1 i2 i3 => exact .tb2 (hs _ h1) (hs _ h2) (hs _ h3) i1 (hs _ h4) i2 i3
/-- what _law_tree draws -/
def Wf : Nat → Wh → T → Prop
  | d, _, .cl n => 0 ≤ n ∧ n < 5 ∧ d < 3
  | d, _, .fail => d < 3
  | 0, _, _ => False
  | d + 1, w, .ch2 a b => Wf d w a ∧ Wf d w b
  | d + 1, w, .ch3 a b c => Wf d w a ∧ Wf d w b ∧ Wf d w c
  | d + 1, w, .sw a b c e => w = .any ∧ Wf d .var a ∧ Wf d .con b ∧ Wf d .lst c ∧ Wf d .str e
  | d + 1, w, .tb0 s a => w = cond s .str .con ∧ Wf d w a
  | d + 1, w, .tb1 s a b => w = cond s .str .con ∧ Wf d w a ∧ Wf d w b
  | d + 1, w, .tb2 s a b c => w = cond s .str .con ∧ Wf d w a ∧ Wf d w b ∧ Wf d w c
theorem newsSub {h₀ h : Heap} {L : Addr} {l l' : Led} (N : News h₀ L h l) (hs : ∀ p ∈ l', p ∈ l) : News h₀ L h l' := fun p hp => N p (hs p hp)
section
variable {w : World} {mean : ExcName → Option Value} {mg mb : Str → Option Value}
theorem Ctr.use {f : Addr} {d u : Nat} {news : Led} {vs : List Value} {Post : Led → Value → Prop} {dp un : Nat} {gd : Option (List Code)} {cn : Str} {cs : Scope} {a : Addr} {ccd : Value} {cl : List (Str × Addr)} {outer : List Env} {A₀ : Around} {base h₀ : Heap} {L : Addr} {m : Str → Option Value} {s : Shared}
    {Q E : Value → Shared → Prop} (C : Ctr w mean mg mb f d u news vs Post) (B : Below A₀ base outer h₀) (F : Fr h₀ L s.heap m) (X : (Mine.hd.heap_39 w.params).In h₀) (N : News h₀ L s.heap news)
    (T : Top Mine.hd.view_39 (looseW Mine.hd.view_39 [Str.ofString "LinkFault"]) mean mg mb h₀) (hk : cs.kind = .function) (hd : dp + d < recursionLimit) (hu : un + u < cLine)
    (ret : ∀ r news' h' tk', Fr h₀ L h' m → News h₀ L h' news' → Post news' r → Q r { s with heap := h', toks := tk' }) :
    wpAny (model Mine.pw w) (ktrTop dp un gd cn cs L a ccd cl outer) (call (.ref f) vs) Q E s := C _ _ _ _ _ _ _ _ _ _ _ _ _ _ _ _ _ B F X N T hk hd hu ret
end
/-- a plain expression: its value, and how many new objects it counts -/
structure Ev (M : Model) (A : Around) (env : Env) (h : Heap) (e : Expr) (k : Nat) (v : Value) : Prop where
  ev : ∀ (Q E : Value → Shared → Prop) (g d t o), Q v ⟨h, g, d, t + k, o⟩ → wpAny M A (eval e env) Q E ⟨h, g, d, t, o⟩
theorem backTo_any {pos : Pos} : ∀ {l : List (Bool × Sem Value)}, ((backTo pos l).any fun x => x.1) = l.any fun x => x.1
  | [] => rfl
  | _ :: l => congrArg (_ || ·) (backTo_any (l := l))
/-- plain arguments -/
structure EvL (M : Model) (A : Around) (env : Env) (h : Heap) (es : List Expr) (k : Nat) (vs : Nat → List Value) : Prop where
  ns : ((starEach es env).any fun x => x.1) = false
  ev : ∀ (Q : List Value → Shared → Prop) (E : Value → Shared → Prop) (pos : Pos) (g d t o), Q (vs t) ⟨h, g, d, t + k, o⟩ → wpAny M A (spliced (backTo pos (starEach es env))) Q E ⟨h, g, d, t, o⟩
def pickIt (i : Int) (l : List Value) : Option Value :=
  if (decide (-2 ^ 63 ≤ i) && decide (i < 2 ^ 63)) = true then (seqIndex? i l.length).bind (l[·]?) else none
section
variable {M : Model} {A : Around} {env : Env} {h h₀ : Heap} {L a : Addr} {m mg mb : Str → Option Value} {cn : Str} {cs : Scope} {ccd : Value} {cl : List (Str × Addr)} {x : Str} {pos p2 p3 : Pos} {v : Value} {news : Led} {c : Addr} {ob : Obj} {K : Frag} {p : Program} {loose : List Str} {prog : Program} {w : World} {e : Expr} {k kk k2 : Nat} {es : List Expr} {vs : Nat → List Value} {i : Int}
theorem evL (F : Fr h₀ L h m) (hv : m x = some v) (ha : cs.kind = .function) (hb : (envX cn cs L a ccd cl).kindOf x = some .local) (hc : (x == Str.ofString "__debug__") = false) : Ev M A (envX cn cs L a ccd cl) h (.Name x pos) 0 v :=
  ⟨fun _ _ g d t o hq => nameX_L (s := ⟨h, g, d, t, o⟩) F hv hq ha hb hc⟩
theorem evC (N : News h₀ L h news) (hl : List.lookup x cl = some c) (hm : (c, ob) ∈ news) (hd : ob.data = .cell (some v)) (ha : cs.kind = .function) (hb : (envX cn cs L a ccd cl).kindOf x = some .cell) (hc : (x == Str.ofString "__debug__") = false) : Ev M A (envX cn cs L a ccd cl) h (.Name x pos) 0 v :=
  ⟨fun _ _ g d t o hq => nameX_C (s := ⟨h, g, d, t, o⟩) N hl hm hd hq ha hb hc⟩
theorem evK (F : Fr h₀ L h m) (X : K.In h₀) (T : TopRead p loose mg mb h₀) (he : nsIn K mainGlobals x = some (some v)) (ha : cs.kind = .function) (hb : (envX cn cs L a ccd cl).kindOf x = some .globalImplicit) (hc : (x == Str.ofString "__debug__") = false) : Ev M A (envX cn cs L a ccd cl) h (.Name x pos) 0 v :=
  ⟨fun _ _ g d t o hq => nameX_K (s := ⟨h, g, d, t, o⟩) F X T he hq ha hb hc⟩
theorem evI {t : Addr} {l : List Value} (he : Ev (model prog w) A env h e k (.ref t)) (N : News h₀ L h news) (hm : (t, tupO l) ∈ news) (hx : pickIt i l = some v) : Ev (model prog w) A env h (.Subscript e (.Constant (.int i) kk p2) p3) (k + 1) v := by
  refine ⟨fun Q E g d tk o hq => ?_⟩
  unfold pickIt at hx
  split at hx
  · rename_i hr
    rw [Bool.and_eq_true, decide_eq_true_eq, decide_eq_true_eq] at hr
    obtain ⟨j, hj, hv⟩ := Option.bind_eq_some_iff.mp hx
    refine Subscript_ (he.ev _ _ _ _ _ _ (wpAny_Constant_int ?_))
    exact item_tupleT (News.isTup N hm) hr.1 hr.2 hj hv hq
  · cases hx
theorem Ev.go {Q E : Value → Shared → Prop} {g d t o} (he : Ev M A env h e k v) (hq : Q v ⟨h, g, d, t + k, o⟩) : wpAny M A (eval e env) Q E ⟨h, g, d, t, o⟩ := he.ev _ _ _ _ _ _ hq
theorem evl0 : EvL M A env h [] 0 (fun _ => []) := ⟨rfl, fun _ _ _ _ _ _ _ hq => args_nil hq⟩
theorem evlN (he : Ev M A env h e 0 v) (hl : EvL M A env h es k vs) (hs : starEach (e :: es) env = (false, eval e env) :: starEach es env) : EvL M A env h (e :: es) k (fun t => v :: vs t) :=
  ⟨by rw [hs]; exact hl.ns, fun _ _ _ _ _ _ _ hq => args_cons (he.ev _ _ _ _ _ _ (hl.ev _ _ _ _ _ _ _ hq)) hs⟩
theorem evlE (he : Ev M A env h e k2 v) (hl : EvL M A env h es k vs) (hs : starEach (e :: es) env = (false, eval e env) :: starEach es env) : EvL M A env h (e :: es) (k2 + k) (fun t => v :: vs (t + k2)) :=
  ⟨by rw [hs]; exact hl.ns, fun _ _ _ _ _ _ _ hq => args_cons (he.ev _ _ _ _ _ _ (hl.ev _ _ _ _ _ _ _ (by rw [Nat.add_assoc]; exact hq))) hs⟩
theorem evlI (hl : EvL M A env h es k vs) : EvL M A env h (.Constant (.int i) kk pos :: es) (k + 1) (fun t => .int i t :: vs (t + 1)) :=
  ⟨hl.ns, fun _ _ _ _ _ _ _ hq => args_cons (wpAny_Constant_int (hl.ev _ _ _ _ _ _ _ (by rw [Nat.add_right_comm]; exact hq))) rfl⟩
theorem evlS (hl : EvL M A env h es k vs) : EvL M A env h (.Constant (.str x) kk pos :: es) (k + 1) (fun t => .str x t :: vs (t + 1)) :=
  ⟨hl.ns, fun _ _ _ _ _ _ _ hq => args_cons (Calls.Constant_str (hl.ev _ _ _ _ _ _ _ (by rw [Nat.add_right_comm]; exact hq))) rfl⟩
theorem EvL.go {Q : List Value → Shared → Prop} {E : Value → Shared → Prop} {g d t o} (hl : EvL M A env h es k vs) (hq : Q (vs t) ⟨h, g, d, t + k, o⟩) : wpAny M A (spliced (backTo pos (starEach es env))) Q E ⟨h, g, d, t, o⟩ := hl.ev _ _ _ _ _ _ _ hq
/-- a call of a function of the text, its arguments plain -/
theorem evCall {Q E : Value → Shared → Prop} {g d t o} (F : Fr h₀ L h m) (X : K.In h₀) (T : TopRead p loose mg mb h₀) (he : nsIn K mainGlobals x = some (some v)) (hk : keepIn K v = true) (hl : EvL M A (envX cn cs L a ccd cl) h (e :: es) k vs)
    (hq : wpAny M A (call v (vs t)) Q E ⟨h, g, d, t + k, o⟩) (hs : starEach (e :: es) (envX cn cs L a ccd cl) = (false, eval e (envX cn cs L a ccd cl)) :: starEach es (envX cn cs L a ccd cl)) (ha : cs.kind = .function) (hb : (envX cn cs L a ccd cl).kindOf x = some .globalImplicit) (hc : (x == Str.ofString "__debug__") = false) : wpAny M A (eval (.Call (.Name x p2) (e :: es) [] pos) (envX cn cs L a ccd cl)) Q E ⟨h, g, d, t, o⟩ := by
  have hn := hl.ns
  rw [hs] at hn
  exact Call_ ((evK F X T he ha hb hc).ev _ _ _ _ _ _ (callWith_K X hk (hl.ev _ _ _ _ _ _ _ ⟨X.keeps F.keep, hq⟩) hs (backTo_any.trans hn)))
section
variable {Q : Flow → Shared → Prop} {E : Value → Shared → Prop} {y : Str} {u : Tok} {g d t o} {body els : List Stmt}
theorem ifT (he : Ev (model prog w) A env h e k (.str y u)) (hb : (y == x) = true) (hq : wpAny (model prog w) A (execs body env) Q E ⟨h, g, d, t + k + 1, o⟩) :
    wpAny (model prog w) A (exec (.If (.Compare e [.Eq] [.Constant (.str x) kk pos] p2) body els p3) env) Q E ⟨h, g, d, t, o⟩ :=
  wpAny_If (wpAny_isTrue_Compare1 (he.ev _ _ _ _ _ _ (Calls.Constant_str (eq_str (wpAny_truthy_bool (ite_pos hb hq))))))
theorem ifF (he : Ev (model prog w) A env h e k (.str y u)) (hb : (y == x) = false) (hq : wpAny (model prog w) A (execs els env) Q E ⟨h, g, d, t + k + 1, o⟩) :
    wpAny (model prog w) A (exec (.If (.Compare e [.Eq] [.Constant (.str x) kk pos] p2) body els p3) env) Q E ⟨h, g, d, t, o⟩ :=
  wpAny_If (wpAny_isTrue_Compare1 (he.ev _ _ _ _ _ _ (Calls.Constant_str (eq_str (wpAny_truthy_bool (ite_neg (by rw [hb]; exact Bool.false_ne_true) hq))))))
end
section
variable {Q : Bool → Shared → Prop} {E : Value → Shared → Prop} {y : Str} {u : Tok} {g d t o} {whole : Sem Value}
theorem isT (he : Ev (model prog w) A env h e k (.str y u)) (hb : (y == x) = true) (hq : Q true ⟨h, g, d, t + k + 1, o⟩) :
    wpAny (model prog w) A (PySem.isTrue (.Compare e [.Eq] [.Constant (.str x) kk pos] p2) env whole) Q E ⟨h, g, d, t, o⟩ :=
  wpAny_isTrue_Compare1 (he.ev _ _ _ _ _ _ (Calls.Constant_str (eq_str (wpAny_truthy_bool (by rw [hb]; exact hq)))))
theorem isF (he : Ev (model prog w) A env h e k (.str y u)) (hb : (y == x) = false) (hq : Q false ⟨h, g, d, t + k + 1, o⟩) :
    wpAny (model prog w) A (PySem.isTrue (.Compare e [.Eq] [.Constant (.str x) kk pos] p2) env whole) Q E ⟨h, g, d, t, o⟩ :=
  wpAny_isTrue_Compare1 (he.ev _ _ _ _ _ _ (Calls.Constant_str (eq_str (wpAny_truthy_bool (by rw [hb]; exact hq)))))
theorem isQ {b : Bool} (he : Ev (model prog w) A env h e k (.str y u)) (hb : (y == x) = b) (hq : Q b ⟨h, g, d, t + k + 1, o⟩) :
    wpAny (model prog w) A (PySem.isTrue (.Compare e [.Eq] [.Constant (.str x) kk pos] p2) env whole) Q E ⟨h, g, d, t, o⟩ :=
  wpAny_isTrue_Compare1 (he.ev _ _ _ _ _ _ (Calls.Constant_str (eq_str (wpAny_truthy_bool (by rw [hb]; exact hq)))))
theorem isI {y i : Int} (he : Ev (model prog w) A env h e k (.int y u)) (hq : Q (y == i) ⟨h, g, d, t + k + 1, o⟩) :
    wpAny (model prog w) A (PySem.isTrue (.Compare e [.Eq] [.Constant (.int i) kk pos] p2) env whole) Q E ⟨h, g, d, t, o⟩ :=
  wpAny_isTrue_Compare1 (he.ev _ _ _ _ _ _ (wpAny_Constant_int (eq_int (wpAny_truthy_bool hq))))
theorem isIl {y i : Int} (he : Ev (model prog w) A env h e k (.int y u)) (hq : Q (decide (y < i)) ⟨h, g, d, t + k + 1, o⟩) :
    wpAny (model prog w) A (PySem.isTrue (.Compare e [.Lt] [.Constant (.int i) kk pos] p2) env whole) Q E ⟨h, g, d, t, o⟩ :=
  wpAny_isTrue_Compare1 (he.ev _ _ _ _ _ _ (wpAny_Constant_int (lt_int (wpAny_truthy_bool hq))))
theorem isIg {y i : Int} (he : Ev (model prog w) A env h e k (.int y u)) (hq : Q (decide (i < y)) ⟨h, g, d, t + k + 1, o⟩) :
    wpAny (model prog w) A (PySem.isTrue (.Compare e [.Gt] [.Constant (.int i) kk pos] p2) env whole) Q E ⟨h, g, d, t, o⟩ :=
  wpAny_isTrue_Compare1 (he.ev _ _ _ _ _ _ (wpAny_Constant_int (gt_int (wpAny_truthy_bool hq))))
end
end
theorem letA {M : Model} {A : Around} {x : Sem Flow} {Q : Flow → Shared → Prop} {E s} (h : let A' := A; wpAny M A' x Q E s) : wpAny M A x Q E s := h
theorem letE {M : Model} {A : Around} {b : List Stmt} {env : Env} {Q : Flow → Shared → Prop} {E s} (h : let e' := env; wpAny M A (execs b e') Q E s) : wpAny M A (execs b env) Q E s := h
theorem letM {h₀ : Heap} {L : Addr} {h : Heap} {m : Str → Option Value} {P : Prop} (F : Fr h₀ L h m) (k : let m' := m; Fr h₀ L h m' → P) : P := k F
theorem execsG {M : Model} {A : Around} {st : Stmt} {rest : List Stmt} {env : Env} {Q : Flow → Shared → Prop} {E : Value → Shared → Prop} {h g d t o} (hh : ∀ t, wpAny M A (exec st env) (fun f s' => match f with | Flow.next => wpAny M A (execs rest env) Q E s' | f => Q f s') E ⟨h, g, d, t, o⟩) :
    wpAny M A (execs (st :: rest) env) Q E ⟨h, g, d, t, o⟩ := wpAny_execs_cons (hh t)
theorem u20 (d : Nat) : 20 ≤ 8 * (d + 1) + 37 := by omega
theorem u40 (d : Nat) : 8 * d + 40 ≤ 8 * (d + 1) + 37 := by omega
theorem r2 (d : Nat) : 2 ≤ d + 4 := by omega
theorem no1 {A B R : Prop} (h : ¬(A ∧ B) ∧ R) (a : A) (b : B) : False := h.1 ⟨a, b⟩
theorem no2 {P A B R : Prop} (h : P ∧ ¬(A ∧ B) ∧ R) (a : A) (b : B) : False := h.2.1 ⟨a, b⟩
theorem no3 {P P2 A B C R : Prop} (h : P ∧ P2 ∧ ¬(A ∧ B ∨ C) ∧ R) (a : A) (b : B) : False := h.2.2.1 (.inl ⟨a, b⟩)
theorem no4 {P P2 A B C R : Prop} (h : P ∧ P2 ∧ ¬(C ∨ A ∧ B) ∧ R) (a : A) (b : B) : False := h.2.2.1 (.inr ⟨a, b⟩)
theorem no5 {P P2 P3 A B : Prop} (h : P ∧ P2 ∧ P3 ∧ ¬(A ∧ B)) (a : A) (b : B) : False := h.2.2.2 ⟨a, b⟩
theorem in2 {x : Int} (h : 0 ≤ x) (k : x < 2) : x = 0 ∨ x = 1 := by omega
theorem in3 {x : Int} (h : 0 ≤ x) (k : x < 3) : x = 0 ∨ x = 1 ∨ x = 2 := by omega
theorem dm1 {deep : Int} {d : Nat} (h : deep = ((d + 1 : Nat) : Int)) : deep - 1 = (d : Int) := by omega
theorem dlt {deep : Int} {d : Nat} {P : Prop} (h : deep = ((d + 1 : Nat) : Int)) (k : P ∧ deep < 3) : d + 1 < 3 := by omega
local macro_rules | `(tactic| k_ne) => `(tactic| k_extra "k_ne")
local macro_rules | `(tactic| ktr_room) => `(tactic| k_extra "ktr_room")
local macro_rules | `(tactic| ktr_units) => `(tactic| k_extra "ktr_units")
local macro_rules | `(tactic| k_all) => `(tactic| k_extra "k_all")
local macro_rules | `(tactic| k_mem) => `(tactic| k_extra "k_mem")
local macro_rules | `(tactic| k_updF) => `(tactic| k_extra "k_updF")
local macro_rules | `(tactic| size_fits) => `(tactic| k_extra "size_fits")
local macro_rules | `(tactic| kaf_pre) => `(tactic| k_extra "kaf_pre")
local macro_rules | `(tactic| kaf_suf) => `(tactic| k_extra "kaf_suf")
local macro_rules | `(tactic| walk_at $s:str) => `(tactic| k_extra $s)
set_option maxRecDepth 100000 in
set_option maxHeartbeats 8000000 in
theorem law_next (w : World) (mean : ExcName → Option Value) (mg mb : Str → Option Value) (b sl : Addr) (i : Int) (ti : Tok) (lim : Int) (tl : Tok) (vs : List Value) (ns : List Int) (k : Nat) (rest : List (Addr × Obj))
   (hv : IntsAre vs ns) (hap : ∀ p ∈ rest, p.1 ≠ b) (hm : (sl, listOf vs.toArray 0) ∈ rest) (hi : 0 ≤ i) (hl : 0 < lim) (hl2 : lim ≤ 6) (hn : ns.length ≤ 63):
   Ctr w mean mg mb 98 2 20 ((b, listOf #[.ref sl, .int i ti] k) :: rest) [.ref b, .int lim tl] (fun news r => ∃ x t t', r = .int x t ∧ 0 ≤ x ∧ x < lim ∧ news = (b, listOf #[.ref sl, .int (i+1) t'] k) :: rest) := by
  k_with_none
  k_with "kaf_pre" => first | (refine' evI ?pe9 ?pN9 ?pm9 ?px9; (case pe9 => kaf_pre); (case pN9 => k_asm); (case pm9 => k_mem); (case px9 => rfl)) | (refine' evL ?pF9 ?pv9 ?pa9 ?pb9 ?pc9; (case pF9 => k_asm); (case pa9 => rfl); (case pb9 => rfl); (case pc9 => rfl); (case pv9 => rfl)) | (refine' evC ?pN9 ?pl9 ?pm9 ?pd9 ?pa9 ?pb9 ?pc9; (case pa9 => rfl); (case pb9 => rfl); (case pc9 => rfl); (case pN9 => k_asm); (case pl9 => rfl); (case pm9 => k_mem); (case pd9 => k_asm)) | (refine' evK ?pF9 ?pX9 ?pT9 ?pe9 ?pa9 ?pb9 ?pc9; (case pF9 => k_asm); (case pX9 => k_asm); (case pT9 => k_asm); (case pa9 => rfl); (case pb9 => rfl); (case pc9 => rfl); (case pe9 => k_is))
  k_with "kaf_suf" => first | exact evl0 | (refine' evlI ?sl9; (case sl9 => kaf_suf)) | (refine' evlS ?sl9; (case sl9 => kaf_suf)) | (refine' evlN ?se9 ?sl9 ?sn9; (case sn9 => rfl); (case se9 => kaf_pre); (case sl9 => kaf_suf)) | (refine' evlE ?se9 ?sl9 ?sn9; (case sn9 => rfl); (case se9 => kaf_pre); (case sl9 => kaf_suf))
  k_with "k_all" => assumption
  k_with "k_ne" => (refine neN ?_; (try dsimp only); first | with_reducible assumption | exact Ne.symm (by with_reducible assumption) | (refine Nat.ne_of_gt ((?_ : ChainTo _ _ _ _) (by with_reducible assumption)); intro hch; with_reducible (first | exact And.left hch | exact And.left (And.right hch) | exact And.left (And.right (And.right hch)) | exact And.left (And.right (And.right (And.right hch))) | exact And.left (And.right (And.right (And.right (And.right hch)))) | exact And.left (And.right (And.right (And.right (And.right (And.right hch))))) | exact And.left (And.right (And.right (And.right (And.right (And.right (And.right hch)))))) | exact And.left (And.right (And.right (And.right (And.right (And.right (And.right (And.right hch))))))) | exact And.left (And.right (And.right (And.right (And.right (And.right (And.right (And.right (And.right hch)))))))) | exact And.left (And.right (And.right (And.right (And.right (And.right (And.right (And.right (And.right (And.right hch))))))))) | exact And.left (And.right (And.right (And.right (And.right (And.right (And.right (And.right (And.right (And.right (And.right hch)))))))))) | exact And.left (And.right (And.right (And.right (And.right (And.right (And.right (And.right (And.right (And.right (And.right (And.right hch))))))))))) | exact And.left (And.right (And.right (And.right (And.right (And.right (And.right (And.right (And.right (And.right (And.right (And.right (And.right hch)))))))))))) | exact And.left (And.right (And.right (And.right (And.right (And.right (And.right (And.right (And.right (And.right (And.right (And.right (And.right (And.right hch))))))))))))))) | (refine Nat.ne_of_lt ((?_ : ChainTo _ _ _ _) (by with_reducible assumption)); intro hch; with_reducible (first | exact And.left hch | exact And.left (And.right hch) | exact And.left (And.right (And.right hch)) | exact And.left (And.right (And.right (And.right hch))) | exact And.left (And.right (And.right (And.right (And.right hch)))) | exact And.left (And.right (And.right (And.right (And.right (And.right hch))))) | exact And.left (And.right (And.right (And.right (And.right (And.right (And.right hch)))))) | exact And.left (And.right (And.right (And.right (And.right (And.right (And.right (And.right hch))))))) | exact And.left (And.right (And.right (And.right (And.right (And.right (And.right (And.right (And.right hch)))))))) | exact And.left (And.right (And.right (And.right (And.right (And.right (And.right (And.right (And.right (And.right hch))))))))) | exact And.left (And.right (And.right (And.right (And.right (And.right (And.right (And.right (And.right (And.right (And.right hch)))))))))) | exact And.left (And.right (And.right (And.right (And.right (And.right (And.right (And.right (And.right (And.right (And.right (And.right hch))))))))))) | exact And.left (And.right (And.right (And.right (And.right (And.right (And.right (And.right (And.right (And.right (And.right (And.right (And.right hch)))))))))))) | exact And.left (And.right (And.right (And.right (And.right (And.right (And.right (And.right (And.right (And.right (And.right (And.right (And.right (And.right hch))))))))))))))) | exact Nat.ne_of_gt (Nat.lt_succ_of_lt (And.left (by with_reducible assumption))) | exact Nat.ne_of_lt (Nat.lt_succ_of_lt (And.left (by with_reducible assumption))) | exact Nat.ne_of_gt (Nat.lt_succ_of_lt (And.left (And.right (by with_reducible assumption)))) | exact Nat.ne_of_lt (Nat.lt_succ_of_lt (And.left (And.right (by with_reducible assumption)))) | exact Nat.ne_of_gt (Nat.lt_succ_of_lt (And.left (And.right (And.right (by with_reducible assumption))))) | exact Nat.ne_of_lt (Nat.lt_succ_of_lt (And.left (And.right (And.right (by with_reducible assumption))))) | exact Nat.ne_of_gt (Nat.lt_succ_of_lt (Nat.lt_succ_of_lt (And.left (by with_reducible assumption)))) | exact Nat.ne_of_lt (Nat.lt_succ_of_lt (Nat.lt_succ_of_lt (And.left (by with_reducible assumption)))) | exact Nat.ne_of_gt (Nat.lt_succ_of_lt (Nat.lt_succ_of_lt (And.left (And.right (by with_reducible assumption))))) | exact Nat.ne_of_lt (Nat.lt_succ_of_lt (Nat.lt_succ_of_lt (And.left (And.right (by with_reducible assumption))))) | exact Nat.ne_of_gt (Nat.lt_succ_of_lt (Nat.lt_succ_of_lt (And.left (And.right (And.right (by with_reducible assumption)))))) | exact Nat.ne_of_lt (Nat.lt_succ_of_lt (Nat.lt_succ_of_lt (And.left (And.right (And.right (by with_reducible assumption)))))) | exact Nat.ne_of_gt (Nat.lt_succ_of_lt (Nat.lt_succ_of_lt (Nat.lt_succ_of_lt (And.left (by with_reducible assumption))))) | exact Nat.ne_of_lt (Nat.lt_succ_of_lt (Nat.lt_succ_of_lt (Nat.lt_succ_of_lt (And.left (by with_reducible assumption))))) | exact Nat.ne_of_gt (Nat.lt_succ_of_lt (Nat.lt_succ_of_lt (Nat.lt_succ_of_lt (And.left (And.right (by with_reducible assumption)))))) | exact Nat.ne_of_lt (Nat.lt_succ_of_lt (Nat.lt_succ_of_lt (Nat.lt_succ_of_lt (And.left (And.right (by with_reducible assumption)))))) | exact Nat.ne_of_gt (Nat.lt_succ_of_lt (Nat.lt_succ_of_lt (Nat.lt_succ_of_lt (And.left (And.right (And.right (by with_reducible assumption))))))) | exact Nat.ne_of_lt (Nat.lt_succ_of_lt (Nat.lt_succ_of_lt (Nat.lt_succ_of_lt (And.left (And.right (And.right (by with_reducible assumption))))))) | exact Nat.ne_of_gt (Nat.lt_succ_self _) | exact Nat.ne_of_lt (Nat.lt_succ_self _) | exact Nat.ne_of_gt (Nat.lt_succ_of_lt (Nat.lt_succ_self _)) | exact Nat.ne_of_lt (Nat.lt_succ_of_lt (Nat.lt_succ_self _)) | exact ((And.left (And.left (by with_reducible assumption))) : @Ne Nat _ _) | exact Ne.symm ((And.left (And.left (by with_reducible assumption))) : @Ne Nat _ _) | exact ((And.left (And.right (And.left (by with_reducible assumption)))) : @Ne Nat _ _) | exact Ne.symm ((And.left (And.right (And.left (by with_reducible assumption)))) : @Ne Nat _ _) | exact ((And.right (And.right (And.left (by with_reducible assumption)))) : @Ne Nat _ _) | exact Ne.symm ((And.right (And.right (And.left (by with_reducible assumption)))) : @Ne Nat _ _) | exact ((And.left (And.left (And.right (by with_reducible assumption)))) : @Ne Nat _ _) | exact Ne.symm ((And.left (And.left (And.right (by with_reducible assumption)))) : @Ne Nat _ _) | exact ((And.left (And.right (And.left (And.right (by with_reducible assumption))))) : @Ne Nat _ _) | exact Ne.symm ((And.left (And.right (And.left (And.right (by with_reducible assumption))))) : @Ne Nat _ _) | exact ((And.right (And.right (And.left (And.right (by with_reducible assumption))))) : @Ne Nat _ _) | exact Ne.symm ((And.right (And.right (And.left (And.right (by with_reducible assumption))))) : @Ne Nat _ _) | exact ((And.left (And.left (And.right (And.right (by with_reducible assumption))))) : @Ne Nat _ _) | exact Ne.symm ((And.left (And.left (And.right (And.right (by with_reducible assumption))))) : @Ne Nat _ _) | exact ((And.left (And.right (And.left (And.right (And.right (by with_reducible assumption)))))) : @Ne Nat _ _) | exact Ne.symm ((And.left (And.right (And.left (And.right (And.right (by with_reducible assumption)))))) : @Ne Nat _ _) | exact ((And.right (And.right (And.left (And.right (And.right (by with_reducible assumption)))))) : @Ne Nat _ _) | exact Ne.symm ((And.right (And.right (And.left (And.right (And.right (by with_reducible assumption)))))) : @Ne Nat _ _) | exact ((And.left (And.left (And.right (And.right (And.right (by with_reducible assumption)))))) : @Ne Nat _ _) | exact Ne.symm ((And.left (And.left (And.right (And.right (And.right (by with_reducible assumption)))))) : @Ne Nat _ _) | exact ((And.left (And.right (And.left (And.right (And.right (And.right (by with_reducible assumption))))))) : @Ne Nat _ _) | exact Ne.symm ((And.left (And.right (And.left (And.right (And.right (And.right (by with_reducible assumption))))))) : @Ne Nat _ _) | exact ((And.right (And.right (And.left (And.right (And.right (And.right (by with_reducible assumption))))))) : @Ne Nat _ _) | exact Ne.symm ((And.right (And.right (And.left (And.right (And.right (And.right (by with_reducible assumption))))))) : @Ne Nat _ _) | exact ((And.left (And.left (And.right (And.right (And.right (And.right (by with_reducible assumption))))))) : @Ne Nat _ _) | exact Ne.symm ((And.left (And.left (And.right (And.right (And.right (And.right (by with_reducible assumption))))))) : @Ne Nat _ _) | exact ((And.left (And.right (And.left (And.right (And.right (And.right (And.right (by with_reducible assumption)))))))) : @Ne Nat _ _) | exact Ne.symm ((And.left (And.right (And.left (And.right (And.right (And.right (And.right (by with_reducible assumption)))))))) : @Ne Nat _ _) | exact ((And.right (And.right (And.left (And.right (And.right (And.right (And.right (by with_reducible assumption)))))))) : @Ne Nat _ _) | exact Ne.symm ((And.right (And.right (And.left (And.right (And.right (And.right (And.right (by with_reducible assumption)))))))) : @Ne Nat _ _) | exact ((And.left (And.left (And.right (And.right (And.right (And.right (And.right (by with_reducible assumption)))))))) : @Ne Nat _ _) | exact Ne.symm ((And.left (And.left (And.right (And.right (And.right (And.right (And.right (by with_reducible assumption)))))))) : @Ne Nat _ _) | exact ((And.left (And.right (And.left (And.right (And.right (And.right (And.right (And.right (by with_reducible assumption))))))))) : @Ne Nat _ _) | exact Ne.symm ((And.left (And.right (And.left (And.right (And.right (And.right (And.right (And.right (by with_reducible assumption))))))))) : @Ne Nat _ _) | exact ((And.right (And.right (And.left (And.right (And.right (And.right (And.right (And.right (by with_reducible assumption))))))))) : @Ne Nat _ _) | exact Ne.symm ((And.right (And.right (And.left (And.right (And.right (And.right (And.right (And.right (by with_reducible assumption))))))))) : @Ne Nat _ _) | exact ((And.left (And.left (And.right (And.right (And.right (And.right (And.right (And.right (by with_reducible assumption))))))))) : @Ne Nat _ _) | exact Ne.symm ((And.left (And.left (And.right (And.right (And.right (And.right (And.right (And.right (by with_reducible assumption))))))))) : @Ne Nat _ _) | exact ((And.left (And.right (And.left (And.right (And.right (And.right (And.right (And.right (And.right (by with_reducible assumption)))))))))) : @Ne Nat _ _) | exact Ne.symm ((And.left (And.right (And.left (And.right (And.right (And.right (And.right (And.right (And.right (by with_reducible assumption)))))))))) : @Ne Nat _ _) | exact ((And.right (And.right (And.left (And.right (And.right (And.right (And.right (And.right (And.right (by with_reducible assumption)))))))))) : @Ne Nat _ _) | exact Ne.symm ((And.right (And.right (And.left (And.right (And.right (And.right (And.right (And.right (And.right (by with_reducible assumption)))))))))) : @Ne Nat _ _) | omega)
  k_with "ktr_room" => ((try simp only [depth_under_make, depth_under_kw, depth_in1, depth_deeper, depth_caller]); (try dsimp only [ktrTop]); first | exact Nat.lt_of_le_of_lt (Nat.le_add_right _ _) (by with_reducible assumption) | exact roomStep (by with_reducible assumption) (by first | exact Nat.le_refl _ | decide | exact r2 _ | omega) | fail "room")
  k_with "ktr_units" => ((try simp only [units_in1, units_deeper, Around.mark_units, units_caller]); (try dsimp only [ktrTop]); first | exact unitStep (by with_reducible assumption) (by first | exact Nat.le_refl _ | decide | exact u20 _ | exact u40 _ | omega) | fail "units")
  k_with "k_mem" => assumption
  k_with "exec If" => (k_here; k_fold)
  k_with "exec Assign" => (k_here; k_fold)
  k_with "exec Expr" => (k_here; k_fold)
  k_with "exec Return some" => (k_here; k_fold)
  k_with "execs cons" => (k_here; first | k_fold | ((with_reducible refine execsG ?_); intro t9; (try dsimp only)))
  k_with "execs nil" => (k_here; (with_reducible refine wpAny_execs_nil ?_); (try dsimp only))
  k_with "call builtin:len" => (k_here; (with_reducible show wpAny _ _ (call (Value.builtin _) [Value.ref _]) _ _ _); k_dflt (refine' len_list (News.isList ?k1 ?k2) ?k3 ?_; (case k1 => k_asm); (case k2 => k_mem); (case k3 => (simp only [List.size_toArray]; omega)); k_whole))
  k_with "exec If" => (k_here; k_dflt (first | ((with_reducible refine' ifT ?xe9 ?xb9 ?_); (case xe9 => kaf_pre); (case xb9 => decide); k_whole) | ((with_reducible refine' ifF ?xe9 ?xb9 ?_); (case xe9 => kaf_pre); (case xb9 => decide); k_whole)))
  k_with "isTrue Compare" => (k_here; k_dflt (first | ((with_reducible refine' isT ?xe9 ?xb9 ?_); (case xe9 => kaf_pre); (case xb9 => decide); k_whole) | ((with_reducible refine' isF ?xe9 ?xb9 ?_); (case xe9 => kaf_pre); (case xb9 => decide); k_whole) | ((with_reducible refine' isI ?xe9 ?_); (case xe9 => kaf_pre); k_whole) | ((with_reducible refine' isIl ?xe9 ?_); (case xe9 => kaf_pre); k_whole) | ((with_reducible refine' isIg ?xe9 ?_); (case xe9 => kaf_pre); k_whole)))
  k_with "eval Subscript" => (k_here; k_dflt ((with_reducible refine' Ev.go ?xe9 ?_); (case xe9 => kaf_pre); k_whole))
  k_with "spliced" => (k_here; k_dflt ((with_reducible refine' EvL.go ?xe9 ?_); (case xe9 => kaf_suf); k_whole); (try dsimp only [List.nil_append, List.cons_append]))
  k_with "eval Call" => (k_here; (with_reducible show wpAny _ _ (eval (Expr.Call (Expr.Name _ _) (_ :: _) [] _) _) _ _ _); k_dflt (refine' evCall ?xF9 ?xX9 ?xT9 ?xe9 ?xk9 ?xl9 ?_ ?xs9 ?xa9 ?xb9 ?xc9; (case xF9 => k_asm); (case xX9 => k_asm); (case xT9 => k_asm); (case xa9 => rfl); (case xb9 => rfl); (case xc9 => rfl); (case xe9 => k_is); (case xk9 => k_is); (case xl9 => kaf_suf); (case xs9 => rfl); k_whole))
  have hvl := hv.length
  unfold Ctr
  intro dp un gd cn cs a ccd cl outer A₀ base h₀ L m s Q E B F X N T hk hd hu hret
  refine wpAny_call ?_
  k_dflt ktr_enter; (refine letE ?_); intro e9; (refine letA ?_); intro A9; (rename Fr _ _ _ _ => F8); (refine letM F8 ?_); clear F8; intro m9 F9
  k_steps
  all_goals (
    refine hret _ _ _ _ (by assumption) (by assumption) ⟨_, _, _, rfl, ?_, ?_, rfl⟩
    · first | omega | exact Int.fmod_nonneg_of_pos _ hl
    · first | omega | exact Int.fmod_lt_of_pos _ hl)
/-- N's entries are none of R's -/
def Fresh (N R : Led) : Prop := ∀ p ∈ N, ∀ q ∈ R, @Ne Nat p.1 q.1
inductive LIn (R : Led) : List Value → List (Int × T) → Prop where
  | nil : LIn R [] []
  | cons {p n t tv x vs ls} : (p, tupO [.int n t, tv]) ∈ R → TIn R tv x → LIn R vs ls → LIn R (.ref p :: vs) ((n, x) :: ls)
theorem LIn.mono {R R' : Led} {vs ls} (h : LIn R vs ls) (hs : ∀ p ∈ R, p ∈ R') : LIn R' vs ls := by
  induction h with
  | nil => exact .nil
  | cons h1 h2 _ ih => exact .cons (hs _ h1) (h2.mono hs) ih
theorem LIn.snoc {R : Led} {vs ls} {p : Addr} {n : Int} {t tv x} (h : LIn R vs ls) (h1 : (p, tupO [.int n t, tv]) ∈ R) (h2 : TIn R tv x) : LIn R (vs ++ [.ref p]) (ls ++ [(n, x)]) := by
  induction h with
  | nil => exact .cons h1 h2 .nil
  | cons a b _ ih => exact .cons a b ih
theorem LIn.length {R : Led} {vs ls} (h : LIn R vs ls) : vs.length = ls.length := by
  induction h with
  | nil => rfl
  | cons _ _ _ ih => simp [ih]
theorem LIn.get {R : Led} {vs : List Value} {ls : List (Int × T)} (h : LIn R vs ls) : ∀ {i : Nat} {n : Int} {x : T}, ls[i]? = some (n, x) → ∃ p t tv, vs[i]? = some (Value.ref p) ∧ (p, tupO [.int n t, tv]) ∈ R ∧ TIn R tv x := by
  induction h with
  | nil => intro i n x h; simp at h
  | cons a b _ ih =>
    intro i n x h
    cases i with
    | zero => simp at h; obtain ⟨rfl, rfl⟩ := h; exact ⟨_, _, _, rfl, a, b⟩
    | succ i => simp only [List.getElem?_cons_succ] at h ⊢; exact ih h
/-- the label of a part, what waits, the count -/
def labT (x : T) (ls : List (Int × T)) (n : Int) : Int × List (Int × T) × Int :=
  match x with
  | .cl k => (k, ls, n)
  | .fail => (-1, ls, n)
  | t => (n + 1, ls ++ [(n + 1, t)], n + 1)
def LabPost (la c : Addr) (n : Int) (ls : List (Int × T)) (x : T) (R₀ R : Led) (news : Led) (r : Value) : Prop :=
  ∃ t tn' kl' kc' vs' N, r = .int (labT x ls n).1 t ∧ news = (la, listOf (List.toArray vs') kl') :: (c, listOf #[.int (labT x ls n).2.2 tn'] kc') :: (N ++ R) ∧ LIn (N ++ R₀) vs' (labT x ls n).2.1 ∧ Fresh N R ∧ (∀ p ∈ N, @Ne Nat p.1 la ∧ @Ne Nat p.1 c)
theorem perm3 {x a c : Addr × Obj} {R : Led} : ∀ p ∈ a :: c :: ([x] ++ R), p ∈ x :: a :: c :: R := by
  intro p hp
  simp only [List.mem_cons, List.cons_append, List.nil_append] at hp ⊢
  grind
theorem lab_old {la c : Addr} {n : Int} {tn : Tok} {vs : List Value} {ls : List (Int × T)} {kl kc : Nat} {x : T} {R₀ R : Led} {l : Int} {t : Tok} (hls : LIn R₀ vs ls) (e : labT x ls n = (l, ls, n)) :
    LabPost la c n ls x R₀ R ((la, listOf vs.toArray kl) :: (c, listOf #[.int n tn] kc) :: R) (.int l t) :=
  ⟨t, tn, kl, kc, vs, [], by rw [e], by rw [e]; rfl, by rw [e]; exact hls, (fun _ h => nomatch h), (fun _ h => nomatch h)⟩
theorem lab_new {la c D : Addr} {n : Int} {t0 tn t : Tok} {vs : List Value} {ls : List (Int × T)} {kl kc : Nat} {tv : Value} {x : T} {R₀ R : Led} (hls : LIn R₀ vs ls) (hx : TIn R₀ tv x) (e : labT x ls n = (n + 1, ls ++ [(n + 1, x)], n + 1))
    (h : la < D ∧ c < D ∧ AllLt D R) :
    LabPost la c n ls x R₀ R ((la, listOf (vs ++ [Value.ref D]).toArray kl) :: (c, listOf #[.int (n + 1) tn] kc) :: ([(D, tupO [.int (n + 1) t0, tv])] ++ R)) (.int (n + 1) t) :=
  ⟨t, tn, kl, kc, vs ++ [Value.ref D], [(D, tupO [.int (n + 1) t0, tv])], by rw [e], by rw [e], by
    rw [e]
    exact (hls.mono fun p hp => List.mem_append_right _ hp).snoc (List.mem_append_left _ (.head _)) (hx.mono fun p hp => List.mem_append_right _ hp),
   fun p hp q hq => by rw [List.mem_singleton.mp hp]; exact Nat.ne_of_gt (ktn_ltOf h.2.2 q hq), fun p hp => by rw [List.mem_singleton.mp hp]; exact ⟨Nat.ne_of_gt h.1, Nat.ne_of_gt h.2.1⟩⟩
theorem pick0 {v : Value} {l : List Value} : pickIt 0 (v :: l) = some v := by
  unfold pickIt seqIndex?
  simp
theorem lab_shape {R : Led} {v : Value} {x : T} (hx : TIn R v x) : (∃ a k t1 t2, v = .ref a ∧ x = .cl k ∧ (a, tupO [.str (Str.ofString "clause") t1, .int k t2]) ∈ R) ∨ (∃ a t1, v = .ref a ∧ x = .fail ∧ (a, tupO [.str (Str.ofString "fail") t1]) ∈ R) ∨
    ∃ a nm t1 l, v = .ref a ∧ (a, tupO (.str nm t1 :: l)) ∈ R ∧ (nm == Str.ofString "clause") = false ∧ (nm == Str.ofString "fail") = false ∧ ∀ ls n, labT x ls n = (n + 1, ls ++ [(n + 1, x)], n + 1) := by
  cases hx with
  | cl h => exact .inl ⟨_, _, _, _, rfl, rfl, h⟩
  | fail h => exact .inr (.inl ⟨_, _, rfl, rfl, h⟩)
  | ch2 h => exact .inr (.inr ⟨_, _, _, _, rfl, h, by decide, by decide, fun _ _ => rfl⟩)
  | ch3 h => exact .inr (.inr ⟨_, _, _, _, rfl, h, by decide, by decide, fun _ _ => rfl⟩)
  | sw h => exact .inr (.inr ⟨_, _, _, _, rfl, h, by decide, by decide, fun _ _ => rfl⟩)
  | tb0 h => exact .inr (.inr ⟨_, _, _, _, rfl, h, by decide, by decide, fun _ _ => rfl⟩)
  | tb1 h => exact .inr (.inr ⟨_, _, _, _, rfl, h, by decide, by decide, fun _ _ => rfl⟩)
  | tb2 h => exact .inr (.inr ⟨_, _, _, _, rfl, h, by decide, by decide, fun _ _ => rfl⟩)
set_option maxRecDepth 100000 in
set_option maxHeartbeats 8000000 in
theorem law_label (w : World) (mean : ExcName → Option Value) (mg mb : Str → Option Value) (la c : Addr) (n : Int) (tn : Tok) (vs : List Value) (ls : List (Int × T)) (kl kc : Nat) (tv : Value) (x : T) (R₀ R : Led)
   (hsub : ∀ p ∈ R₀, p ∈ R) (hls : LIn R₀ vs ls) (hx : TIn R₀ tv x) (hne : la ≠ c) (h1 : ∀ p ∈ R, p.1 ≠ la) (h2 : ∀ p ∈ R, p.1 ≠ c) (hl : vs.length ≤ 1000) :
   Ctr w mean mg mb 117 2 20 ((la, listOf vs.toArray kl) :: (c, listOf #[.int n tn] kc) :: R) [tv, .ref la, .ref c] (LabPost la c n ls x R₀ R) := by
  k_with_none
  k_with "kaf_pre" => first | (refine' evI ?pe9 ?pN9 ?pm9 ?px9; (case pe9 => kaf_pre); (case pN9 => k_asm); (case pm9 => k_mem); (case px9 => rfl)) | (refine' evL ?pF9 ?pv9 ?pa9 ?pb9 ?pc9; (case pF9 => k_asm); (case pa9 => rfl); (case pb9 => rfl); (case pc9 => rfl); (case pv9 => rfl)) | (refine' evC ?pN9 ?pl9 ?pm9 ?pd9 ?pa9 ?pb9 ?pc9; (case pa9 => rfl); (case pb9 => rfl); (case pc9 => rfl); (case pN9 => k_asm); (case pl9 => rfl); (case pm9 => k_mem); (case pd9 => k_asm)) | (refine' evK ?pF9 ?pX9 ?pT9 ?pe9 ?pa9 ?pb9 ?pc9; (case pF9 => k_asm); (case pX9 => k_asm); (case pT9 => k_asm); (case pa9 => rfl); (case pb9 => rfl); (case pc9 => rfl); (case pe9 => k_is))
  k_with "kaf_suf" => first | exact evl0 | (refine' evlI ?sl9; (case sl9 => kaf_suf)) | (refine' evlS ?sl9; (case sl9 => kaf_suf)) | (refine' evlN ?se9 ?sl9 ?sn9; (case sn9 => rfl); (case se9 => kaf_pre); (case sl9 => kaf_suf)) | (refine' evlE ?se9 ?sl9 ?sn9; (case sn9 => rfl); (case se9 => kaf_pre); (case sl9 => kaf_suf))
  k_with "kaf_pre" => (refine' evI ?pe9 ?pN9 ?pm9 pick0; (case pe9 => kaf_pre); (case pN9 => k_asm); (case pm9 => k_mem))
  k_with "k_all" => with_reducible assumption
  k_with "k_ne" => (refine neN ?_; (try dsimp only); first | with_reducible assumption | exact Ne.symm (by with_reducible assumption) | (refine Nat.ne_of_gt ((?_ : ChainTo _ _ _ _) (by with_reducible assumption)); intro hch; with_reducible (first | exact And.left hch | exact And.left (And.right hch) | exact And.left (And.right (And.right hch)) | exact And.left (And.right (And.right (And.right hch))) | exact And.left (And.right (And.right (And.right (And.right hch)))) | exact And.left (And.right (And.right (And.right (And.right (And.right hch))))) | exact And.left (And.right (And.right (And.right (And.right (And.right (And.right hch)))))) | exact And.left (And.right (And.right (And.right (And.right (And.right (And.right (And.right hch))))))) | exact And.left (And.right (And.right (And.right (And.right (And.right (And.right (And.right (And.right hch)))))))) | exact And.left (And.right (And.right (And.right (And.right (And.right (And.right (And.right (And.right (And.right hch))))))))) | exact And.left (And.right (And.right (And.right (And.right (And.right (And.right (And.right (And.right (And.right (And.right hch)))))))))) | exact And.left (And.right (And.right (And.right (And.right (And.right (And.right (And.right (And.right (And.right (And.right (And.right hch))))))))))) | exact And.left (And.right (And.right (And.right (And.right (And.right (And.right (And.right (And.right (And.right (And.right (And.right (And.right hch)))))))))))) | exact And.left (And.right (And.right (And.right (And.right (And.right (And.right (And.right (And.right (And.right (And.right (And.right (And.right (And.right hch))))))))))))))) | (refine Nat.ne_of_lt ((?_ : ChainTo _ _ _ _) (by with_reducible assumption)); intro hch; with_reducible (first | exact And.left hch | exact And.left (And.right hch) | exact And.left (And.right (And.right hch)) | exact And.left (And.right (And.right (And.right hch))) | exact And.left (And.right (And.right (And.right (And.right hch)))) | exact And.left (And.right (And.right (And.right (And.right (And.right hch))))) | exact And.left (And.right (And.right (And.right (And.right (And.right (And.right hch)))))) | exact And.left (And.right (And.right (And.right (And.right (And.right (And.right (And.right hch))))))) | exact And.left (And.right (And.right (And.right (And.right (And.right (And.right (And.right (And.right hch)))))))) | exact And.left (And.right (And.right (And.right (And.right (And.right (And.right (And.right (And.right (And.right hch))))))))) | exact And.left (And.right (And.right (And.right (And.right (And.right (And.right (And.right (And.right (And.right (And.right hch)))))))))) | exact And.left (And.right (And.right (And.right (And.right (And.right (And.right (And.right (And.right (And.right (And.right (And.right hch))))))))))) | exact And.left (And.right (And.right (And.right (And.right (And.right (And.right (And.right (And.right (And.right (And.right (And.right (And.right hch)))))))))))) | exact And.left (And.right (And.right (And.right (And.right (And.right (And.right (And.right (And.right (And.right (And.right (And.right (And.right (And.right hch))))))))))))))) | exact Nat.ne_of_gt (Nat.lt_succ_of_lt (And.left (by with_reducible assumption))) | exact Nat.ne_of_lt (Nat.lt_succ_of_lt (And.left (by with_reducible assumption))) | exact Nat.ne_of_gt (Nat.lt_succ_of_lt (And.left (And.right (by with_reducible assumption)))) | exact Nat.ne_of_lt (Nat.lt_succ_of_lt (And.left (And.right (by with_reducible assumption)))) | exact Nat.ne_of_gt (Nat.lt_succ_of_lt (And.left (And.right (And.right (by with_reducible assumption))))) | exact Nat.ne_of_lt (Nat.lt_succ_of_lt (And.left (And.right (And.right (by with_reducible assumption))))) | exact Nat.ne_of_gt (Nat.lt_succ_of_lt (Nat.lt_succ_of_lt (And.left (by with_reducible assumption)))) | exact Nat.ne_of_lt (Nat.lt_succ_of_lt (Nat.lt_succ_of_lt (And.left (by with_reducible assumption)))) | exact Nat.ne_of_gt (Nat.lt_succ_of_lt (Nat.lt_succ_of_lt (And.left (And.right (by with_reducible assumption))))) | exact Nat.ne_of_lt (Nat.lt_succ_of_lt (Nat.lt_succ_of_lt (And.left (And.right (by with_reducible assumption))))) | exact Nat.ne_of_gt (Nat.lt_succ_of_lt (Nat.lt_succ_of_lt (And.left (And.right (And.right (by with_reducible assumption)))))) | exact Nat.ne_of_lt (Nat.lt_succ_of_lt (Nat.lt_succ_of_lt (And.left (And.right (And.right (by with_reducible assumption)))))) | exact Nat.ne_of_gt (Nat.lt_succ_of_lt (Nat.lt_succ_of_lt (Nat.lt_succ_of_lt (And.left (by with_reducible assumption))))) | exact Nat.ne_of_lt (Nat.lt_succ_of_lt (Nat.lt_succ_of_lt (Nat.lt_succ_of_lt (And.left (by with_reducible assumption))))) | exact Nat.ne_of_gt (Nat.lt_succ_of_lt (Nat.lt_succ_of_lt (Nat.lt_succ_of_lt (And.left (And.right (by with_reducible assumption)))))) | exact Nat.ne_of_lt (Nat.lt_succ_of_lt (Nat.lt_succ_of_lt (Nat.lt_succ_of_lt (And.left (And.right (by with_reducible assumption)))))) | exact Nat.ne_of_gt (Nat.lt_succ_of_lt (Nat.lt_succ_of_lt (Nat.lt_succ_of_lt (And.left (And.right (And.right (by with_reducible assumption))))))) | exact Nat.ne_of_lt (Nat.lt_succ_of_lt (Nat.lt_succ_of_lt (Nat.lt_succ_of_lt (And.left (And.right (And.right (by with_reducible assumption))))))) | exact Nat.ne_of_gt (Nat.lt_succ_self _) | exact Nat.ne_of_lt (Nat.lt_succ_self _) | exact Nat.ne_of_gt (Nat.lt_succ_of_lt (Nat.lt_succ_self _)) | exact Nat.ne_of_lt (Nat.lt_succ_of_lt (Nat.lt_succ_self _)) | exact ((And.left (And.left (by with_reducible assumption))) : @Ne Nat _ _) | exact Ne.symm ((And.left (And.left (by with_reducible assumption))) : @Ne Nat _ _) | exact ((And.left (And.right (And.left (by with_reducible assumption)))) : @Ne Nat _ _) | exact Ne.symm ((And.left (And.right (And.left (by with_reducible assumption)))) : @Ne Nat _ _) | exact ((And.right (And.right (And.left (by with_reducible assumption)))) : @Ne Nat _ _) | exact Ne.symm ((And.right (And.right (And.left (by with_reducible assumption)))) : @Ne Nat _ _) | exact ((And.left (And.left (And.right (by with_reducible assumption)))) : @Ne Nat _ _) | exact Ne.symm ((And.left (And.left (And.right (by with_reducible assumption)))) : @Ne Nat _ _) | exact ((And.left (And.right (And.left (And.right (by with_reducible assumption))))) : @Ne Nat _ _) | exact Ne.symm ((And.left (And.right (And.left (And.right (by with_reducible assumption))))) : @Ne Nat _ _) | exact ((And.right (And.right (And.left (And.right (by with_reducible assumption))))) : @Ne Nat _ _) | exact Ne.symm ((And.right (And.right (And.left (And.right (by with_reducible assumption))))) : @Ne Nat _ _) | exact ((And.left (And.left (And.right (And.right (by with_reducible assumption))))) : @Ne Nat _ _) | exact Ne.symm ((And.left (And.left (And.right (And.right (by with_reducible assumption))))) : @Ne Nat _ _) | exact ((And.left (And.right (And.left (And.right (And.right (by with_reducible assumption)))))) : @Ne Nat _ _) | exact Ne.symm ((And.left (And.right (And.left (And.right (And.right (by with_reducible assumption)))))) : @Ne Nat _ _) | exact ((And.right (And.right (And.left (And.right (And.right (by with_reducible assumption)))))) : @Ne Nat _ _) | exact Ne.symm ((And.right (And.right (And.left (And.right (And.right (by with_reducible assumption)))))) : @Ne Nat _ _) | exact ((And.left (And.left (And.right (And.right (And.right (by with_reducible assumption)))))) : @Ne Nat _ _) | exact Ne.symm ((And.left (And.left (And.right (And.right (And.right (by with_reducible assumption)))))) : @Ne Nat _ _) | exact ((And.left (And.right (And.left (And.right (And.right (And.right (by with_reducible assumption))))))) : @Ne Nat _ _) | exact Ne.symm ((And.left (And.right (And.left (And.right (And.right (And.right (by with_reducible assumption))))))) : @Ne Nat _ _) | exact ((And.right (And.right (And.left (And.right (And.right (And.right (by with_reducible assumption))))))) : @Ne Nat _ _) | exact Ne.symm ((And.right (And.right (And.left (And.right (And.right (And.right (by with_reducible assumption))))))) : @Ne Nat _ _) | exact ((And.left (And.left (And.right (And.right (And.right (And.right (by with_reducible assumption))))))) : @Ne Nat _ _) | exact Ne.symm ((And.left (And.left (And.right (And.right (And.right (And.right (by with_reducible assumption))))))) : @Ne Nat _ _) | exact ((And.left (And.right (And.left (And.right (And.right (And.right (And.right (by with_reducible assumption)))))))) : @Ne Nat _ _) | exact Ne.symm ((And.left (And.right (And.left (And.right (And.right (And.right (And.right (by with_reducible assumption)))))))) : @Ne Nat _ _) | exact ((And.right (And.right (And.left (And.right (And.right (And.right (And.right (by with_reducible assumption)))))))) : @Ne Nat _ _) | exact Ne.symm ((And.right (And.right (And.left (And.right (And.right (And.right (And.right (by with_reducible assumption)))))))) : @Ne Nat _ _) | exact ((And.left (And.left (And.right (And.right (And.right (And.right (And.right (by with_reducible assumption)))))))) : @Ne Nat _ _) | exact Ne.symm ((And.left (And.left (And.right (And.right (And.right (And.right (And.right (by with_reducible assumption)))))))) : @Ne Nat _ _) | exact ((And.left (And.right (And.left (And.right (And.right (And.right (And.right (And.right (by with_reducible assumption))))))))) : @Ne Nat _ _) | exact Ne.symm ((And.left (And.right (And.left (And.right (And.right (And.right (And.right (And.right (by with_reducible assumption))))))))) : @Ne Nat _ _) | exact ((And.right (And.right (And.left (And.right (And.right (And.right (And.right (And.right (by with_reducible assumption))))))))) : @Ne Nat _ _) | exact Ne.symm ((And.right (And.right (And.left (And.right (And.right (And.right (And.right (And.right (by with_reducible assumption))))))))) : @Ne Nat _ _) | exact ((And.left (And.left (And.right (And.right (And.right (And.right (And.right (And.right (by with_reducible assumption))))))))) : @Ne Nat _ _) | exact Ne.symm ((And.left (And.left (And.right (And.right (And.right (And.right (And.right (And.right (by with_reducible assumption))))))))) : @Ne Nat _ _) | exact ((And.left (And.right (And.left (And.right (And.right (And.right (And.right (And.right (And.right (by with_reducible assumption)))))))))) : @Ne Nat _ _) | exact Ne.symm ((And.left (And.right (And.left (And.right (And.right (And.right (And.right (And.right (And.right (by with_reducible assumption)))))))))) : @Ne Nat _ _) | exact ((And.right (And.right (And.left (And.right (And.right (And.right (And.right (And.right (And.right (by with_reducible assumption)))))))))) : @Ne Nat _ _) | exact Ne.symm ((And.right (And.right (And.left (And.right (And.right (And.right (And.right (And.right (And.right (by with_reducible assumption)))))))))) : @Ne Nat _ _) | omega)
  k_with "ktr_room" => ((try simp only [depth_under_make, depth_under_kw, depth_in1, depth_deeper, depth_caller]); (try dsimp only [ktrTop]); first | exact Nat.lt_of_le_of_lt (Nat.le_add_right _ _) (by with_reducible assumption) | exact roomStep (by with_reducible assumption) (by first | exact Nat.le_refl _ | decide | exact r2 _ | omega) | fail "room")
  k_with "ktr_units" => ((try simp only [units_in1, units_deeper, Around.mark_units, units_caller]); (try dsimp only [ktrTop]); first | exact unitStep (by with_reducible assumption) (by first | exact Nat.le_refl _ | decide | exact u20 _ | exact u40 _ | omega) | fail "units")
  k_with "k_mem" => assumption
  k_with "size_fits" => (simp only [List.size_toArray, Array.size_push, List.length_append, List.length_cons, List.length_nil, PySem.sizeLine_eq]; omega)
  k_with "exec If" => (k_here; k_fold)
  k_with "exec Assign" => (k_here; k_fold)
  k_with "exec Expr" => (k_here; k_fold)
  k_with "exec Return some" => (k_here; k_fold)
  k_with "execs cons" => (k_here; first | k_fold | ((with_reducible refine execsG ?_); intro t9; (try dsimp only)))
  k_with "execs nil" => (k_here; (with_reducible refine wpAny_execs_nil ?_); (try dsimp only))
  k_with "exec If" => (k_here; k_dflt (first | ((with_reducible refine' ifT ?xe9 ?xb9 ?_); (case xe9 => kaf_pre); (case xb9 => decide); k_whole) | ((with_reducible refine' ifF ?xe9 ?xb9 ?_); (case xe9 => kaf_pre); (case xb9 => first | with_reducible assumption | decide); k_whole)))
  k_with "isTrue Compare" => (k_here; k_dflt (first | ((with_reducible refine' isT ?xe9 ?xb9 ?_); (case xe9 => kaf_pre); (case xb9 => decide); k_whole) | ((with_reducible refine' isF ?xe9 ?xb9 ?_); (case xe9 => kaf_pre); (case xb9 => decide); k_whole) | ((with_reducible refine' isI ?xe9 ?_); (case xe9 => kaf_pre); k_whole) | ((with_reducible refine' isIl ?xe9 ?_); (case xe9 => kaf_pre); k_whole) | ((with_reducible refine' isIg ?xe9 ?_); (case xe9 => kaf_pre); k_whole)))
  k_with "eval Subscript" => (k_here; k_dflt ((with_reducible refine' Ev.go ?xe9 ?_); (case xe9 => kaf_pre); k_whole))
  k_with "spliced" => (k_here; k_dflt ((with_reducible refine' EvL.go ?xe9 ?_); (case xe9 => kaf_suf); k_whole); (try dsimp only [List.nil_append, List.cons_append]))
  k_with "eval Call" => (k_here; (with_reducible show wpAny _ _ (eval (Expr.Call (Expr.Name _ _) (_ :: _) [] _) _) _ _ _); k_dflt (refine' evCall ?xF9 ?xX9 ?xT9 ?xe9 ?xk9 ?xl9 ?_ ?xs9 ?xa9 ?xb9 ?xc9; (case xF9 => k_asm); (case xX9 => k_asm); (case xT9 => k_asm); (case xa9 => rfl); (case xb9 => rfl); (case xc9 => rfl); (case xe9 => k_is); (case xk9 => k_is); (case xl9 => kaf_suf); (case xs9 => rfl); k_whole))
  have hne0 := neN hne
  have hx0 := hx
  have hx1 := hx.mono hsub
  clear hx
  obtain ⟨a9, k9, u1, u2, rfl, rfl, h9⟩ | ⟨a9, u1, rfl, rfl, h9⟩ | ⟨a9, nm, u1, l9, rfl, h9, hq1, hq2, hlab⟩ := lab_shape hx1
  all_goals (
    clear hx1
    unfold Ctr
    intro dp un gd cn cs a ccd cl outer A₀ base h₀ L m s Q E B F X N T hk hd hu hret
    refine wpAny_call ?_
    k_dflt ktr_enter; (refine letE ?_); intro e9; (refine letA ?_); intro A9; (rename Fr _ _ _ _ => F8); (refine letM F8 ?_); clear F8; intro m9 F9
    k_steps)
  · exact hret _ _ _ _ (by assumption) (by assumption) (lab_old hls rfl)
  · exact hret _ _ _ _ (by assumption) (by assumption) (lab_old hls rfl)
  · rename Fr _ _ _ _ => kF
    rename News _ _ _ _ => kN
    simp only [List.push_toArray] at kN
    exact hret _ _ _ _ kF (newsSub kN perm3) (lab_new hls hx0 (hlab _ _) (by assumption))
def T.ht : T → Nat
  | .cl _ => 0
  | .fail => 0
  | .ch2 a b => max a.ht b.ht + 1
  | .ch3 a b c => max (max a.ht b.ht) c.ht + 1
  | .sw a b c d => max (max a.ht b.ht) (max c.ht d.ht) + 1
  | .tb0 _ d => d.ht + 1
  | .tb1 _ a d => max a.ht d.ht + 1
  | .tb2 _ a b d => max (max a.ht b.ht) d.ht + 1
/-- how many clauses at most stand in it -/
def T.cnt : T → Nat
  | .cl _ => 1
  | .fail => 1
  | .ch2 a b => a.cnt + b.cnt + 1
  | .ch3 a b c => a.cnt + b.cnt + c.cnt + 1
  | .sw a b c d => a.cnt + b.cnt + c.cnt + d.cnt + 1
  | .tb0 _ d => d.cnt + 1
  | .tb1 _ a d => a.cnt + d.cnt + 1
  | .tb2 _ a b d => a.cnt + b.cnt + d.cnt + 1
/-- the own reading -/
def readT (k : Wh) (num : Int) : T → List Int
  | .cl n => [n]
  | .fail => []
  | .ch2 a b => readT k num a ++ readT k num b
  | .ch3 a b c => (readT k num a ++ readT k num b) ++ readT k num c
  | .sw a b c d => match k with
    | .var => readT k num a
    | .con => readT k num b
    | .lst => readT k num c
    | _ => readT k num d
  | .tb0 _ d => readT k num d
  | .tb1 _ a d => if 3 = num then readT k num a else readT k num d
  | .tb2 _ a b d => if 3 = num then readT k num a else if 5 = num then readT k num b else readT k num d
theorem addL {a x : Nat} (y : Nat) (h : a ≤ x) : a ≤ x + y := Nat.le_trans h (Nat.le_add_right _ _)
theorem addR {a y : Nat} (x : Nat) (h : a ≤ y) : a ≤ x + y := Nat.le_trans h (Nat.le_add_left _ _)
theorem mxs {a b x y : Nat} (h : a ≤ x) (k : b ≤ y) : max a b ≤ x + y := Nat.max_le.mpr ⟨addL y h, addR x k⟩
theorem readT_le (k : Wh) (num : Int) (x : T) : (readT k num x).length ≤ x.cnt := by
  induction x with
  | cl n => exact Nat.le_refl _
  | fail => exact Nat.zero_le _
  | ch2 a b ia ib => exact Nat.le_trans (Nat.le_of_eq List.length_append) (addL 1 (Nat.add_le_add ia ib))
  | ch3 a b c ia ib ic => exact Nat.le_trans (Nat.le_of_eq List.length_append) (addL 1 (Nat.add_le_add (Nat.le_trans (Nat.le_of_eq List.length_append) (Nat.add_le_add ia ib)) ic))
  | sw a b c d ia ib ic id =>
    cases k with
    | var => exact addL 1 (addL _ (addL _ (addL _ ia)))
    | con => exact addL 1 (addL _ (addL _ (addR _ ib)))
    | lst => exact addL 1 (addL _ (addR _ ic))
    | any => exact addL 1 (addR _ id)
    | str => exact addL 1 (addR _ id)
  | tb0 _ d id => exact addL 1 id
  | tb1 _ a d ia id =>
    show (if 3 = num then readT k num a else readT k num d).length ≤ _
    split
    · exact addL 1 (addL _ ia)
    · exact addL 1 (addR _ id)
  | tb2 _ a b d ia ib id =>
    show (if 3 = num then readT k num a else if 5 = num then readT k num b else readT k num d).length ≤ _
    split
    · exact addL 1 (addL _ (addL _ ia))
    · split
      · exact addL 1 (addL _ (addR _ ib))
      · exact addL 1 (addR _ id)
def ReadPost (R : Led) (ns : List Int) (news : Led) (r : Value) : Prop :=
  ∃ l vs N, r = .ref l ∧ news = N ++ R ∧ (l, listOf (List.toArray vs) 0) ∈ N ∧ IntsAre vs ns ∧ Fresh N R
def ReadOK (w : World) (mean : ExcName → Option Value) (mg mb : Str → Option Value) (k : Wh) (num : Int) (x : T) : Prop :=
  ∀ (R : Led) (v : Value) (tk tn : Tok), TIn R v x → x.cnt ≤ 1000 → Ctr w mean mg mb 110 (x.ht + 2) (8 * x.ht + 20) R [v, .str (Str.ofString k.name) tk, .int num tn] (ReadPost R (readT k num x))
section
variable {w : World} {mean : ExcName → Option Value} {mg mb : Str → Option Value}
theorem readUse {k : Wh} {num : Int} {x : T} {R₀ R : Led} {v : Value} {tk tn : Tok} {dp un : Nat} {gd : Option (List Code)} {cn : Str} {cs : Scope} {a : Addr} {ccd : Value} {cl : List (Str × Addr)} {outer : List Env} {A₀ : Around} {base h₀ : Heap} {L : Addr} {m : Str → Option Value} {s : Shared}
    {Q E : Value → Shared → Prop} (C : ReadOK w mean mg mb k num x) (hv : TIn R₀ v x) (hs : ∀ p ∈ R₀, p ∈ R) (hc : x.cnt ≤ 1000) (B : Below A₀ base outer h₀) (F : Fr h₀ L s.heap m) (X : (Mine.hd.heap_39 w.params).In h₀) (N : News h₀ L s.heap R)
    (T : Top Mine.hd.view_39 (looseW Mine.hd.view_39 [Str.ofString "LinkFault"]) mean mg mb h₀) (hk : cs.kind = .function) (hd : dp + (x.ht + 2) < recursionLimit) (hu : un + (8 * x.ht + 20) < cLine)
    (ret : ∀ l vs N' h' tk', Fr h₀ L h' m → News h₀ L h' (N' ++ R) → (l, listOf (List.toArray vs) 0) ∈ N' → IntsAre vs (readT k num x) → Fresh N' R → Q (.ref l) { s with heap := h', toks := tk' }) :
    wpAny (model Mine.pw w) (ktrTop dp un gd cn cs L a ccd cl outer) (call (.ref 110) [v, .str (Str.ofString k.name) tk, .int num tn]) Q E s :=
  Ctr.use (C R v tk tn (hv.mono hs) hc) B F X N T hk hd hu fun r news' h' tk' F' N' ⟨l, vs, N, e1, e2, h1, h2, h3⟩ => by subst e1 e2; exact ret l vs N h' tk' F' N' h1 h2 h3
end
theorem unrKeep {h₀ : Heap} {L I : Addr} {it : Obj} {rest : (Str → Option Value) → Led → Prop} {s₁ : Shared} {h' : Heap} {tk : Nat} {m' : Str → Option Value} {e : Addr × Obj} {all R : Led} (F : Fr h₀ L h' m') (N : News h₀ L h' (e :: all))
    (hI : (I, it) ∈ all) (hR : ∀ p ∈ R, p ∈ all) (he : ∀ p ∈ all, p.1 < e.1) (hlt : ∀ p ∈ R, p.1 < I) (hr : rest m' (e :: R)) : UnrEnd h₀ L s₁ I it rest { s₁ with heap := h', toks := tk } :=
  UnrEnd.intro F N (e :: R) (fun p hp => by
    rcases List.mem_cons.mp hp with rfl | hp
    · exact .tail _ hI
    · rcases List.mem_cons.mp hp with rfl | hp
      · exact .head _
      · exact .tail _ (hR p hp))
   (fun p hp => by
    rcases List.mem_cons.mp hp with rfl | hp
    · exact Nat.ne_of_gt (he _ hI)
    · exact Nat.ne_of_lt (hlt p hp)) hr
theorem unrKeepW {h₀ : Heap} {L I : Addr} {it : Obj} {rest : (Str → Option Value) → Led → Prop} {s₁ : Shared} {h' : Heap} {tk : Nat} {m' : Str → Option Value} {all R : Led} (F : Fr h₀ L h' m') (N : News h₀ L h' all)
    (hI : (I, it) ∈ all) (hR : ∀ p ∈ R, p ∈ all) (hlt : ∀ p ∈ R, p.1 < I) (hr : rest m' R) : UnrEndW h₀ L s₁ [(I, it)] rest { s₁ with heap := h', toks := tk } :=
  ⟨h', tk, m', R, rfl, F, fun p hp => by
    rcases List.mem_cons.mp hp with rfl | hp
    · exact N _ hI
    · exact N _ (hR p hp), fun p hp q hq => by rw [List.mem_singleton.mp hq]; exact Nat.ne_of_lt (hlt p hp), hr⟩
@[reducible] def Wh.ix : Wh → Nat
  | .any => 0 | .var => 0 | .con => 1 | .lst => 2 | .str => 3
@[reducible] def Wh.ixI : Wh → Int
  | .any => 0 | .var => 0 | .con => 1 | .lst => 2 | .str => 3
theorem Wh.ixI_eq (k : Wh) : ((Wh.ix k : Nat) : Int) = Wh.ixI k := by cases k <;> rfl
def isStr (k : Str) : Value → Bool
  | .str i _ => decide (i = k)
  | _ => false
theorem isStr_eq {k a : Str} {t u : Tok} : MeetsSeq.EqGives (.str a u) (.str k t) (isStr k (.str a u)) := fun _ _ _ _ _ _ h => wpAny_eqBool_str h
section
variable {prog : Program} {w : World} {A : Around} {E : Value → Shared → Prop} {s : Shared} {h₀ h : Heap} {L D : Addr} {m : Str → Option Value} {news : Led}
theorem kindIndex {k : Wh} {t t1 t2 t3 t4 : Tok} {n : Nat} {Q : Value → Shared → Prop} (hk0 : k ≠ .any) (N : News h₀ L s.heap news)
    (hm : (D, listOf #[.str (Str.ofString "var") t1, .str (Str.ofString "const") t2, .str (Str.ofString "list") t3, .str (Str.ofString "struct") t4] n) ∈ news)
    (h : Q (.int (Wh.ixI k) s.toks) { s with toks := s.toks + 1 }) : wpAny (model prog w) A (call (.builtin "list.index") [.ref D, .str (Str.ofString k.name) t]) Q E s := by
  rw [← Wh.ixI_eq] at h
  refine call_meets PySem.F.slot_list_index ⟨_, (N _ hm).1, rfl⟩ PySem.F.entry_list_index (PySem.F.args_list_index_2 _ _)
    (MeetsSeq.list_index D _ n (.str (Str.ofString k.name) t) (isStr (Str.ofString k.name)) ?_ (Wh.ix k) ?_ ?_ ?_ ?_) ⟨(N _ hm).1, h⟩
  · intro y hy
    simp only [List.mem_toArray, List.mem_cons, List.not_mem_nil, or_false] at hy
    rcases hy with rfl | rfl | rfl | rfl <;> exact isStr_eq
  · show Wh.ix k < 4
    cases k <;> decide
  · cases k <;> decide
  · cases k
    · exact absurd rfl hk0
    · show decide (Str.ofString "var" = Str.ofString "var") = true; decide
    · show decide (Str.ofString "const" = Str.ofString "const") = true; decide
    · show decide (Str.ofString "list" = Str.ofString "list") = true; decide
    · show decide (Str.ofString "struct" = Str.ofString "struct") = true; decide
  · intro i hi hlt
    cases k
    · exact absurd rfl hk0
    · exact absurd hlt (Nat.not_lt_zero _)
    · match i, (show i < 1 from hlt) with
      | 0, _ => show decide (Str.ofString "var" = Str.ofString "const") = false; decide
    · match i, (show i < 2 from hlt) with
      | 0, _ => show decide (Str.ofString "var" = Str.ofString "list") = false; decide
      | 1, _ => show decide (Str.ofString "const" = Str.ofString "list") = false; decide
    · match i, (show i < 3 from hlt) with
      | 0, _ => show decide (Str.ofString "var" = Str.ofString "struct") = false; decide
      | 1, _ => show decide (Str.ofString "const" = Str.ofString "struct") = false; decide
      | 2, _ => show decide (Str.ofString "list" = Str.ofString "struct") = false; decide
theorem litItem {value slice : PySem.Expr} {l : Addr} {its : Array Value} {n : Nat} {k : Int} {u : Tok} {v : Value} {Q : Value → Shared → Prop}
    (N : News h₀ L s.heap news) (hm : (l, listOf its n) ∈ news) (h0 : 0 ≤ k) (hhi : k < 2 ^ 63) (hx : its[k.toNat]? = some v) (h : Q v s)
    (hs : subscripted slice false (.ref l) (.int k u) = operate [.ref l, .int k u] (getItem (.ref l) (.int k u)) := by with_unfolding_all rfl) :
    wpAny (model prog w) A (subscriptTail value slice (.ref l) (.int k u)) Q E s :=
  item_litK (PySem.IsL.isList (n := n) (N _ hm).1) h0 hhi (v := v) (by simpa using hx) h hs
end
theorem htR {x m : Nat} (h : x ≤ m) : x + 2 ≤ m + 2 := Nat.add_le_add_right h 2
theorem htU {x m : Nat} (h : x ≤ m) : 8 * x + 20 ≤ 8 * (m + 1) + 17 := by omega
theorem mxL {x m n : Nat} (h : x ≤ m) : x ≤ max m n := Nat.le_trans h (Nat.le_max_left _ _)
theorem mxR {x m n : Nat} (h : x ≤ n) : x ≤ max m n := Nat.le_trans h (Nat.le_max_right _ _)
theorem read_sub {R R' N : Led} {ns ns' : List Int} {l : Addr} {vs : List Value} (hm : (l, listOf vs.toArray 0) ∈ N) (hi : IntsAre vs ns') (e : ns = ns') (hf : Fresh N R') (hs : ∀ p ∈ R, p ∈ R') : ReadPost R ns (N ++ R) (.ref l) :=
  ⟨l, vs, N, rfl, rfl, hm, e ▸ hi, fun p hp q hq => hf p hp q (hs q hq)⟩
theorem app_sub {R R' N : Led} (hs : ∀ p ∈ R, p ∈ R') : ∀ p ∈ N ++ R, p ∈ N ++ R' := fun p hp => (List.mem_append.mp hp).elim (fun h => List.mem_append_left _ h) fun h => List.mem_append_right _ (hs p h)
theorem read_post {R : Led} {ns : List Int} {D : Addr} {vs : List Value} (hi : IntsAre vs ns) (h : ∀ p ∈ R, p.1 < D) : ReadPost R ns ((D, listOf vs.toArray 0) :: R) (.ref D) :=
  ⟨D, vs, [(D, listOf vs.toArray 0)], rfl, rfl, .head _, hi, fun p hp q hq => by rw [List.mem_singleton.mp hp]; exact Nat.ne_of_gt (h q hq)⟩
set_option maxRecDepth 100000 in
set_option maxHeartbeats 8000000 in
theorem law_read (w : World) (mean : ExcName → Option Value) (mg mb : Str → Option Value) (k : Wh) (hk0 : k ≠ .any) (num : Int) (x : T) : ReadOK w mean mg mb k num x := by
  k_with_none
  k_with "kaf_pre" => first | (refine' evI ?pe9 ?pN9 ?pm9 ?px9; (case pe9 => kaf_pre); (case pN9 => k_asm); (case pm9 => k_mem); (case px9 => rfl)) | (refine' evL ?pF9 ?pv9 ?pa9 ?pb9 ?pc9; (case pF9 => k_asm); (case pa9 => rfl); (case pb9 => rfl); (case pc9 => rfl); (case pv9 => rfl)) | (refine' evC ?pN9 ?pl9 ?pm9 ?pd9 ?pa9 ?pb9 ?pc9; (case pa9 => rfl); (case pb9 => rfl); (case pc9 => rfl); (case pN9 => k_asm); (case pl9 => rfl); (case pm9 => k_mem); (case pd9 => k_asm)) | (refine' evK ?pF9 ?pX9 ?pT9 ?pe9 ?pa9 ?pb9 ?pc9; (case pF9 => k_asm); (case pX9 => k_asm); (case pT9 => k_asm); (case pa9 => rfl); (case pb9 => rfl); (case pc9 => rfl); (case pe9 => k_is))
  k_with "kaf_suf" => first | exact evl0 | (refine' evlI ?sl9; (case sl9 => kaf_suf)) | (refine' evlS ?sl9; (case sl9 => kaf_suf)) | (refine' evlN ?se9 ?sl9 ?sn9; (case sn9 => rfl); (case se9 => kaf_pre); (case sl9 => kaf_suf)) | (refine' evlE ?se9 ?sl9 ?sn9; (case sn9 => rfl); (case se9 => kaf_pre); (case sl9 => kaf_suf))
  k_with "k_all" => with_reducible assumption
  k_with "k_ne" => (refine neN ?_; (try dsimp only); first | with_reducible assumption | exact Ne.symm (by with_reducible assumption) | (refine Nat.ne_of_gt ((?_ : ChainTo _ _ _ _) (by with_reducible assumption)); intro hch; with_reducible (first | exact And.left hch | exact And.left (And.right hch) | exact And.left (And.right (And.right hch)) | exact And.left (And.right (And.right (And.right hch))) | exact And.left (And.right (And.right (And.right (And.right hch)))) | exact And.left (And.right (And.right (And.right (And.right (And.right hch))))) | exact And.left (And.right (And.right (And.right (And.right (And.right (And.right hch)))))) | exact And.left (And.right (And.right (And.right (And.right (And.right (And.right (And.right hch))))))) | exact And.left (And.right (And.right (And.right (And.right (And.right (And.right (And.right (And.right hch)))))))) | exact And.left (And.right (And.right (And.right (And.right (And.right (And.right (And.right (And.right (And.right hch))))))))) | exact And.left (And.right (And.right (And.right (And.right (And.right (And.right (And.right (And.right (And.right (And.right hch)))))))))) | exact And.left (And.right (And.right (And.right (And.right (And.right (And.right (And.right (And.right (And.right (And.right (And.right hch))))))))))) | exact And.left (And.right (And.right (And.right (And.right (And.right (And.right (And.right (And.right (And.right (And.right (And.right (And.right hch)))))))))))) | exact And.left (And.right (And.right (And.right (And.right (And.right (And.right (And.right (And.right (And.right (And.right (And.right (And.right (And.right hch))))))))))))))) | (refine Nat.ne_of_lt ((?_ : ChainTo _ _ _ _) (by with_reducible assumption)); intro hch; with_reducible (first | exact And.left hch | exact And.left (And.right hch) | exact And.left (And.right (And.right hch)) | exact And.left (And.right (And.right (And.right hch))) | exact And.left (And.right (And.right (And.right (And.right hch)))) | exact And.left (And.right (And.right (And.right (And.right (And.right hch))))) | exact And.left (And.right (And.right (And.right (And.right (And.right (And.right hch)))))) | exact And.left (And.right (And.right (And.right (And.right (And.right (And.right (And.right hch))))))) | exact And.left (And.right (And.right (And.right (And.right (And.right (And.right (And.right (And.right hch)))))))) | exact And.left (And.right (And.right (And.right (And.right (And.right (And.right (And.right (And.right (And.right hch))))))))) | exact And.left (And.right (And.right (And.right (And.right (And.right (And.right (And.right (And.right (And.right (And.right hch)))))))))) | exact And.left (And.right (And.right (And.right (And.right (And.right (And.right (And.right (And.right (And.right (And.right (And.right hch))))))))))) | exact And.left (And.right (And.right (And.right (And.right (And.right (And.right (And.right (And.right (And.right (And.right (And.right (And.right hch)))))))))))) | exact And.left (And.right (And.right (And.right (And.right (And.right (And.right (And.right (And.right (And.right (And.right (And.right (And.right (And.right hch))))))))))))))) | exact Nat.ne_of_gt (Nat.lt_succ_of_lt (And.left (by with_reducible assumption))) | exact Nat.ne_of_lt (Nat.lt_succ_of_lt (And.left (by with_reducible assumption))) | exact Nat.ne_of_gt (Nat.lt_succ_of_lt (And.left (And.right (by with_reducible assumption)))) | exact Nat.ne_of_lt (Nat.lt_succ_of_lt (And.left (And.right (by with_reducible assumption)))) | exact Nat.ne_of_gt (Nat.lt_succ_of_lt (And.left (And.right (And.right (by with_reducible assumption))))) | exact Nat.ne_of_lt (Nat.lt_succ_of_lt (And.left (And.right (And.right (by with_reducible assumption))))) | exact Nat.ne_of_gt (Nat.lt_succ_of_lt (Nat.lt_succ_of_lt (And.left (by with_reducible assumption)))) | exact Nat.ne_of_lt (Nat.lt_succ_of_lt (Nat.lt_succ_of_lt (And.left (by with_reducible assumption)))) | exact Nat.ne_of_gt (Nat.lt_succ_of_lt (Nat.lt_succ_of_lt (And.left (And.right (by with_reducible assumption))))) | exact Nat.ne_of_lt (Nat.lt_succ_of_lt (Nat.lt_succ_of_lt (And.left (And.right (by with_reducible assumption))))) | exact Nat.ne_of_gt (Nat.lt_succ_of_lt (Nat.lt_succ_of_lt (And.left (And.right (And.right (by with_reducible assumption)))))) | exact Nat.ne_of_lt (Nat.lt_succ_of_lt (Nat.lt_succ_of_lt (And.left (And.right (And.right (by with_reducible assumption)))))) | exact Nat.ne_of_gt (Nat.lt_succ_of_lt (Nat.lt_succ_of_lt (Nat.lt_succ_of_lt (And.left (by with_reducible assumption))))) | exact Nat.ne_of_lt (Nat.lt_succ_of_lt (Nat.lt_succ_of_lt (Nat.lt_succ_of_lt (And.left (by with_reducible assumption))))) | exact Nat.ne_of_gt (Nat.lt_succ_of_lt (Nat.lt_succ_of_lt (Nat.lt_succ_of_lt (And.left (And.right (by with_reducible assumption)))))) | exact Nat.ne_of_lt (Nat.lt_succ_of_lt (Nat.lt_succ_of_lt (Nat.lt_succ_of_lt (And.left (And.right (by with_reducible assumption)))))) | exact Nat.ne_of_gt (Nat.lt_succ_of_lt (Nat.lt_succ_of_lt (Nat.lt_succ_of_lt (And.left (And.right (And.right (by with_reducible assumption))))))) | exact Nat.ne_of_lt (Nat.lt_succ_of_lt (Nat.lt_succ_of_lt (Nat.lt_succ_of_lt (And.left (And.right (And.right (by with_reducible assumption))))))) | exact Nat.ne_of_gt (Nat.lt_succ_self _) | exact Nat.ne_of_lt (Nat.lt_succ_self _) | exact Nat.ne_of_gt (Nat.lt_succ_of_lt (Nat.lt_succ_self _)) | exact Nat.ne_of_lt (Nat.lt_succ_of_lt (Nat.lt_succ_self _)) | exact ((And.left (And.left (by with_reducible assumption))) : @Ne Nat _ _) | exact Ne.symm ((And.left (And.left (by with_reducible assumption))) : @Ne Nat _ _) | exact ((And.left (And.right (And.left (by with_reducible assumption)))) : @Ne Nat _ _) | exact Ne.symm ((And.left (And.right (And.left (by with_reducible assumption)))) : @Ne Nat _ _) | exact ((And.right (And.right (And.left (by with_reducible assumption)))) : @Ne Nat _ _) | exact Ne.symm ((And.right (And.right (And.left (by with_reducible assumption)))) : @Ne Nat _ _) | exact ((And.left (And.left (And.right (by with_reducible assumption)))) : @Ne Nat _ _) | exact Ne.symm ((And.left (And.left (And.right (by with_reducible assumption)))) : @Ne Nat _ _) | exact ((And.left (And.right (And.left (And.right (by with_reducible assumption))))) : @Ne Nat _ _) | exact Ne.symm ((And.left (And.right (And.left (And.right (by with_reducible assumption))))) : @Ne Nat _ _) | exact ((And.right (And.right (And.left (And.right (by with_reducible assumption))))) : @Ne Nat _ _) | exact Ne.symm ((And.right (And.right (And.left (And.right (by with_reducible assumption))))) : @Ne Nat _ _) | exact ((And.left (And.left (And.right (And.right (by with_reducible assumption))))) : @Ne Nat _ _) | exact Ne.symm ((And.left (And.left (And.right (And.right (by with_reducible assumption))))) : @Ne Nat _ _) | exact ((And.left (And.right (And.left (And.right (And.right (by with_reducible assumption)))))) : @Ne Nat _ _) | exact Ne.symm ((And.left (And.right (And.left (And.right (And.right (by with_reducible assumption)))))) : @Ne Nat _ _) | exact ((And.right (And.right (And.left (And.right (And.right (by with_reducible assumption)))))) : @Ne Nat _ _) | exact Ne.symm ((And.right (And.right (And.left (And.right (And.right (by with_reducible assumption)))))) : @Ne Nat _ _) | exact ((And.left (And.left (And.right (And.right (And.right (by with_reducible assumption)))))) : @Ne Nat _ _) | exact Ne.symm ((And.left (And.left (And.right (And.right (And.right (by with_reducible assumption)))))) : @Ne Nat _ _) | exact ((And.left (And.right (And.left (And.right (And.right (And.right (by with_reducible assumption))))))) : @Ne Nat _ _) | exact Ne.symm ((And.left (And.right (And.left (And.right (And.right (And.right (by with_reducible assumption))))))) : @Ne Nat _ _) | exact ((And.right (And.right (And.left (And.right (And.right (And.right (by with_reducible assumption))))))) : @Ne Nat _ _) | exact Ne.symm ((And.right (And.right (And.left (And.right (And.right (And.right (by with_reducible assumption))))))) : @Ne Nat _ _) | exact ((And.left (And.left (And.right (And.right (And.right (And.right (by with_reducible assumption))))))) : @Ne Nat _ _) | exact Ne.symm ((And.left (And.left (And.right (And.right (And.right (And.right (by with_reducible assumption))))))) : @Ne Nat _ _) | exact ((And.left (And.right (And.left (And.right (And.right (And.right (And.right (by with_reducible assumption)))))))) : @Ne Nat _ _) | exact Ne.symm ((And.left (And.right (And.left (And.right (And.right (And.right (And.right (by with_reducible assumption)))))))) : @Ne Nat _ _) | exact ((And.right (And.right (And.left (And.right (And.right (And.right (And.right (by with_reducible assumption)))))))) : @Ne Nat _ _) | exact Ne.symm ((And.right (And.right (And.left (And.right (And.right (And.right (And.right (by with_reducible assumption)))))))) : @Ne Nat _ _) | exact ((And.left (And.left (And.right (And.right (And.right (And.right (And.right (by with_reducible assumption)))))))) : @Ne Nat _ _) | exact Ne.symm ((And.left (And.left (And.right (And.right (And.right (And.right (And.right (by with_reducible assumption)))))))) : @Ne Nat _ _) | exact ((And.left (And.right (And.left (And.right (And.right (And.right (And.right (And.right (by with_reducible assumption))))))))) : @Ne Nat _ _) | exact Ne.symm ((And.left (And.right (And.left (And.right (And.right (And.right (And.right (And.right (by with_reducible assumption))))))))) : @Ne Nat _ _) | exact ((And.right (And.right (And.left (And.right (And.right (And.right (And.right (And.right (by with_reducible assumption))))))))) : @Ne Nat _ _) | exact Ne.symm ((And.right (And.right (And.left (And.right (And.right (And.right (And.right (And.right (by with_reducible assumption))))))))) : @Ne Nat _ _) | exact ((And.left (And.left (And.right (And.right (And.right (And.right (And.right (And.right (by with_reducible assumption))))))))) : @Ne Nat _ _) | exact Ne.symm ((And.left (And.left (And.right (And.right (And.right (And.right (And.right (And.right (by with_reducible assumption))))))))) : @Ne Nat _ _) | exact ((And.left (And.right (And.left (And.right (And.right (And.right (And.right (And.right (And.right (by with_reducible assumption)))))))))) : @Ne Nat _ _) | exact Ne.symm ((And.left (And.right (And.left (And.right (And.right (And.right (And.right (And.right (And.right (by with_reducible assumption)))))))))) : @Ne Nat _ _) | exact ((And.right (And.right (And.left (And.right (And.right (And.right (And.right (And.right (And.right (by with_reducible assumption)))))))))) : @Ne Nat _ _) | exact Ne.symm ((And.right (And.right (And.left (And.right (And.right (And.right (And.right (And.right (And.right (by with_reducible assumption)))))))))) : @Ne Nat _ _) | omega)
  k_with "ktr_room" => ((try simp only [depth_under_make, depth_under_kw, depth_in1, depth_deeper, depth_caller]); (try dsimp only [ktrTop]); first | exact Nat.lt_of_le_of_lt (Nat.le_add_right _ _) (by with_reducible assumption) | exact roomStep (by with_reducible assumption) (by first | exact Nat.le_refl _ | decide | exact r2 _ | exact htR (by first | exact Nat.le_max_left _ _ | exact Nat.le_max_right _ _ | exact mxL (Nat.le_max_left _ _) | exact mxL (Nat.le_max_right _ _) | exact mxR (Nat.le_max_left _ _) | exact mxR (Nat.le_max_right _ _)) | omega) | fail "room")
  k_with "ktr_units" => ((try simp only [units_in1, units_deeper, Around.mark_units, units_caller]); (try dsimp only [ktrTop]); first | exact unitStep (by with_reducible assumption) (by first | exact Nat.le_refl _ | decide | exact u20 _ | exact u40 _ | exact htU (by first | exact Nat.le_max_left _ _ | exact Nat.le_max_right _ _ | exact mxL (Nat.le_max_left _ _) | exact mxL (Nat.le_max_right _ _) | exact mxR (Nat.le_max_left _ _) | exact mxR (Nat.le_max_right _ _)) | omega) | fail "units")
  k_with "k_mem" => assumption
  k_with "k_mem" => exact List.mem_cons_of_mem _ (by assumption)
  k_with "size_fits" => (simp only [List.size_toArray, Array.size_push, List.length_append, List.length_cons, List.length_nil, PySem.sizeLine_eq]; omega)
  k_with "exec If" => (k_here; k_fold)
  k_with "exec Assign" => (k_here; k_fold)
  k_with "exec Expr" => (k_here; k_fold)
  k_with "exec Return some" => (k_here; k_fold)
  k_with "execs cons" => (k_here; first | k_fold | ((with_reducible refine execsG ?_); intro t9; (try dsimp only)))
  k_with "execs nil" => (k_here; (with_reducible refine wpAny_execs_nil ?_); (try dsimp only))
  k_with "exec For Tuple Subscript cons nil" => k_extra "exec For Tuple"
  k_with "subscriptTail" => (k_here; (with_reducible show wpAny _ _ (subscriptTail _ _ (Value.ref _) (Value.int _ _)) _ _ _); (with_unfolding_all refine' litItem ?N ?m ?a ?b ?c ?_ ?d; (case N => k_asm); (case m => k_mem); (case a => decide); (case b => decide); (case c => rfl); (case d => with_unfolding_all rfl); k_whole))
  k_with "call builtin:list.index" => (k_here; (with_reducible show wpAny _ _ (call (Value.builtin _) [Value.ref _, Value.str _ _]) _ _ _); k_dflt (refine' kindIndex ?k0 ?N ?m ?_; (case k0 => with_reducible assumption); (case N => k_asm); (case m => k_mem)); dsimp only [Wh.ixI])
  k_with "exec If" => (k_here; k_dflt (first | ((with_reducible refine' ifT ?xe9 ?xb9 ?_); (case xe9 => kaf_pre); (case xb9 => decide); k_whole) | ((with_reducible refine' ifF ?xe9 ?xb9 ?_); (case xe9 => kaf_pre); (case xb9 => decide); k_whole)))
  k_with "isTrue Compare" => (k_here; k_dflt (first | ((with_reducible refine' isT ?xe9 ?xb9 ?_); (case xe9 => kaf_pre); (case xb9 => decide); k_whole) | ((with_reducible refine' isF ?xe9 ?xb9 ?_); (case xe9 => kaf_pre); (case xb9 => decide); k_whole) | ((with_reducible refine' isI ?xe9 ?_); (case xe9 => kaf_pre); k_whole) | ((with_reducible refine' isIl ?xe9 ?_); (case xe9 => kaf_pre); k_whole) | ((with_reducible refine' isIg ?xe9 ?_); (case xe9 => kaf_pre); k_whole)))
  k_with "eval Subscript" => (k_here; k_dflt ((with_reducible refine' Ev.go ?xe9 ?_); (case xe9 => kaf_pre); k_whole))
  k_with "spliced" => (k_here; k_dflt ((with_reducible refine' EvL.go ?xe9 ?_); (case xe9 => kaf_suf); k_whole); (try dsimp only [List.nil_append, List.cons_append]))
  k_with "eval Call" => (k_here; (with_reducible show wpAny _ _ (eval (Expr.Call (Expr.Name _ _) (_ :: _) [] _) _) _ _ _); k_dflt (refine' evCall ?xF9 ?xX9 ?xT9 ?xe9 ?xk9 ?xl9 ?_ ?xs9 ?xa9 ?xb9 ?xc9; (case xF9 => k_asm); (case xX9 => k_asm); (case xT9 => k_asm); (case xa9 => rfl); (case xb9 => rfl); (case xc9 => rfl); (case xe9 => k_is); (case xk9 => k_is); (case xl9 => kaf_suf); (case xs9 => rfl); k_whole))
  k_with "call ref" => (k_here; (with_reducible show wpAny _ _ (call (Value.ref 110) [_, _, _]) _ _ _); k_dflt (refine' readUse ?kC ?kV ?kS ?kc ?k1 ?k2 ?k3 ?k4 ?k5 ?kK ?kd ?ku ?_; (case kV => assumption); (case kC => assumption); (case k1 => k_asm); (case k2 => k_asm); (case k3 => k_asm); (case k4 => k_asm); (case k5 => k_asm); (case kS => (intro p hp; first | exact hp | exact List.mem_append_right _ hp | exact List.mem_cons_of_mem _ hp | exact List.mem_cons_of_mem _ (List.mem_cons_of_mem _ hp))); (case kc => first | exact Nat.le_trans (addL _ (Nat.le_refl _)) (by with_reducible assumption) | exact Nat.le_trans (addL _ (addL _ (Nat.le_refl _))) (by with_reducible assumption) | exact Nat.le_trans (addL _ (addR _ (Nat.le_refl _))) (by with_reducible assumption) | exact Nat.le_trans (addL _ (addL _ (addL _ (Nat.le_refl _)))) (by with_reducible assumption) | exact Nat.le_trans (addL _ (addL _ (addR _ (Nat.le_refl _)))) (by with_reducible assumption) | exact Nat.le_trans (addL _ (addL _ (addL _ (addL _ (Nat.le_refl _))))) (by with_reducible assumption) | exact Nat.le_trans (addL _ (addL _ (addL _ (addR _ (Nat.le_refl _))))) (by with_reducible assumption) | omega); (case kK => first | exact rfl | assumption); (case kd => ktr_room); (case ku => ktr_units)); intro l vs N h tk F9 N9 hm hi hf)
  k_with "exec For Tuple" => (k_here; (rename Fr _ _ _ _ => lF'); (with_unfolding_all refine' For_turns lF' ?_; k_whole))
  k_with "pyIter ref" => (k_here; (with_reducible show wpAny _ _ (pyIter (Value.ref _)) (fun it s₂ => LoopAtV _ _ _ _ _ _ _ _ _ it s₂) _ _); (rename Fr _ _ _ _ => lF'); (rename News _ _ _ _ => lN'); (first | (with_unfolding_all refine' iter_listUnr (vs := [_, _]) (by rfl) lF' lN' (by k_mem) (by rfl) (by rfl) ?_) | (with_unfolding_all refine' iter_listUnr (vs := [_, _, _]) (by rfl) lF' lN' (by k_mem) (by rfl) (by rfl) ?_)); clear lF'; intro i' l1)
  k_with "pyIter ref" => (k_here; (with_reducible show wpAny _ _ (pyIter (Value.ref _)) (fun it s₂ => TurnsAt _ _ _ _ _ _ _ _ _ it s₂) _ _); (rename Fr _ _ _ _ => lF'); (rename News _ _ _ _ => lN'); (first | (with_unfolding_all refine' iter_listTurns (vs := [_, _]) (by rfl) lF' lN' (by k_mem) (by rfl) (by rfl) ?_) | (with_unfolding_all refine' iter_listTurns (vs := [_]) (by rfl) lF' lN' (by k_mem) (by rfl) (by rfl) ?_)  | (with_unfolding_all refine' iter_listTurns (vs := []) (by rfl) lF' lN' (by k_mem) (by rfl) (by rfl) ?_)); clear lF'; intro i' l1; dsimp only [List.map])
  k_with "UnrEndW" => ((rename Fr _ _ _ _ => lF'); (rename News _ _ _ _ => lN'); (refine unrKeepW lF' lN' (.head _) (fun p hp => .tail _ hp) (by assumption) ⟨⟨?hlp, trivial⟩, ?_⟩); (case hlp => assumption))
  induction x with
  | cl n  =>
    intro R v tk tn hv hc
    refine TIn.cl_elim (P := fun v => Ctr w mean mg mb 110 _ _ R (v :: _) _) hv ?_
    clear hv
    intros
    unfold Ctr
    intro dp un gd cn cs a ccd cl outer A₀ base h₀ L m s Q E B F X N T hk hd hu hret
    simp only [Mine.T.ht] at hd hu
    simp only [Mine.T.cnt] at hc
    refine wpAny_call ?_
    k_dflt ktr_enter; (refine letE ?_); intro e9; (refine letA ?_); intro A9; (rename Fr _ _ _ _ => F8); (refine letM F8 ?_); clear F8; intro m9 F9
    k_steps
    exact hret _ _ _ _ (by assumption) (by assumption) (read_post (vs := [_]) (.cons _ _ .nil) (by assumption))
  | fail   =>
    intro R v tk tn hv hc
    refine TIn.fail_elim (P := fun v => Ctr w mean mg mb 110 _ _ R (v :: _) _) hv ?_
    clear hv
    intros
    unfold Ctr
    intro dp un gd cn cs a ccd cl outer A₀ base h₀ L m s Q E B F X N T hk hd hu hret
    simp only [Mine.T.ht] at hd hu
    simp only [Mine.T.cnt] at hc
    refine wpAny_call ?_
    k_dflt ktr_enter; (refine letE ?_); intro e9; (refine letA ?_); intro A9; (rename Fr _ _ _ _ => F8); (refine letM F8 ?_); clear F8; intro m9 F9
    k_steps
    exact hret _ _ _ _ (by assumption) (by assumption) (read_post (vs := []) .nil (by assumption))
  | ch2 x1 x2 ih1 ih2 =>
    intro R v tk tn hv hc
    refine TIn.ch2_elim (P := fun v => Ctr w mean mg mb 110 _ _ R (v :: _) _) hv ?_
    clear hv
    intros
    unfold Ctr
    intro dp un gd cn cs a ccd cl outer A₀ base h₀ L m s Q E B F X N T hk hd hu hret
    simp only [Mine.T.ht] at hd hu
    simp only [Mine.T.cnt] at hc
    have hrx1 := readT_le k num x1
    have hrx2 := readT_le k num x2
    k_with "UnrEnd" => ((rename Fr _ _ _ _ => lF'); (rename News _ _ _ _ => lN'); (refine unrKeep (R := R) lF' lN' ?hI ?hR (by assumption) ?hlt ⟨?hlp, ?_⟩); (case hI => exact List.mem_append_right _ (.head _)); (case hR => exact fun p hp => List.mem_append_right _ (.tail _ (.tail _ hp))); (case hlt => exact fun p hp => (by assumption : ∀ p ∈ _ :: R, p.1 < _) p (.tail _ hp)); (case hlp => exact .tail _ (by assumption)))
    refine wpAny_call ?_
    k_dflt ktr_enter; (refine letE ?_); intro e9; (refine letA ?_); intro A9; (rename Fr _ _ _ _ => F8); (refine letM F8 ?_); clear F8; intro m9 F9
    k_steps
    exact hret _ _ _ _ (by assumption) (by assumption) (read_post (by rename IntsAre _ _ => hi9; simpa [readT] using hi9) (fun p hp => by rename ∀ p ∈ _ ++ _, _ => h9; exact h9 p (List.mem_append_right _ (.tail _ (.tail _ hp)))))
  | ch3 x1 x2 x3 ih1 ih2 ih3 =>
    intro R v tk tn hv hc
    refine TIn.ch3_elim (P := fun v => Ctr w mean mg mb 110 _ _ R (v :: _) _) hv ?_
    clear hv
    intros
    unfold Ctr
    intro dp un gd cn cs a ccd cl outer A₀ base h₀ L m s Q E B F X N T hk hd hu hret
    simp only [Mine.T.ht] at hd hu
    simp only [Mine.T.cnt] at hc
    have hrx1 := readT_le k num x1
    have hrx2 := readT_le k num x2
    have hrx3 := readT_le k num x3
    k_with "UnrEnd" => ((rename Fr _ _ _ _ => lF'); (rename News _ _ _ _ => lN'); (refine unrKeep (R := R) lF' lN' ?hI ?hR (by assumption) ?hlt ⟨?hlp, ?_⟩); (case hI => exact List.mem_append_right _ (.head _)); (case hR => exact fun p hp => List.mem_append_right _ (.tail _ (.tail _ hp))); (case hlt => exact fun p hp => (by assumption : ∀ p ∈ _ :: R, p.1 < _) p (.tail _ hp)); (case hlp => exact .tail _ (by assumption)))
    refine wpAny_call ?_
    k_dflt ktr_enter; (refine letE ?_); intro e9; (refine letA ?_); intro A9; (rename Fr _ _ _ _ => F8); (refine letM F8 ?_); clear F8; intro m9 F9
    k_steps
    exact hret _ _ _ _ (by assumption) (by assumption) (read_post (by rename IntsAre _ _ => hi9; simpa [readT] using hi9) (fun p hp => by rename ∀ p ∈ _ ++ _, _ => h9; exact h9 p (List.mem_append_right _ (.tail _ (.tail _ hp)))))
  | sw x1 x2 x3 x4 ih1 ih2 ih3 ih4 =>
    intro R v tk tn hv hc
    refine TIn.sw_elim (P := fun v => Ctr w mean mg mb 110 _ _ R (v :: _) _) hv ?_
    clear hv
    intros
    unfold Ctr
    intro dp un gd cn cs a ccd cl outer A₀ base h₀ L m s Q E B F X N T hk hd hu hret
    simp only [Mine.T.ht] at hd hu
    simp only [Mine.T.cnt] at hc
    have hrx1 := readT_le k num x1
    have hrx2 := readT_le k num x2
    have hrx3 := readT_le k num x3
    have hrx4 := readT_le k num x4
    have hmm := hk0
    cases k
    case any => exact absurd rfl hk0
    all_goals (
      refine wpAny_call ?_
      k_dflt ktr_enter; (refine letE ?_); intro e9; (refine letA ?_); intro A9; (rename Fr _ _ _ _ => F8); (refine letM F8 ?_); clear F8; intro m9 F9
      k_steps)
    all_goals (
      rename News _ _ _ _ => kN
      first
        | exact hret _ _ _ _ (by assumption) (newsSub kN (app_sub (fun p hp => hp))) (read_sub (by assumption) (by assumption) (by simp only [readT] <;> first | rfl | (rw [if_pos (by assumption)]) | (rw [if_neg (by assumption), if_pos (by assumption)]) | (rw [if_neg (by assumption), if_neg (by assumption)]) | (rw [if_neg (by assumption)])) (by assumption) (fun p hp => hp))
        | exact hret _ _ _ _ (by assumption) (newsSub kN (app_sub (fun p hp => .tail _ hp))) (read_sub (by assumption) (by assumption) (by simp only [readT] <;> first | rfl | (rw [if_pos (by assumption)]) | (rw [if_neg (by assumption), if_pos (by assumption)]) | (rw [if_neg (by assumption), if_neg (by assumption)]) | (rw [if_neg (by assumption)])) (by assumption) (fun p hp => .tail _ hp)))
  | tb0 sb x1 ih1 =>
    intro R v tk tn hv hc
    refine TIn.tb0_elim (P := fun v => Ctr w mean mg mb 110 _ _ R (v :: _) _) hv ?_
    clear hv
    intros
    unfold Ctr
    intro dp un gd cn cs a ccd cl outer A₀ base h₀ L m s Q E B F X N T hk hd hu hret
    simp only [Mine.T.ht] at hd hu
    simp only [Mine.T.cnt] at hc
    have hrx1 := readT_le k num x1
    refine wpAny_call ?_
    k_dflt ktr_enter; (refine letE ?_); intro e9; (refine letA ?_); intro A9; (rename Fr _ _ _ _ => F8); (refine letM F8 ?_); clear F8; intro m9 F9
    k_steps
    all_goals (
      rename News _ _ _ _ => kN
      first
        | exact hret _ _ _ _ (by assumption) (newsSub kN (app_sub (fun p hp => hp))) (read_sub (by assumption) (by assumption) (by simp only [readT] <;> first | rfl | (rw [if_pos (by assumption)]) | (rw [if_neg (by assumption), if_pos (by assumption)]) | (rw [if_neg (by assumption), if_neg (by assumption)]) | (rw [if_neg (by assumption)])) (by assumption) (fun p hp => hp))
        | exact hret _ _ _ _ (by assumption) (newsSub kN (app_sub (fun p hp => .tail _ hp))) (read_sub (by assumption) (by assumption) (by simp only [readT] <;> first | rfl | (rw [if_pos (by assumption)]) | (rw [if_neg (by assumption), if_pos (by assumption)]) | (rw [if_neg (by assumption), if_neg (by assumption)]) | (rw [if_neg (by assumption)])) (by assumption) (fun p hp => .tail _ hp)))
  | tb1 sb x1 x2 ih1 ih2 =>
    intro R v tk tn hv hc
    refine TIn.tb1_elim (P := fun v => Ctr w mean mg mb 110 _ _ R (v :: _) _) hv ?_
    clear hv
    intros
    unfold Ctr
    intro dp un gd cn cs a ccd cl outer A₀ base h₀ L m s Q E B F X N T hk hd hu hret
    simp only [Mine.T.ht] at hd hu
    simp only [Mine.T.cnt] at hc
    have hrx1 := readT_le k num x1
    have hrx2 := readT_le k num x2
    refine wpAny_call ?_
    k_dflt ktr_enter; (refine letE ?_); intro e9; (refine letA ?_); intro A9; (rename Fr _ _ _ _ => F8); (refine letM F8 ?_); clear F8; intro m9 F9
    k_steps
    all_goals (
      rename News _ _ _ _ => kN
      first
        | exact hret _ _ _ _ (by assumption) (newsSub kN (app_sub (fun p hp => hp))) (read_sub (by assumption) (by assumption) (by simp only [readT] <;> first | rfl | (rw [if_pos (by assumption)]) | (rw [if_neg (by assumption), if_pos (by assumption)]) | (rw [if_neg (by assumption), if_neg (by assumption)]) | (rw [if_neg (by assumption)])) (by assumption) (fun p hp => hp))
        | exact hret _ _ _ _ (by assumption) (newsSub kN (app_sub (fun p hp => .tail _ hp))) (read_sub (by assumption) (by assumption) (by simp only [readT] <;> first | rfl | (rw [if_pos (by assumption)]) | (rw [if_neg (by assumption), if_pos (by assumption)]) | (rw [if_neg (by assumption), if_neg (by assumption)]) | (rw [if_neg (by assumption)])) (by assumption) (fun p hp => .tail _ hp)))
  | tb2 sb x1 x2 x3 ih1 ih2 ih3 =>
    intro R v tk tn hv hc
    refine TIn.tb2_elim (P := fun v => Ctr w mean mg mb 110 _ _ R (v :: _) _) hv ?_
    clear hv
    intros
    unfold Ctr
    intro dp un gd cn cs a ccd cl outer A₀ base h₀ L m s Q E B F X N T hk hd hu hret
    simp only [Mine.T.ht] at hd hu
    simp only [Mine.T.cnt] at hc
    have hrx1 := readT_le k num x1
    have hrx2 := readT_le k num x2
    have hrx3 := readT_le k num x3
    refine wpAny_call ?_
    k_dflt ktr_enter; (refine letE ?_); intro e9; (refine letA ?_); intro A9; (rename Fr _ _ _ _ => F8); (refine letM F8 ?_); clear F8; intro m9 F9
    k_steps
    all_goals (
      rename News _ _ _ _ => kN
      first
        | exact hret _ _ _ _ (by assumption) (newsSub kN (app_sub (fun p hp => hp))) (read_sub (by assumption) (by assumption) (by simp only [readT] <;> first | rfl | (rw [if_pos (by assumption)]) | (rw [if_neg (by assumption), if_pos (by assumption)]) | (rw [if_neg (by assumption), if_neg (by assumption)]) | (rw [if_neg (by assumption)])) (by assumption) (fun p hp => hp))
        | exact hret _ _ _ _ (by assumption) (newsSub kN (app_sub (fun p hp => .tail _ hp))) (read_sub (by assumption) (by assumption) (by simp only [readT] <;> first | rfl | (rw [if_pos (by assumption)]) | (rw [if_neg (by assumption), if_pos (by assumption)]) | (rw [if_neg (by assumption), if_neg (by assumption)]) | (rw [if_neg (by assumption)])) (by assumption) (fun p hp => .tail _ hp)))
/-- a ledger: written entries, then R -/
inductive TailOf (R : Led) : Led → (Led → Led) → Prop where
  | nil : TailOf R R (fun R' => R')
  | cons {p r f} : TailOf R r f → TailOf R (p :: r) (fun R' => p :: f R')
/-- ... d among the written ones -/
inductive UpT (d : Addr) (o : Obj) (R : Led) : Led → (Obj → Led → Led) → Prop where
  | head {r f} : TailOf R r f → (∀ p ∈ r, p.1 ≠ d) → UpT d o R ((d, o) :: r) (fun o' R' => (d, o') :: f R')
  | tail {p r g} : p.1 ≠ d → UpT d o R r g → UpT d o R (p :: r) (fun o' R' => p :: g o' R')
theorem TailOf.mem {R : Led} {l : Led} {f : Led → Led} (U : TailOf R l f) : ∃ A, l = A ++ R ∧ ∀ R', f R' = A ++ R' := by
  induction U with
  | nil => exact ⟨[], rfl, fun _ => rfl⟩
  | cons _ ih => obtain ⟨A, h1, h2⟩ := ih; exact ⟨_ :: A, by rw [h1]; rfl, fun R' => congrArg (List.cons _) (h2 R')⟩
theorem UpT.split {d : Addr} {o : Obj} {R : Led} {l : Led} {g : Obj → Led → Led} (U : UpT d o R l g) :
    ∃ A B, l = A ++ (d, o) :: (B ++ R) ∧ (∀ o' R', g o' R' = A ++ (d, o') :: (B ++ R')) ∧ (∀ p ∈ A, p.1 ≠ d) ∧ (∀ p ∈ B, p.1 ≠ d) ∧ ∀ p ∈ R, p.1 ≠ d := by
  induction U with
  | head T h =>
    obtain ⟨B, h1, h2⟩ := T.mem
    subst h1
    exact ⟨[], B, rfl, fun o' R' => congrArg (List.cons _) (h2 R'), (fun _ h => nomatch h), (fun p hp => h p (List.mem_append_left _ hp)), fun p hp => h p (List.mem_append_right _ hp)⟩
  | tail h _ ih =>
    obtain ⟨A, B, h1, h2, h3, h4, h5⟩ := ih
    exact ⟨_ :: A, B, by rw [h1]; rfl, fun o' R' => congrArg (List.cons _) (h2 o' R'), (fun q hq => by rcases List.mem_cons.mp hq with rfl | hq; exact h; exact h3 q hq), h4, h5⟩
theorem fresh_ne {N R : Led} {a : Addr} {o : Obj} (hf : Fresh N R) (hm : (a, o) ∈ R) : ∀ p ∈ N, p.1 ≠ a := fun p hp => hf p hp _ hm
theorem tail_ne {N R R' : Led} {a : Addr} (e : R' = N ++ R) (h1 : ∀ p ∈ N, p.1 ≠ a) (h2 : ∀ p ∈ R, p.1 ≠ a) : ∀ p ∈ R', p.1 ≠ a := fun p hp => by
  rw [e] at hp
  exact (List.mem_append.mp hp).elim (h1 p) (h2 p)
theorem allLt_ne {R : Led} {a : Addr} (h : AllLt a R) : ∀ p ∈ R, p.1 ≠ a := fun p hp => Nat.ne_of_lt (ktn_ltOf h p hp)
theorem allLt_ne1 {R : Led} {a b : Addr} (h : b < a ∧ AllLt a R) : ∀ p ∈ R, p.1 ≠ a := allLt_ne h.2
theorem allLt_ne2 {R : Led} {a b c : Addr} (h : b < a ∧ c < a ∧ AllLt a R) : ∀ p ∈ R, p.1 ≠ a := allLt_ne h.2.2
theorem allLt_ne3 {R : Led} {a b c d : Addr} (h : b < a ∧ c < a ∧ d < a ∧ AllLt a R) : ∀ p ∈ R, p.1 ≠ a := allLt_ne h.2.2.2
theorem allLt_ne4 {R : Led} {a b c d e : Addr} (h : b < a ∧ c < a ∧ d < a ∧ e < a ∧ AllLt a R) : ∀ p ∈ R, p.1 ≠ a := allLt_ne h.2.2.2.2
theorem allLt_ne5 {R : Led} {a x0 x1 x2 x3 x4 : Addr} (h : x0 < a ∧ x1 < a ∧ x2 < a ∧ x3 < a ∧ x4 < a ∧ AllLt a R) : ∀ p ∈ R, p.1 ≠ a := allLt_ne h.2.2.2.2.2
theorem allLt_ne6 {R : Led} {a x0 x1 x2 x3 x4 x5 : Addr} (h : x0 < a ∧ x1 < a ∧ x2 < a ∧ x3 < a ∧ x4 < a ∧ x5 < a ∧ AllLt a R) : ∀ p ∈ R, p.1 ≠ a := allLt_ne h.2.2.2.2.2.2
theorem allLt_ne7 {R : Led} {a x0 x1 x2 x3 x4 x5 x6 : Addr} (h : x0 < a ∧ x1 < a ∧ x2 < a ∧ x3 < a ∧ x4 < a ∧ x5 < a ∧ x6 < a ∧ AllLt a R) : ∀ p ∈ R, p.1 ≠ a := allLt_ne h.2.2.2.2.2.2.2
theorem allLt_ne8 {R : Led} {a x0 x1 x2 x3 x4 x5 x6 x7 : Addr} (h : x0 < a ∧ x1 < a ∧ x2 < a ∧ x3 < a ∧ x4 < a ∧ x5 < a ∧ x6 < a ∧ x7 < a ∧ AllLt a R) : ∀ p ∈ R, p.1 ≠ a := allLt_ne h.2.2.2.2.2.2.2.2
theorem allLt_ne9 {R : Led} {a x0 x1 x2 x3 x4 x5 x6 x7 x8 : Addr} (h : x0 < a ∧ x1 < a ∧ x2 < a ∧ x3 < a ∧ x4 < a ∧ x5 < a ∧ x6 < a ∧ x7 < a ∧ x8 < a ∧ AllLt a R) : ∀ p ∈ R, p.1 ≠ a := allLt_ne h.2.2.2.2.2.2.2.2.2
theorem allLt_ne10 {R : Led} {a x0 x1 x2 x3 x4 x5 x6 x7 x8 x9 : Addr} (h : x0 < a ∧ x1 < a ∧ x2 < a ∧ x3 < a ∧ x4 < a ∧ x5 < a ∧ x6 < a ∧ x7 < a ∧ x8 < a ∧ x9 < a ∧ AllLt a R) : ∀ p ∈ R, p.1 ≠ a := allLt_ne h.2.2.2.2.2.2.2.2.2.2
theorem allLt_ne11 {R : Led} {a x0 x1 x2 x3 x4 x5 x6 x7 x8 x9 x10 : Addr} (h : x0 < a ∧ x1 < a ∧ x2 < a ∧ x3 < a ∧ x4 < a ∧ x5 < a ∧ x6 < a ∧ x7 < a ∧ x8 < a ∧ x9 < a ∧ x10 < a ∧ AllLt a R) : ∀ p ∈ R, p.1 ≠ a := allLt_ne h.2.2.2.2.2.2.2.2.2.2.2
theorem allLt_ne12 {R : Led} {a x0 x1 x2 x3 x4 x5 x6 x7 x8 x9 x10 x11 : Addr} (h : x0 < a ∧ x1 < a ∧ x2 < a ∧ x3 < a ∧ x4 < a ∧ x5 < a ∧ x6 < a ∧ x7 < a ∧ x8 < a ∧ x9 < a ∧ x10 < a ∧ x11 < a ∧ AllLt a R) : ∀ p ∈ R, p.1 ≠ a := allLt_ne h.2.2.2.2.2.2.2.2.2.2.2.2
theorem unrSwap {h₀ : Heap} {L I : Addr} {it : Obj} {rest : (Str → Option Value) → Led → Prop} {s₁ : Shared} {h' : Heap} {tk : Nat} {m' : Str → Option Value} {x : Addr × Obj} {r : Led} (F : Fr h₀ L h' m') (N : News h₀ L h' (x :: (I, it) :: r))
    (off : ∀ p ∈ x :: r, p.1 ≠ I) (hr : rest m' (x :: r)) : UnrEnd h₀ L s₁ I it rest { s₁ with heap := h', toks := tk } :=
  UnrEnd.intro F N (x :: r) (fun p hp => by
    rcases List.mem_cons.mp hp with rfl | hp
    · exact .tail _ (.head _)
    · rcases List.mem_cons.mp hp with rfl | hp
      · exact .head _
      · exact .tail _ (.tail _ hp)) off hr
theorem unrHead {h₀ : Heap} {L I : Addr} {it : Obj} {rest : (Str → Option Value) → Led → Prop} {s₁ : Shared} {h' : Heap} {tk : Nat} {m' : Str → Option Value} {r : Led} (F : Fr h₀ L h' m') (N : News h₀ L h' ((I, it) :: r))
    (off : ∀ p ∈ r, p.1 ≠ I) (hr : rest m' r) : UnrEnd h₀ L s₁ I it rest { s₁ with heap := h', toks := tk } :=
  UnrEnd.intro F N r (fun p hp => hp) off hr
theorem tail_mem {N R R' : Led} {p : Addr × Obj} (e : R' = N ++ R) (h : p ∈ R) : p ∈ R' := e ▸ List.mem_append_right _ h
theorem Fresh.mono {N R R' : Led} (hf : Fresh N R) (hs : ∀ p ∈ R', p ∈ R) : Fresh N R' := fun p hp q hq => hf p hp q (hs q hq)
theorem Fresh.cons {N R : Led} {p : Addr × Obj} (h : ∀ q ∈ R, @Ne Nat p.1 q.1) (hf : Fresh N R) : Fresh (p :: N) R := fun q hq r hr => by
  rcases List.mem_cons.mp hq with rfl | hq
  · exact h r hr
  · exact hf q hq r hr
theorem Fresh.app {N M R : Led} (h1 : Fresh N R) (h2 : Fresh M R) : Fresh (N ++ M) R := fun q hq r hr => (List.mem_append.mp hq).elim (fun h => h1 q h r hr) fun h => h2 q h r hr
theorem Fresh.nil {R : Led} : Fresh [] R := fun _ h => nomatch h
structure InTest : Prop where
/-- a test's one answer -/
def TestIs (v : Bool) (s : Shared) (b : Bool) (s' : Shared) : Prop := b = v ∧ ∃ tk, s' = { s with toks := tk }
theorem testJoin {M : Model} {A : Around} {E : Value → Shared → Prop} {s : Shared} {t : Sem Bool} {Q : Bool → Shared → Prop} {v : Bool} (h : wpAny M A t (TestIs v s) E s) (k : ∀ tk, Q v { s with toks := tk }) : wpAny M A t Q E s :=
  wpAny_mono h (fun b s' ⟨e1, tk, e2⟩ => by subst e1 e2; exact k tk) fun _ _ e => e
theorem off3_tail {N R R' all : Led} {I C D : Addr} {oI oC oD : Obj} (e : R' = N ++ R) (hf : Fresh N all) (h1 : (I, oI) ∈ all) (h2 : (C, oC) ∈ all) (h3 : (D, oD) ∈ all) (h : LCg.Off3 I C D R) : LCg.Off3 I C D R' :=
  LCg.Off3.of fun p hp => by
    rw [e] at hp
    rcases List.mem_append.mp hp with hp | hp
    · exact ⟨hf p hp _ h1, hf p hp _ h2, hf p hp _ h3⟩
    · exact h.mem p hp
section
variable {w : World} {mean : ExcName → Option Value} {mg mb : Str → Option Value}
/-- a contract that turns one object and makes others: used at any written ledger -/
theorem Ctr.useT {f : Addr} {d u : Nat} {vs : List Value} {Post : Obj → Led → Value → Prop} {dp un : Nat} {gd : Option (List Code)} {cn : Str} {cs : Scope} {a : Addr} {ccd : Value} {cl : List (Str × Addr)} {outer : List Env} {A₀ : Around} {base h₀ : Heap} {L : Addr} {m : Str → Option Value} {s : Shared}
    {Q E : Value → Shared → Prop} {b : Addr} {o : Obj} {R all : Led} {g : Obj → Led → Led} (U : UpT b o R all g)
    (C : ∀ rest : Led, (∀ p ∈ rest, p.1 ≠ b) → (∀ p ∈ all, p.1 ≠ b → p ∈ rest) → Ctr w mean mg mb f d u ((b, o) :: rest) vs (fun news r => ∃ o' N, news = (b, o') :: (N ++ rest) ∧ Fresh N ((b, o) :: rest) ∧ Post o' N r))
    (B : Below A₀ base outer h₀) (F : Fr h₀ L s.heap m) (X : (Mine.hd.heap_39 w.params).In h₀) (N : News h₀ L s.heap all)
    (T : Top Mine.hd.view_39 (looseW Mine.hd.view_39 [Str.ofString "LinkFault"]) mean mg mb h₀) (hk : cs.kind = .function) (hd : dp + d < recursionLimit) (hu : un + u < cLine)
    (ret : ∀ r o' N R' h' tk', R' = N ++ R → Fr h₀ L h' m → News h₀ L h' (g o' R') → Fresh N all → Post o' N r → Q r { s with heap := h', toks := tk' }) :
    wpAny (model Mine.pw w) (ktrTop dp un gd cn cs L a ccd cl outer) (call (.ref f) vs) Q E s := by
  obtain ⟨A, B', h1, h2, h3, h4, h5⟩ := U.split
  have hr : ∀ p ∈ A ++ (B' ++ R), p.1 ≠ b := by
    intro p hp
    rcases List.mem_append.mp hp with hp | hp
    · exact h3 p hp
    · rcases List.mem_append.mp hp with hp | hp
      · exact h4 p hp
      · exact h5 p hp
  have hsub : ∀ p ∈ all, p ∈ (b, o) :: (A ++ (B' ++ R)) := by
    intro p hp
    rw [h1] at hp
    simp only [List.mem_append, List.mem_cons] at hp ⊢
    grind
  have hsub2 : ∀ p ∈ (b, o) :: (A ++ (B' ++ R)), p ∈ all := by
    intro p hp
    rw [h1]
    simp only [List.mem_append, List.mem_cons] at hp ⊢
    grind
  refine Ctr.use (C (A ++ (B' ++ R)) hr ?_) B F X (newsSub N hsub2) T hk hd hu ?_
  · intro p hp hne
    rcases List.mem_cons.mp (hsub p hp) with rfl | h
    · exact absurd rfl hne
    · exact h
  · rintro r news' h' tk' F' N' ⟨o', N₁, rfl, hf, hp⟩
    refine ret r o' N₁ (N₁ ++ R) h' tk' rfl F' (newsSub N' ?_) (hf.mono hsub) hp
    intro p hp
    rw [h2] at hp
    simp only [List.mem_append, List.mem_cons] at hp ⊢
    grind
theorem Ctr.mono {f : Addr} {d u : Nat} {news : Led} {vs : List Value} {P P' : Led → Value → Prop} (C : Ctr w mean mg mb f d u news vs P) (h : ∀ n r, P n r → P' n r) : Ctr w mean mg mb f d u news vs P' := by
  unfold Ctr at C ⊢
  intro dp un gd cn cs a ccd cl outer A₀ base h₀ L m s Q E B F X N T hk hd hu hret
  exact C dp un gd cn cs a ccd cl outer A₀ base h₀ L m s Q E B F X N T hk hd hu fun r n h' tk' F' N' p => hret r n h' tk' F' N' (h n r p)
abbrev belt (sl : Addr) (i : Int) (t : Tok) (k : Nat) : Obj := listOf #[.ref sl, .int i t] k
/-- _law_next, used -/
theorem nextUse {b sl : Addr} {i : Int} {ti : Tok} {lim : Int} {tl : Tok} {vs : List Value} {k : Nat} {R all : Led} {g : Obj → Led → Led} {dp un : Nat} {gd : Option (List Code)} {cn : Str} {cs : Scope} {a : Addr} {ccd : Value} {cl : List (Str × Addr)} {outer : List Env} {A₀ : Around} {base h₀ : Heap} {L : Addr} {m : Str → Option Value} {s : Shared}
    {Q E : Value → Shared → Prop}
    (C : ∀ rest : Led, (∀ p ∈ rest, p.1 ≠ b) → (sl, listOf vs.toArray 0) ∈ rest → Ctr w mean mg mb 98 2 20 ((b, belt sl i ti k) :: rest) [.ref b, .int lim tl] (fun news r => ∃ x t t', r = .int x t ∧ 0 ≤ x ∧ x < lim ∧ news = (b, belt sl (i+1) t' k) :: rest))
    (hm : (sl, listOf vs.toArray 0) ∈ all) (hsb : @Ne Nat sl b) (U : UpT b (belt sl i ti k) R all g)
    (B : Below A₀ base outer h₀) (F : Fr h₀ L s.heap m) (X : (Mine.hd.heap_39 w.params).In h₀) (N : News h₀ L s.heap all)
    (T : Top Mine.hd.view_39 (looseW Mine.hd.view_39 [Str.ofString "LinkFault"]) mean mg mb h₀) (hk : cs.kind = .function) (hd : dp + 2 < recursionLimit) (hu : un + 20 < cLine)
    (ret : ∀ x t t' h' tk', 0 ≤ x → x < lim → Fr h₀ L h' m → News h₀ L h' (g (belt sl (i+1) t' k) R) → Q (.int x t) { s with heap := h', toks := tk' }) :
    wpAny (model Mine.pw w) (ktrTop dp un gd cn cs L a ccd cl outer) (call (.ref 98) [.ref b, .int lim tl]) Q E s :=
  Ctr.useT (Post := fun o' N r => N = [] ∧ ∃ x t t', r = .int x t ∧ 0 ≤ x ∧ x < lim ∧ o' = belt sl (i+1) t' k) U
    (fun rest h1 h2 => (C rest h1 (h2 _ hm hsb)).mono fun n r ⟨x, t, t', e1, e2, e3, e4⟩ => ⟨_, [], e4, Fresh.nil, rfl, x, t, t', e1, e2, e3, rfl⟩)
    B F X N T hk hd hu (fun r o' N₁ R' h' tk' e F' N' _ ⟨e1, x, t, t', e2, e3, e4, e5⟩ => by
      subst e1 e2 e5 e
      exact ret x t t' h' tk' e3 e4 F' N')
def TreeP (wh : Wh) (d : Nat) (sl : Addr) (k : Nat) (o' : Obj) (N : Led) (r : Value) : Prop := ∃ i' t' x, 0 ≤ i' ∧ o' = belt sl i' t' k ∧ TIn N r x ∧ Wf d wh x
def TreeOK (w : World) (mean : ExcName → Option Value) (mg mb : Str → Option Value) (d : Nat) (wh : Wh) : Prop :=
  ∀ (b sl : Addr) (i : Int) (ti : Tok) (k : Nat) (deep : Int) (td tw : Tok) (vs : List Value) (ns : List Int) (rest : Led), deep = (d : Int) → IntsAre vs ns → ns.length ≤ 63 → (∀ p ∈ rest, p.1 ≠ b) → (sl, listOf vs.toArray 0) ∈ rest → 0 ≤ i →
    Ctr w mean mg mb 103 (d + 4) (8 * d + 40) ((b, belt sl i ti k) :: rest) [.ref b, .int deep td, .str (Str.ofString wh.name) tw] (fun news r => ∃ o' N, news = (b, o') :: (N ++ rest) ∧ Fresh N ((b, belt sl i ti k) :: rest) ∧ TreeP wh d sl k o' N r)
theorem treeUse {d : Nat} {wh : Wh} {b sl : Addr} {i : Int} {ti : Tok} {deep : Int} {td tw : Tok} {vs : List Value} {ns : List Int} {k : Nat} {R all : Led} {g : Obj → Led → Led} {dp un : Nat} {gd : Option (List Code)} {cn : Str} {cs : Scope} {a : Addr} {ccd : Value} {cl : List (Str × Addr)} {outer : List Env} {A₀ : Around} {base h₀ : Heap} {L : Addr} {m : Str → Option Value} {s : Shared}
    {Q E : Value → Shared → Prop}
    (C : TreeOK w mean mg mb d wh) (hdeep : deep = (d : Int)) (hv : IntsAre vs ns) (hn : ns.length ≤ 63) (hi : 0 ≤ i)
    (hm : (sl, listOf vs.toArray 0) ∈ all) (hsb : @Ne Nat sl b) (U : UpT b (belt sl i ti k) R all g)
    (B : Below A₀ base outer h₀) (F : Fr h₀ L s.heap m) (X : (Mine.hd.heap_39 w.params).In h₀) (N : News h₀ L s.heap all)
    (T : Top Mine.hd.view_39 (looseW Mine.hd.view_39 [Str.ofString "LinkFault"]) mean mg mb h₀) (hk : cs.kind = .function) (hd : dp + (d + 4) < recursionLimit) (hu : un + (8 * d + 40) < cLine)
    (ret : ∀ v N R' h' tk' i' t' x, R' = N ++ R → Fr h₀ L h' m → News h₀ L h' (g (belt sl i' t' k) R') → Fresh N R → Fresh N all → 0 ≤ i' → TIn N v x → Wf d wh x → (∀ p ∈ R', p.1 ≠ b) → (∀ p ∈ N, p.1 ≠ b) → Q v { s with heap := h', toks := tk' }) :
    wpAny (model Mine.pw w) (ktrTop dp un gd cn cs L a ccd cl outer) (call (.ref 103) [.ref b, .int deep td, .str (Str.ofString wh.name) tw]) Q E s :=
  Ctr.useT (Post := fun o' N r => TreeP wh d sl k o' N r) U
    (fun rest h1 h2 => C b sl i ti k deep td tw vs ns rest hdeep hv hn h1 (h2 _ hm hsb) hi)
    B F X N T hk hd hu (fun r o' N₁ R' h' tk' e F' N' hf ⟨i', t', x, e1, e2, e3, e4⟩ => by
      subst e2
      obtain ⟨A, B', q1, q2, q3, q4, q5⟩ := U.split
      have hbm : (b, belt sl i ti k) ∈ all := by rw [q1]; exact List.mem_append_right _ (.head _)
      exact ret r N₁ R' h' tk' i' t' x e F' N' (hf.mono fun p hp => by rw [q1]; exact List.mem_append_right _ (.tail _ (List.mem_append_right _ hp))) hf e1 e3 e4 (tail_ne e (fresh_ne hf hbm) q5) (fresh_ne hf hbm))
end
/-- the tail has grown by M -/
structure Ext (b : Addr) (R M R' : Led) : Prop where
  eq : R' = M ++ R
  fresh : Fresh M R
  off : ∀ p ∈ M, p.1 ≠ b
theorem Ext.nil {b : Addr} {R : Led} : Ext b R [] R := ⟨rfl, Fresh.nil, fun _ h => nomatch h⟩
theorem Ext.step {b : Addr} {R M R₁ R₂ N : Led} (h : Ext b R M R₁) (e : R₂ = N ++ R₁) (f : Fresh N R₁) (g : ∀ p ∈ N, p.1 ≠ b) : Ext b R (N ++ M) R₂ :=
  ⟨by rw [e, h.eq, List.append_assoc], (f.mono fun p hp => by rw [h.eq]; exact List.mem_append_right _ hp).app h.fresh, fun p hp => (List.mem_append.mp hp).elim (g p) (h.off p)⟩
theorem off1_ne {a : Addr} : ∀ {R : Led}, LCg.Off1 a R → ∀ p ∈ R, p.1 ≠ a
  | [], _, _, h => nomatch h
  | _ :: r, h, p, hp => by
    rcases List.mem_cons.mp hp with rfl | hp
    · exact h.1
    · exact off1_ne (R := r) h.2 p hp
theorem off1_ne4 {R : Led} {a x0 x1 x2 x3 : Addr} (h : @Ne Nat x0 a ∧ @Ne Nat x1 a ∧ @Ne Nat x2 a ∧ @Ne Nat x3 a ∧ LCg.Off1 a R) : ∀ p ∈ R, p.1 ≠ a := off1_ne h.2.2.2.2
section
variable {w : World}
theorem treeEnd {wh : Wh} {d : Nat} {b sl : Addr} {i0 : Int} {t0 : Tok} {k : Nat} {R R' M top all : Led} {g : Obj → Led → Led} {i' : Int} {t' : Tok} {x : T} {r : Value} {h₀ h' : Heap} {L : Addr} {m : Str → Option Value} {s : Shared} {tk' : Nat} {Q : Value → Shared → Prop}
    (hret : ∀ r news' h' tk', Fr h₀ L h' m → News h₀ L h' news' → (fun news r => ∃ o' N, news = (b, o') :: (N ++ R) ∧ Fresh N ((b, belt sl i0 t0 k) :: R) ∧ TreeP wh d sl k o' N r) news' r → Q r { s with heap := h', toks := tk' })
    (F : Fr h₀ L h' m) (N : News h₀ L h' all) (U : UpT b (belt sl i' t' k) R' all g)
    (h2 : ∀ p ∈ top, p ∈ all ∧ @Ne Nat p.1 b ∧ ∀ q ∈ R', q.1 ≠ p.1) (hM : Ext b R M R') (hT : TIn (top ++ M) r x) (hw : Wf d wh x) (hi : 0 ≤ i') : Q r { s with heap := h', toks := tk' } := by
  obtain ⟨A, B, e1, _, _, _, _⟩ := U.split
  have hb : (b, belt sl i' t' k) ∈ all := by rw [e1]; exact List.mem_append_right _ (.head _)
  have hr : ∀ p ∈ R', p ∈ all := fun p hp => by rw [e1]; exact List.mem_append_right _ (.tail _ (List.mem_append_right _ hp))
  refine hret r ((b, belt sl i' t' k) :: ((top ++ M) ++ R)) h' tk' F (fun p hp => N p ?_) ⟨_, top ++ M, rfl, ?_, i', t', x, hi, rfl, hT, hw⟩
  · rcases List.mem_cons.mp hp with rfl | hp
    · exact hb
    · rcases List.mem_append.mp hp with hp | hp
      · rcases List.mem_append.mp hp with hp | hp
        · exact (h2 p hp).1
        · exact hr p (by rw [hM.eq]; exact List.mem_append_left _ hp)
      · exact hr p (by rw [hM.eq]; exact List.mem_append_right _ hp)
  · intro p hp q hq
    rcases List.mem_append.mp hp with hp | hp
    · rcases List.mem_cons.mp hq with rfl | hq
      · exact (h2 p hp).2.1
      · exact Ne.symm ((h2 p hp).2.2 q (by rw [hM.eq]; exact List.mem_append_right _ hq))
    · rcases List.mem_cons.mp hq with rfl | hq
      · exact hM.off p hp
      · exact hM.fresh p hp q hq
end
set_option maxRecDepth 100000 in
set_option maxHeartbeats 8000000 in
theorem tree_zero (w : World) (mean : ExcName → Option Value) (mg mb : Str → Option Value) (wh : Wh) : TreeOK w mean mg mb 0 wh := by
  k_with_none
  k_with "k_all" => first | with_reducible assumption | (refine' List.forall_mem_cons.mpr ⟨?qa9, ?qb9⟩; (case qa9 => k_ne); (case qb9 => k_all)) | exact allLt_ne (by with_reducible assumption) | exact off1_ne4 (by with_reducible assumption) | exact allLt_ne1 (by with_reducible assumption) | exact allLt_ne2 (by with_reducible assumption) | exact allLt_ne3 (by with_reducible assumption) | exact allLt_ne4 (by with_reducible assumption) | exact allLt_ne5 (by with_reducible assumption) | exact allLt_ne6 (by with_reducible assumption) | exact allLt_ne7 (by with_reducible assumption) | exact allLt_ne8 (by with_reducible assumption) | exact allLt_ne9 (by with_reducible assumption) | exact allLt_ne10 (by with_reducible assumption) | exact allLt_ne11 (by with_reducible assumption) | exact allLt_ne12 (by with_reducible assumption) | exact tail_ne (by with_reducible assumption) (fresh_ne (by with_reducible assumption) (by k_mem)) (by k_all) | fail "k_all"
  k_with "k_updF" => first | (refine' UpT.head ?ua9 ?ub9; (case ub9 => k_all); (case ua9 => k_updF)) | (refine' UpT.tail ?ua9 ?ub9; (case ua9 => k_ne); (case ub9 => k_updF)) | (refine' TailOf.cons ?ua9; (case ua9 => k_updF)) | exact TailOf.nil | fail "updT"
  k_with "kaf_pre" => first | (refine' evI ?pe9 ?pN9 ?pm9 ?px9; (case pe9 => kaf_pre); (case pN9 => k_asm); (case pm9 => k_mem); (case px9 => rfl)) | (refine' evL ?pF9 ?pv9 ?pa9 ?pb9 ?pc9; (case pF9 => k_asm); (case pa9 => rfl); (case pb9 => rfl); (case pc9 => rfl); (case pv9 => rfl)) | (refine' evC ?pN9 ?pl9 ?pm9 ?pd9 ?pa9 ?pb9 ?pc9; (case pa9 => rfl); (case pb9 => rfl); (case pc9 => rfl); (case pN9 => k_asm); (case pl9 => rfl); (case pm9 => k_mem); (case pd9 => k_asm)) | (refine' evK ?pF9 ?pX9 ?pT9 ?pe9 ?pa9 ?pb9 ?pc9; (case pF9 => k_asm); (case pX9 => k_asm); (case pT9 => k_asm); (case pa9 => rfl); (case pb9 => rfl); (case pc9 => rfl); (case pe9 => k_is))
  k_with "kaf_suf" => first | exact evl0 | (refine' evlI ?sl9; (case sl9 => kaf_suf)) | (refine' evlS ?sl9; (case sl9 => kaf_suf)) | (refine' evlN ?se9 ?sl9 ?sn9; (case sn9 => rfl); (case se9 => kaf_pre); (case sl9 => kaf_suf)) | (refine' evlE ?se9 ?sl9 ?sn9; (case sn9 => rfl); (case se9 => kaf_pre); (case sl9 => kaf_suf))
  k_with "k_ne" => (refine neN ?_; (try dsimp only); first | with_reducible assumption | exact Ne.symm (by with_reducible assumption) | (refine Nat.ne_of_gt ((?_ : ChainTo _ _ _ _) (by with_reducible assumption)); intro hch; with_reducible (first | exact And.left hch | exact And.left (And.right hch) | exact And.left (And.right (And.right hch)) | exact And.left (And.right (And.right (And.right hch))) | exact And.left (And.right (And.right (And.right (And.right hch)))) | exact And.left (And.right (And.right (And.right (And.right (And.right hch))))) | exact And.left (And.right (And.right (And.right (And.right (And.right (And.right hch)))))) | exact And.left (And.right (And.right (And.right (And.right (And.right (And.right (And.right hch))))))) | exact And.left (And.right (And.right (And.right (And.right (And.right (And.right (And.right (And.right hch)))))))) | exact And.left (And.right (And.right (And.right (And.right (And.right (And.right (And.right (And.right (And.right hch))))))))) | exact And.left (And.right (And.right (And.right (And.right (And.right (And.right (And.right (And.right (And.right (And.right hch)))))))))) | exact And.left (And.right (And.right (And.right (And.right (And.right (And.right (And.right (And.right (And.right (And.right (And.right hch))))))))))) | exact And.left (And.right (And.right (And.right (And.right (And.right (And.right (And.right (And.right (And.right (And.right (And.right (And.right hch)))))))))))) | exact And.left (And.right (And.right (And.right (And.right (And.right (And.right (And.right (And.right (And.right (And.right (And.right (And.right (And.right hch))))))))))))))) | (refine Nat.ne_of_lt ((?_ : ChainTo _ _ _ _) (by with_reducible assumption)); intro hch; with_reducible (first | exact And.left hch | exact And.left (And.right hch) | exact And.left (And.right (And.right hch)) | exact And.left (And.right (And.right (And.right hch))) | exact And.left (And.right (And.right (And.right (And.right hch)))) | exact And.left (And.right (And.right (And.right (And.right (And.right hch))))) | exact And.left (And.right (And.right (And.right (And.right (And.right (And.right hch)))))) | exact And.left (And.right (And.right (And.right (And.right (And.right (And.right (And.right hch))))))) | exact And.left (And.right (And.right (And.right (And.right (And.right (And.right (And.right (And.right hch)))))))) | exact And.left (And.right (And.right (And.right (And.right (And.right (And.right (And.right (And.right (And.right hch))))))))) | exact And.left (And.right (And.right (And.right (And.right (And.right (And.right (And.right (And.right (And.right (And.right hch)))))))))) | exact And.left (And.right (And.right (And.right (And.right (And.right (And.right (And.right (And.right (And.right (And.right (And.right hch))))))))))) | exact And.left (And.right (And.right (And.right (And.right (And.right (And.right (And.right (And.right (And.right (And.right (And.right (And.right hch)))))))))))) | exact And.left (And.right (And.right (And.right (And.right (And.right (And.right (And.right (And.right (And.right (And.right (And.right (And.right (And.right hch))))))))))))))) | exact Nat.ne_of_gt (Nat.lt_succ_of_lt (And.left (by with_reducible assumption))) | exact Nat.ne_of_lt (Nat.lt_succ_of_lt (And.left (by with_reducible assumption))) | exact Nat.ne_of_gt (Nat.lt_succ_of_lt (And.left (And.right (by with_reducible assumption)))) | exact Nat.ne_of_lt (Nat.lt_succ_of_lt (And.left (And.right (by with_reducible assumption)))) | exact Nat.ne_of_gt (Nat.lt_succ_of_lt (And.left (And.right (And.right (by with_reducible assumption))))) | exact Nat.ne_of_lt (Nat.lt_succ_of_lt (And.left (And.right (And.right (by with_reducible assumption))))) | exact Nat.ne_of_gt (Nat.lt_succ_of_lt (Nat.lt_succ_of_lt (And.left (by with_reducible assumption)))) | exact Nat.ne_of_lt (Nat.lt_succ_of_lt (Nat.lt_succ_of_lt (And.left (by with_reducible assumption)))) | exact Nat.ne_of_gt (Nat.lt_succ_of_lt (Nat.lt_succ_of_lt (And.left (And.right (by with_reducible assumption))))) | exact Nat.ne_of_lt (Nat.lt_succ_of_lt (Nat.lt_succ_of_lt (And.left (And.right (by with_reducible assumption))))) | exact Nat.ne_of_gt (Nat.lt_succ_of_lt (Nat.lt_succ_of_lt (And.left (And.right (And.right (by with_reducible assumption)))))) | exact Nat.ne_of_lt (Nat.lt_succ_of_lt (Nat.lt_succ_of_lt (And.left (And.right (And.right (by with_reducible assumption)))))) | exact Nat.ne_of_gt (Nat.lt_succ_of_lt (Nat.lt_succ_of_lt (Nat.lt_succ_of_lt (And.left (by with_reducible assumption))))) | exact Nat.ne_of_lt (Nat.lt_succ_of_lt (Nat.lt_succ_of_lt (Nat.lt_succ_of_lt (And.left (by with_reducible assumption))))) | exact Nat.ne_of_gt (Nat.lt_succ_of_lt (Nat.lt_succ_of_lt (Nat.lt_succ_of_lt (And.left (And.right (by with_reducible assumption)))))) | exact Nat.ne_of_lt (Nat.lt_succ_of_lt (Nat.lt_succ_of_lt (Nat.lt_succ_of_lt (And.left (And.right (by with_reducible assumption)))))) | exact Nat.ne_of_gt (Nat.lt_succ_of_lt (Nat.lt_succ_of_lt (Nat.lt_succ_of_lt (And.left (And.right (And.right (by with_reducible assumption))))))) | exact Nat.ne_of_lt (Nat.lt_succ_of_lt (Nat.lt_succ_of_lt (Nat.lt_succ_of_lt (And.left (And.right (And.right (by with_reducible assumption))))))) | exact Nat.ne_of_gt (Nat.lt_succ_self _) | exact Nat.ne_of_lt (Nat.lt_succ_self _) | exact Nat.ne_of_gt (Nat.lt_succ_of_lt (Nat.lt_succ_self _)) | exact Nat.ne_of_lt (Nat.lt_succ_of_lt (Nat.lt_succ_self _)) | exact ((And.left (And.left (by with_reducible assumption))) : @Ne Nat _ _) | exact Ne.symm ((And.left (And.left (by with_reducible assumption))) : @Ne Nat _ _) | exact ((And.left (And.right (And.left (by with_reducible assumption)))) : @Ne Nat _ _) | exact Ne.symm ((And.left (And.right (And.left (by with_reducible assumption)))) : @Ne Nat _ _) | exact ((And.right (And.right (And.left (by with_reducible assumption)))) : @Ne Nat _ _) | exact Ne.symm ((And.right (And.right (And.left (by with_reducible assumption)))) : @Ne Nat _ _) | exact ((And.left (And.left (And.right (by with_reducible assumption)))) : @Ne Nat _ _) | exact Ne.symm ((And.left (And.left (And.right (by with_reducible assumption)))) : @Ne Nat _ _) | exact ((And.left (And.right (And.left (And.right (by with_reducible assumption))))) : @Ne Nat _ _) | exact Ne.symm ((And.left (And.right (And.left (And.right (by with_reducible assumption))))) : @Ne Nat _ _) | exact ((And.right (And.right (And.left (And.right (by with_reducible assumption))))) : @Ne Nat _ _) | exact Ne.symm ((And.right (And.right (And.left (And.right (by with_reducible assumption))))) : @Ne Nat _ _) | exact ((And.left (And.left (And.right (And.right (by with_reducible assumption))))) : @Ne Nat _ _) | exact Ne.symm ((And.left (And.left (And.right (And.right (by with_reducible assumption))))) : @Ne Nat _ _) | exact ((And.left (And.right (And.left (And.right (And.right (by with_reducible assumption)))))) : @Ne Nat _ _) | exact Ne.symm ((And.left (And.right (And.left (And.right (And.right (by with_reducible assumption)))))) : @Ne Nat _ _) | exact ((And.right (And.right (And.left (And.right (And.right (by with_reducible assumption)))))) : @Ne Nat _ _) | exact Ne.symm ((And.right (And.right (And.left (And.right (And.right (by with_reducible assumption)))))) : @Ne Nat _ _) | exact ((And.left (And.left (And.right (And.right (And.right (by with_reducible assumption)))))) : @Ne Nat _ _) | exact Ne.symm ((And.left (And.left (And.right (And.right (And.right (by with_reducible assumption)))))) : @Ne Nat _ _) | exact ((And.left (And.right (And.left (And.right (And.right (And.right (by with_reducible assumption))))))) : @Ne Nat _ _) | exact Ne.symm ((And.left (And.right (And.left (And.right (And.right (And.right (by with_reducible assumption))))))) : @Ne Nat _ _) | exact ((And.right (And.right (And.left (And.right (And.right (And.right (by with_reducible assumption))))))) : @Ne Nat _ _) | exact Ne.symm ((And.right (And.right (And.left (And.right (And.right (And.right (by with_reducible assumption))))))) : @Ne Nat _ _) | exact ((And.left (And.left (And.right (And.right (And.right (And.right (by with_reducible assumption))))))) : @Ne Nat _ _) | exact Ne.symm ((And.left (And.left (And.right (And.right (And.right (And.right (by with_reducible assumption))))))) : @Ne Nat _ _) | exact ((And.left (And.right (And.left (And.right (And.right (And.right (And.right (by with_reducible assumption)))))))) : @Ne Nat _ _) | exact Ne.symm ((And.left (And.right (And.left (And.right (And.right (And.right (And.right (by with_reducible assumption)))))))) : @Ne Nat _ _) | exact ((And.right (And.right (And.left (And.right (And.right (And.right (And.right (by with_reducible assumption)))))))) : @Ne Nat _ _) | exact Ne.symm ((And.right (And.right (And.left (And.right (And.right (And.right (And.right (by with_reducible assumption)))))))) : @Ne Nat _ _) | exact ((And.left (And.left (And.right (And.right (And.right (And.right (And.right (by with_reducible assumption)))))))) : @Ne Nat _ _) | exact Ne.symm ((And.left (And.left (And.right (And.right (And.right (And.right (And.right (by with_reducible assumption)))))))) : @Ne Nat _ _) | exact ((And.left (And.right (And.left (And.right (And.right (And.right (And.right (And.right (by with_reducible assumption))))))))) : @Ne Nat _ _) | exact Ne.symm ((And.left (And.right (And.left (And.right (And.right (And.right (And.right (And.right (by with_reducible assumption))))))))) : @Ne Nat _ _) | exact ((And.right (And.right (And.left (And.right (And.right (And.right (And.right (And.right (by with_reducible assumption))))))))) : @Ne Nat _ _) | exact Ne.symm ((And.right (And.right (And.left (And.right (And.right (And.right (And.right (And.right (by with_reducible assumption))))))))) : @Ne Nat _ _) | exact ((And.left (And.left (And.right (And.right (And.right (And.right (And.right (And.right (by with_reducible assumption))))))))) : @Ne Nat _ _) | exact Ne.symm ((And.left (And.left (And.right (And.right (And.right (And.right (And.right (And.right (by with_reducible assumption))))))))) : @Ne Nat _ _) | exact ((And.left (And.right (And.left (And.right (And.right (And.right (And.right (And.right (And.right (by with_reducible assumption)))))))))) : @Ne Nat _ _) | exact Ne.symm ((And.left (And.right (And.left (And.right (And.right (And.right (And.right (And.right (And.right (by with_reducible assumption)))))))))) : @Ne Nat _ _) | exact ((And.right (And.right (And.left (And.right (And.right (And.right (And.right (And.right (And.right (by with_reducible assumption)))))))))) : @Ne Nat _ _) | exact Ne.symm ((And.right (And.right (And.left (And.right (And.right (And.right (And.right (And.right (And.right (by with_reducible assumption)))))))))) : @Ne Nat _ _) | omega)
  k_with "ktr_room" => ((try simp only [depth_under_make, depth_under_kw, depth_in1, depth_deeper, depth_caller]); (try dsimp only [ktrTop]); first | exact Nat.lt_of_le_of_lt (Nat.le_add_right _ _) (by with_reducible assumption) | exact roomStep (by with_reducible assumption) (by first | exact Nat.le_refl _ | decide | exact r2 _ | omega) | fail "room")
  k_with "ktr_units" => ((try simp only [units_in1, units_deeper, Around.mark_units, units_caller]); (try dsimp only [ktrTop]); first | exact unitStep (by with_reducible assumption) (by first | exact Nat.le_refl _ | decide | exact u20 _ | exact u40 _ | omega) | fail "units")
  k_with "k_mem" => first | exact tail_mem (by assumption) (by k_mem) | fail "k_mem"
  k_with "k_mem" => assumption
  k_with "k_mem" => first | exact List.mem_cons_of_mem _ (by assumption) | fail "k_mem"
  k_with "size_fits" => (simp only [List.size_toArray, Array.size_push, List.length_append, List.length_cons, List.length_nil, PySem.sizeLine_eq] <;> omega)
  k_with "exec If" => (k_here; k_fold)
  k_with "exec Assign" => (k_here; k_fold)
  k_with "exec Expr" => (k_here; k_fold)
  k_with "exec Return some" => (k_here; k_fold)
  k_with "execs cons" => (k_here; first | k_fold | ((with_reducible refine execsG ?_); intro t9; (try dsimp only)))
  k_with "execs nil" => (k_here; (with_reducible refine wpAny_execs_nil ?_); (try dsimp only))
  k_with "ite" => (k_here; first | (refine ite_pos (by first | omega | (simp only [beq_iff_eq, bne_iff_ne, decide_eq_true_eq]; omega)) ?_) | (refine ite_neg (by first | (simp only [beq_iff_eq, bne_iff_ne, decide_eq_true_eq]; first | exact fun q => no1 (by with_reducible assumption) (by with_reducible assumption) q | exact fun q => no2 (by with_reducible assumption) (by with_reducible assumption) q | exact fun q => no3 (by with_reducible assumption) (by with_reducible assumption) q | exact fun q => no4 (by with_reducible assumption) (by with_reducible assumption) q | exact fun q => no5 (by with_reducible assumption) (by with_reducible assumption) q) | omega | (simp only [beq_iff_eq, bne_iff_ne, decide_eq_true_eq]; omega)) ?_))
  k_with "exec For Tuple Subscript cons nil" => k_extra "exec For Tuple"
  k_with "subscriptTail" => (k_here; (with_reducible show wpAny _ _ (subscriptTail _ _ (Value.ref _) (Value.int _ _)) _ _ _); (with_unfolding_all refine' litItem ?N ?m ?a ?b ?c ?_ ?d; (case N => k_asm); (case m => k_mem); (case a => decide); (case b => decide); (case c => rfl); (case d => with_unfolding_all rfl); k_whole))
  k_with "call builtin:list.index" => (k_here; (with_reducible show wpAny _ _ (call (Value.builtin _) [Value.ref _, Value.str _ _]) _ _ _); k_dflt (refine' kindIndex ?k0 ?N ?m ?_; (case k0 => with_reducible assumption); (case N => k_asm); (case m => k_mem)); dsimp only [Wh.ixI])
  k_with "exec If" => (k_here; k_dflt (first | ((with_reducible refine' ifT ?xe9 ?xb9 ?_); (case xe9 => kaf_pre); (case xb9 => decide); k_whole) | ((with_reducible refine' ifF ?xe9 ?xb9 ?_); (case xe9 => kaf_pre); (case xb9 => decide); k_whole)))
  k_with "isTrue Compare" => (k_here; k_dflt (first | ((with_reducible refine' isT ?xe9 ?xb9 ?_); (case xe9 => kaf_pre); (case xb9 => decide); k_whole) | ((with_reducible refine' isF ?xe9 ?xb9 ?_); (case xe9 => kaf_pre); (case xb9 => decide); k_whole) | ((with_reducible refine' isI ?xe9 ?_); (case xe9 => kaf_pre); k_whole) | ((with_reducible refine' isIl ?xe9 ?_); (case xe9 => kaf_pre); k_whole) | ((with_reducible refine' isIg ?xe9 ?_); (case xe9 => kaf_pre); k_whole)))
  k_with "eval Subscript" => (k_here; k_dflt ((with_reducible refine' Ev.go ?xe9 ?_); (case xe9 => kaf_pre); k_whole))
  k_with "spliced" => (k_here; k_dflt ((with_reducible refine' EvL.go ?xe9 ?_); (case xe9 => kaf_suf); k_whole); (try dsimp only [List.nil_append, List.cons_append]))
  k_with "eval Call" => (k_here; (with_reducible show wpAny _ _ (eval (Expr.Call (Expr.Name _ _) (_ :: _) [] _) _) _ _ _); k_dflt (refine' evCall ?xF9 ?xX9 ?xT9 ?xe9 ?xk9 ?xl9 ?_ ?xs9 ?xa9 ?xb9 ?xc9; (case xF9 => k_asm); (case xX9 => k_asm); (case xT9 => k_asm); (case xa9 => rfl); (case xb9 => rfl); (case xc9 => rfl); (case xe9 => k_is); (case xk9 => k_is); (case xl9 => kaf_suf); (case xs9 => rfl); k_whole))
  k_with "call ref" => (k_here; (with_reducible show wpAny _ _ (call (Value.ref 98) [_, Value.int 6 _]) _ _ _); k_dflt (refine' nextUse (fun rest a1 a2 => law_next w mean mg mb _ _ _ _ _ _ _ _ _ rest ?kv a1 a2 ?ki ?kl ?kl2 ?kn) ?km ?ks ?kU ?k1 ?k2 ?k3 ?k4 ?k5 ?kK ?kd ?ku ?_; (case k1 => k_asm); (case k2 => k_asm); (case k3 => k_asm); (case k4 => k_asm); (case k5 => k_asm); (case kU => k_updF); (case km => k_mem); (case ks => exact hsb); (case kv => assumption); (case kn => assumption); (case ki => first | with_reducible assumption | exact inc0 (by with_reducible assumption) | exact inc0 (inc0 (by with_reducible assumption)) | exact inc0 (inc0 (inc0 (by with_reducible assumption))) | omega); (case kl => decide); (case kl2 => decide); (case kK => first | exact rfl | assumption); (case kd => ktr_room); (case ku => ktr_units)); intro x t t' h tk h0 h1 F9 N9; obtain rfl | rfl | h2 : x = 0 ∨ x = 1 ∨ 2 ≤ x := (by omega))
  k_with "call ref" => (k_here; (with_reducible show wpAny _ _ (call (Value.ref 98) [_, Value.int 5 _]) _ _ _); k_dflt (refine' nextUse (fun rest a1 a2 => law_next w mean mg mb _ _ _ _ _ _ _ _ _ rest ?kv a1 a2 ?ki ?kl ?kl2 ?kn) ?km ?ks ?kU ?k1 ?k2 ?k3 ?k4 ?k5 ?kK ?kd ?ku ?_; (case k1 => k_asm); (case k2 => k_asm); (case k3 => k_asm); (case k4 => k_asm); (case k5 => k_asm); (case kU => k_updF); (case km => k_mem); (case ks => exact hsb); (case kv => assumption); (case kn => assumption); (case ki => first | with_reducible assumption | exact inc0 (by with_reducible assumption) | exact inc0 (inc0 (by with_reducible assumption)) | exact inc0 (inc0 (inc0 (by with_reducible assumption))) | omega); (case kl => decide); (case kl2 => decide); (case kK => first | exact rfl | assumption); (case kd => ktr_room); (case ku => ktr_units)); intro x t t' h tk h0 h1 F9 N9)
  k_with "call ref" => (k_here; (with_reducible show wpAny _ _ (call (Value.ref 98) [_, Value.int 3 _]) _ _ _); k_dflt (refine' nextUse (fun rest a1 a2 => law_next w mean mg mb _ _ _ _ _ _ _ _ _ rest ?kv a1 a2 ?ki ?kl ?kl2 ?kn) ?km ?ks ?kU ?k1 ?k2 ?k3 ?k4 ?k5 ?kK ?kd ?ku ?_; (case k1 => k_asm); (case k2 => k_asm); (case k3 => k_asm); (case k4 => k_asm); (case k5 => k_asm); (case kU => k_updF); (case km => k_mem); (case ks => exact hsb); (case kv => assumption); (case kn => assumption); (case ki => first | with_reducible assumption | exact inc0 (by with_reducible assumption) | exact inc0 (inc0 (by with_reducible assumption)) | exact inc0 (inc0 (inc0 (by with_reducible assumption))) | omega); (case kl => decide); (case kl2 => decide); (case kK => first | exact rfl | assumption); (case kd => ktr_room); (case ku => ktr_units)); intro x t t' h tk h0 h1 F9 N9; obtain rfl | rfl | rfl : x = 0 ∨ x = 1 ∨ x = 2 := (by omega))
  k_with "call ref" => (k_here; (with_reducible show wpAny _ _ (call (Value.ref 98) [_, Value.int 2 _]) _ _ _); k_dflt (refine' nextUse (fun rest a1 a2 => law_next w mean mg mb _ _ _ _ _ _ _ _ _ rest ?kv a1 a2 ?ki ?kl ?kl2 ?kn) ?km ?ks ?kU ?k1 ?k2 ?k3 ?k4 ?k5 ?kK ?kd ?ku ?_; (case k1 => k_asm); (case k2 => k_asm); (case k3 => k_asm); (case k4 => k_asm); (case k5 => k_asm); (case kU => k_updF); (case km => k_mem); (case ks => exact hsb); (case kv => assumption); (case kn => assumption); (case ki => first | with_reducible assumption | exact inc0 (by with_reducible assumption) | exact inc0 (inc0 (by with_reducible assumption)) | exact inc0 (inc0 (inc0 (by with_reducible assumption))) | omega); (case kl => decide); (case kl2 => decide); (case kK => first | exact rfl | assumption); (case kd => ktr_room); (case ku => ktr_units)); intro x t t' h tk h0 h1 F9 N9; obtain rfl | rfl : x = 0 ∨ x = 1 := (by omega))
  k_with "CompSrc" => (k_here; k_dflt (first
    | (refine LCg.CompSrc.range (n := 2) (by rfl) (by k_asm) (by k_asm) (by assumption) (by decide) (by decide) (by exact Nat.le_of_ble_eq_true rfl) ?_; intro g')
    | (refine LCg.CompSrc.range (n := 3) (by rfl) (by k_asm) (by k_asm) (by assumption) (by decide) (by decide) (by exact Nat.le_of_ble_eq_true rfl) ?_; intro g')))
  k_with "CompEnd" => ((rename Fr _ _ _ _ => kF); (rename News _ _ _ _ => kN); (rename _ ∧ _ ∧ _ ∧ _ ∧ LCg.Off3 _ _ _ _ => hoff); (refine LCg.CompEnd.intro kF kN (_ :: _ :: _ :: _ :: _) (fun p hp => hp) ⟨hoff.1, hoff.2.1, hoff.2.2.1, hoff.2.2.2.1, off3_tail (by assumption) (by assumption) (.head _) (.tail _ (.head _)) (.tail _ (.tail _ (.head _))) hoff.2.2.2.2⟩ trivial ?_))
  k_with "UnrEnd" => ((rename Fr _ _ _ _ => kF); (rename News _ _ _ _ => kN); k_dflt (refine' unrSwap kF kN ?koff ?_; (case koff => k_all)))
  k_with "isTrue BoolOp" => ((fail_if_success (rename InTest => x9)); k_dflt (refine' testJoin (v := false) ?ka ?_); (case ka => (have mk9 := InTest.mk; k_steps; all_goals first | k_dflt (exact ⟨rfl, _, rfl⟩) | (exfalso; first | exact no1 (by with_reducible assumption) (by with_reducible assumption) (by with_reducible assumption) | exact no2 (by with_reducible assumption) (by with_reducible assumption) (by with_reducible assumption) | exact no3 (by with_reducible assumption) (by with_reducible assumption) (by with_reducible assumption) | exact no4 (by with_reducible assumption) (by with_reducible assumption) (by with_reducible assumption) | exact no5 (by with_reducible assumption) (by with_reducible assumption) (by with_reducible assumption) | omega))); (intro tk))
  intro b sl i ti k deep td tw vs ns R hdeep hv hn hb hm hi
  have hsb := neN (hb _ hm)
  unfold Ctr
  intro dp un gd cn cs a ccd cl outer A₀ base h₀ L m s Q E B F X N T hk hd hu hret
  refine wpAny_call ?_
  k_dflt (refine' code_defC ?k1 ?k2 ?k3 ?k4 ?k5 ?kA ?kF ?kK ?k6 ?k7 ?k8 ?k9 ?kB ?kD ?_ ?c2 ?c3 ?c4; (case kA => exact rfl); (case kF => exact rfl); (case kK => assumption); (case k1 => k_asm); (case k2 => k_asm); (case k3 => k_asm); (case k4 => k_asm); (case k5 => k_asm); (case k6 => k_is); (case k7 => k_is); (case k8 => ktr_room); (case k9 => exact BindsTo.of_eq rfl); (case kB => exact rfl); (case kD => decide +kernel); (case c2 => exact rfl); (case c3 => exact rfl); (case c4 => exact rfl); k_whole; intro g' L' h' tk' cells' FG' F' N' Y' B' X' T' l1; (try k_lt l1); k_cells Y'; (try simp only [List.cons_append, List.nil_append] at N'); (try dsimp only); (try k_lift B'); (try k_fold)); (refine letE ?_); intro e9; (refine letA ?_); intro A9; (rename Fr _ _ _ _ => F8); (refine letM F8 ?_); clear F8; intro m9 F9
  k_steps
  all_goals first
    | (refine' treeEnd (top := [(_, tupO [.str (Str.ofString "clause") _, .int _ _])]) hret ?kF ?kN ?kU ?k2 ?kM ?kT ?kw ?ki; (case kF => assumption); (case kN => assumption); (case kU => k_updF); (case k2 => repeat' (first | exact List.forall_mem_nil _ | (refine List.forall_mem_cons.mpr ⟨⟨by k_mem, by k_ne, by k_all⟩, ?_⟩))); (case kM => repeat' (first | exact Ext.nil | (refine' Ext.step ?_ ?y ?z ?u; (case y => assumption); (case z => assumption); (case u => assumption)))); (case kT => exact .cl (.head _)); (case kw => exact ⟨by first | with_reducible assumption | omega, by first | with_reducible assumption | omega, by first | exact dlt (by with_reducible assumption) (by with_reducible assumption) | omega⟩); (case ki => first | with_reducible assumption | exact inc0 (by with_reducible assumption) | exact inc0 (inc0 (by with_reducible assumption)) | exact inc0 (inc0 (inc0 (by with_reducible assumption))) | omega))
    | (refine' treeEnd (top := [(_, tupO [.str (Str.ofString "fail") _])]) hret ?kF ?kN ?kU ?k2 ?kM ?kT ?kw ?ki; (case kF => assumption); (case kN => assumption); (case kU => k_updF); (case k2 => repeat' (first | exact List.forall_mem_nil _ | (refine List.forall_mem_cons.mpr ⟨⟨by k_mem, by k_ne, by k_all⟩, ?_⟩))); (case kM => repeat' (first | exact Ext.nil | (refine' Ext.step ?_ ?y ?z ?u; (case y => assumption); (case z => assumption); (case u => assumption)))); (case kT => exact .fail (.head _)); (case kw => (simp only [Wf]; omega)); (case ki => first | with_reducible assumption | exact inc0 (by with_reducible assumption) | exact inc0 (inc0 (by with_reducible assumption)) | exact inc0 (inc0 (inc0 (by with_reducible assumption))) | omega))
    | (refine' treeEnd (top := [(_, tupO [.str (Str.ofString "chain") _, .ref _]), (_, listOf #[_, _] _)]) hret ?kF ?kN ?kU ?k2 ?kM ?kT ?kw ?ki; (case kF => assumption); (case kN => assumption); (case kU => k_updF); (case k2 => repeat' (first | exact List.forall_mem_nil _ | (refine List.forall_mem_cons.mpr ⟨⟨by k_mem, by k_ne, by k_all⟩, ?_⟩))); (case kM => repeat' (first | exact Ext.nil | (refine' Ext.step ?_ ?y ?z ?u; (case y => assumption); (case z => assumption); (case u => assumption)))); (case kT => exact .ch2 (.head _) (.tail _ (.head _)) (TIn.mono (by assumption) (by intro p hp; simp only [List.mem_append, List.mem_cons, hp, true_or, or_true])) (TIn.mono (by assumption) (by intro p hp; simp only [List.mem_append, List.mem_cons, hp, true_or, or_true]))); (case kw => exact ⟨by assumption, by assumption⟩); (case ki => first | with_reducible assumption | exact inc0 (by with_reducible assumption) | exact inc0 (inc0 (by with_reducible assumption)) | exact inc0 (inc0 (inc0 (by with_reducible assumption))) | omega))
    | (refine' treeEnd (top := [(_, tupO [.str (Str.ofString "chain") _, .ref _]), (_, listOf #[_, _, _] _)]) hret ?kF ?kN ?kU ?k2 ?kM ?kT ?kw ?ki; (case kF => assumption); (case kN => assumption); (case kU => k_updF); (case k2 => repeat' (first | exact List.forall_mem_nil _ | (refine List.forall_mem_cons.mpr ⟨⟨by k_mem, by k_ne, by k_all⟩, ?_⟩))); (case kM => repeat' (first | exact Ext.nil | (refine' Ext.step ?_ ?y ?z ?u; (case y => assumption); (case z => assumption); (case u => assumption)))); (case kT => exact .ch3 (.head _) (.tail _ (.head _)) (TIn.mono (by assumption) (by intro p hp; simp only [List.mem_append, List.mem_cons, hp, true_or, or_true])) (TIn.mono (by assumption) (by intro p hp; simp only [List.mem_append, List.mem_cons, hp, true_or, or_true])) (TIn.mono (by assumption) (by intro p hp; simp only [List.mem_append, List.mem_cons, hp, true_or, or_true]))); (case kw => exact ⟨by assumption, by assumption, by assumption⟩); (case ki => first | with_reducible assumption | exact inc0 (by with_reducible assumption) | exact inc0 (inc0 (by with_reducible assumption)) | exact inc0 (inc0 (inc0 (by with_reducible assumption))) | omega))
def Wh.code : Wh → Int | .any => 0 | .var => 1 | .con => 2 | .lst => 3 | .str => 4
theorem whCon (wh : Wh) : (Str.ofString wh.name == Str.ofString "const") = decide (wh.code = 2) := by cases wh <;> decide +kernel
theorem whStr (wh : Wh) : (Str.ofString wh.name == Str.ofString "struct") = decide (wh.code = 4) := by cases wh <;> decide +kernel
theorem whAny (wh : Wh) : (Str.ofString wh.name == Str.ofString "any") = decide (wh.code = 0) := by cases wh <;> decide +kernel
theorem waySplit {x deep c : Int} (_h0 : 0 ≤ x) (_h1 : x < 6) : (x = 0 ∧ deep < 3) ∨ (x = 1 ∧ deep < 3) ∨ ((x = 4 ∧ c = 2) ∨ (x = 5 ∧ c = 4)) ∨ (2 < x ∧ c = 0) ∨ (¬(x = 0 ∧ deep < 3) ∧ ¬(x = 1 ∧ deep < 3) ∧ ¬((x = 4 ∧ c = 2) ∨ (x = 5 ∧ c = 4)) ∧ ¬(2 < x ∧ c = 0)) := (Classical.em _).imp id fun h1 => (Classical.em _).imp id fun h2 => (Classical.em _).imp id fun h3 => (Classical.em _).imp id fun h4 => ⟨h1, h2, h3, h4⟩
theorem whIsAny {wh : Wh} {x : Int} (h : 2 < x ∧ wh.code = 0) : wh = .any := by
  cases wh
  case any => rfl
  all_goals exact absurd h.2 (by decide)
theorem whTab {wh : Wh} {x : Int} (h : (x = 4 ∧ wh.code = 2) ∨ (x = 5 ∧ wh.code = 4)) : ∃ s, wh = cond s .str .con ∧ wh.name = tname s := by
  cases wh
  case con => exact ⟨false, rfl, rfl⟩
  case str => exact ⟨true, rfl, rfl⟩
  all_goals exact absurd h (by simp [Wh.code])
theorem tabIn {R : Led} {a : Addr} {wh : Wh} {s : Bool} {t1 t2 : Tok} {l v : Value} (e : wh.name = tname s) (h : (a, tupO [.str (Str.ofString "table") t1, .str (Str.ofString wh.name) t2, l, v]) ∈ R) : (a, tupO [.str (Str.ofString "table") t1, .str (Str.ofString (tname s)) t2, l, v]) ∈ R := e ▸ h
section
variable {w : World} {A : Around} {E : Value → Shared → Prop} {s : Shared} {t u : Tok} {Q : Value → Shared → Prop}
theorem eqWhCon {wh : Wh} (h : Q (.bool (decide (wh.code = 2))) s) : wpAny (model Mine.pw w) A (compareOp .Eq (.str (Str.ofString wh.name) t) (.str (Str.ofString "const") u)) Q E s := eq_str (by rw [whCon]; exact h)
theorem eqWhStr {wh : Wh} (h : Q (.bool (decide (wh.code = 4))) s) : wpAny (model Mine.pw w) A (compareOp .Eq (.str (Str.ofString wh.name) t) (.str (Str.ofString "struct") u)) Q E s := eq_str (by rw [whStr]; exact h)
theorem eqWhAny {wh : Wh} (h : Q (.bool (decide (wh.code = 0))) s) : wpAny (model Mine.pw w) A (compareOp .Eq (.str (Str.ofString wh.name) t) (.str (Str.ofString "any") u)) Q E s := eq_str (by rw [whAny]; exact h)
end
set_option maxRecDepth 100000 in
set_option maxHeartbeats 8000000 in
theorem tree_step (w : World) (mean : ExcName → Option Value) (mg mb : Str → Option Value) (d : Nat) (hd3 : d + 1 ≤ 3) (wh : Wh) (ih : ∀ k, k = wh ∨ wh = .any → TreeOK w mean mg mb d k) : TreeOK w mean mg mb (d + 1) wh := by
  have iha := ih wh (.inl rfl)
  k_with_none
  k_with "k_all" => first | with_reducible assumption | (refine' List.forall_mem_cons.mpr ⟨?qa9, ?qb9⟩; (case qa9 => k_ne); (case qb9 => k_all)) | exact allLt_ne (by with_reducible assumption) | exact off1_ne4 (by with_reducible assumption) | exact allLt_ne1 (by with_reducible assumption) | exact allLt_ne2 (by with_reducible assumption) | exact allLt_ne3 (by with_reducible assumption) | exact allLt_ne4 (by with_reducible assumption) | exact allLt_ne5 (by with_reducible assumption) | exact allLt_ne6 (by with_reducible assumption) | exact allLt_ne7 (by with_reducible assumption) | exact allLt_ne8 (by with_reducible assumption) | exact allLt_ne9 (by with_reducible assumption) | exact allLt_ne10 (by with_reducible assumption) | exact allLt_ne11 (by with_reducible assumption) | exact allLt_ne12 (by with_reducible assumption) | exact tail_ne (by with_reducible assumption) (fresh_ne (by with_reducible assumption) (by k_mem)) (by k_all) | fail "k_all"
  k_with "k_updF" => first | (refine' UpT.head ?ua9 ?ub9; (case ub9 => k_all); (case ua9 => k_updF)) | (refine' UpT.tail ?ua9 ?ub9; (case ua9 => k_ne); (case ub9 => k_updF)) | (refine' TailOf.cons ?ua9; (case ua9 => k_updF)) | exact TailOf.nil | fail "updT"
  k_with "kaf_pre" => first | (refine' evI ?pe9 ?pN9 ?pm9 ?px9; (case pe9 => kaf_pre); (case pN9 => k_asm); (case pm9 => k_mem); (case px9 => rfl)) | (refine' evL ?pF9 ?pv9 ?pa9 ?pb9 ?pc9; (case pF9 => k_asm); (case pa9 => rfl); (case pb9 => rfl); (case pc9 => rfl); (case pv9 => rfl)) | (refine' evC ?pN9 ?pl9 ?pm9 ?pd9 ?pa9 ?pb9 ?pc9; (case pa9 => rfl); (case pb9 => rfl); (case pc9 => rfl); (case pN9 => k_asm); (case pl9 => rfl); (case pm9 => k_mem); (case pd9 => k_asm)) | (refine' evK ?pF9 ?pX9 ?pT9 ?pe9 ?pa9 ?pb9 ?pc9; (case pF9 => k_asm); (case pX9 => k_asm); (case pT9 => k_asm); (case pa9 => rfl); (case pb9 => rfl); (case pc9 => rfl); (case pe9 => k_is))
  k_with "kaf_suf" => first | exact evl0 | (refine' evlI ?sl9; (case sl9 => kaf_suf)) | (refine' evlS ?sl9; (case sl9 => kaf_suf)) | (refine' evlN ?se9 ?sl9 ?sn9; (case sn9 => rfl); (case se9 => kaf_pre); (case sl9 => kaf_suf)) | (refine' evlE ?se9 ?sl9 ?sn9; (case sn9 => rfl); (case se9 => kaf_pre); (case sl9 => kaf_suf))
  k_with "k_ne" => (refine neN ?_; (try dsimp only); first | with_reducible assumption | exact Ne.symm (by with_reducible assumption) | (refine Nat.ne_of_gt ((?_ : ChainTo _ _ _ _) (by with_reducible assumption)); intro hch; with_reducible (first | exact And.left hch | exact And.left (And.right hch) | exact And.left (And.right (And.right hch)) | exact And.left (And.right (And.right (And.right hch))) | exact And.left (And.right (And.right (And.right (And.right hch)))) | exact And.left (And.right (And.right (And.right (And.right (And.right hch))))) | exact And.left (And.right (And.right (And.right (And.right (And.right (And.right hch)))))) | exact And.left (And.right (And.right (And.right (And.right (And.right (And.right (And.right hch))))))) | exact And.left (And.right (And.right (And.right (And.right (And.right (And.right (And.right (And.right hch)))))))) | exact And.left (And.right (And.right (And.right (And.right (And.right (And.right (And.right (And.right (And.right hch))))))))) | exact And.left (And.right (And.right (And.right (And.right (And.right (And.right (And.right (And.right (And.right (And.right hch)))))))))) | exact And.left (And.right (And.right (And.right (And.right (And.right (And.right (And.right (And.right (And.right (And.right (And.right hch))))))))))) | exact And.left (And.right (And.right (And.right (And.right (And.right (And.right (And.right (And.right (And.right (And.right (And.right (And.right hch)))))))))))) | exact And.left (And.right (And.right (And.right (And.right (And.right (And.right (And.right (And.right (And.right (And.right (And.right (And.right (And.right hch))))))))))))))) | (refine Nat.ne_of_lt ((?_ : ChainTo _ _ _ _) (by with_reducible assumption)); intro hch; with_reducible (first | exact And.left hch | exact And.left (And.right hch) | exact And.left (And.right (And.right hch)) | exact And.left (And.right (And.right (And.right hch))) | exact And.left (And.right (And.right (And.right (And.right hch)))) | exact And.left (And.right (And.right (And.right (And.right (And.right hch))))) | exact And.left (And.right (And.right (And.right (And.right (And.right (And.right hch)))))) | exact And.left (And.right (And.right (And.right (And.right (And.right (And.right (And.right hch))))))) | exact And.left (And.right (And.right (And.right (And.right (And.right (And.right (And.right (And.right hch)))))))) | exact And.left (And.right (And.right (And.right (And.right (And.right (And.right (And.right (And.right (And.right hch))))))))) | exact And.left (And.right (And.right (And.right (And.right (And.right (And.right (And.right (And.right (And.right (And.right hch)))))))))) | exact And.left (And.right (And.right (And.right (And.right (And.right (And.right (And.right (And.right (And.right (And.right (And.right hch))))))))))) | exact And.left (And.right (And.right (And.right (And.right (And.right (And.right (And.right (And.right (And.right (And.right (And.right (And.right hch)))))))))))) | exact And.left (And.right (And.right (And.right (And.right (And.right (And.right (And.right (And.right (And.right (And.right (And.right (And.right (And.right hch))))))))))))))) | exact Nat.ne_of_gt (Nat.lt_succ_of_lt (And.left (by with_reducible assumption))) | exact Nat.ne_of_lt (Nat.lt_succ_of_lt (And.left (by with_reducible assumption))) | exact Nat.ne_of_gt (Nat.lt_succ_of_lt (And.left (And.right (by with_reducible assumption)))) | exact Nat.ne_of_lt (Nat.lt_succ_of_lt (And.left (And.right (by with_reducible assumption)))) | exact Nat.ne_of_gt (Nat.lt_succ_of_lt (And.left (And.right (And.right (by with_reducible assumption))))) | exact Nat.ne_of_lt (Nat.lt_succ_of_lt (And.left (And.right (And.right (by with_reducible assumption))))) | exact Nat.ne_of_gt (Nat.lt_succ_of_lt (Nat.lt_succ_of_lt (And.left (by with_reducible assumption)))) | exact Nat.ne_of_lt (Nat.lt_succ_of_lt (Nat.lt_succ_of_lt (And.left (by with_reducible assumption)))) | exact Nat.ne_of_gt (Nat.lt_succ_of_lt (Nat.lt_succ_of_lt (And.left (And.right (by with_reducible assumption))))) | exact Nat.ne_of_lt (Nat.lt_succ_of_lt (Nat.lt_succ_of_lt (And.left (And.right (by with_reducible assumption))))) | exact Nat.ne_of_gt (Nat.lt_succ_of_lt (Nat.lt_succ_of_lt (And.left (And.right (And.right (by with_reducible assumption)))))) | exact Nat.ne_of_lt (Nat.lt_succ_of_lt (Nat.lt_succ_of_lt (And.left (And.right (And.right (by with_reducible assumption)))))) | exact Nat.ne_of_gt (Nat.lt_succ_of_lt (Nat.lt_succ_of_lt (Nat.lt_succ_of_lt (And.left (by with_reducible assumption))))) | exact Nat.ne_of_lt (Nat.lt_succ_of_lt (Nat.lt_succ_of_lt (Nat.lt_succ_of_lt (And.left (by with_reducible assumption))))) | exact Nat.ne_of_gt (Nat.lt_succ_of_lt (Nat.lt_succ_of_lt (Nat.lt_succ_of_lt (And.left (And.right (by with_reducible assumption)))))) | exact Nat.ne_of_lt (Nat.lt_succ_of_lt (Nat.lt_succ_of_lt (Nat.lt_succ_of_lt (And.left (And.right (by with_reducible assumption)))))) | exact Nat.ne_of_gt (Nat.lt_succ_of_lt (Nat.lt_succ_of_lt (Nat.lt_succ_of_lt (And.left (And.right (And.right (by with_reducible assumption))))))) | exact Nat.ne_of_lt (Nat.lt_succ_of_lt (Nat.lt_succ_of_lt (Nat.lt_succ_of_lt (And.left (And.right (And.right (by with_reducible assumption))))))) | exact Nat.ne_of_gt (Nat.lt_succ_self _) | exact Nat.ne_of_lt (Nat.lt_succ_self _) | exact Nat.ne_of_gt (Nat.lt_succ_of_lt (Nat.lt_succ_self _)) | exact Nat.ne_of_lt (Nat.lt_succ_of_lt (Nat.lt_succ_self _)) | exact ((And.left (And.left (by with_reducible assumption))) : @Ne Nat _ _) | exact Ne.symm ((And.left (And.left (by with_reducible assumption))) : @Ne Nat _ _) | exact ((And.left (And.right (And.left (by with_reducible assumption)))) : @Ne Nat _ _) | exact Ne.symm ((And.left (And.right (And.left (by with_reducible assumption)))) : @Ne Nat _ _) | exact ((And.right (And.right (And.left (by with_reducible assumption)))) : @Ne Nat _ _) | exact Ne.symm ((And.right (And.right (And.left (by with_reducible assumption)))) : @Ne Nat _ _) | exact ((And.left (And.left (And.right (by with_reducible assumption)))) : @Ne Nat _ _) | exact Ne.symm ((And.left (And.left (And.right (by with_reducible assumption)))) : @Ne Nat _ _) | exact ((And.left (And.right (And.left (And.right (by with_reducible assumption))))) : @Ne Nat _ _) | exact Ne.symm ((And.left (And.right (And.left (And.right (by with_reducible assumption))))) : @Ne Nat _ _) | exact ((And.right (And.right (And.left (And.right (by with_reducible assumption))))) : @Ne Nat _ _) | exact Ne.symm ((And.right (And.right (And.left (And.right (by with_reducible assumption))))) : @Ne Nat _ _) | exact ((And.left (And.left (And.right (And.right (by with_reducible assumption))))) : @Ne Nat _ _) | exact Ne.symm ((And.left (And.left (And.right (And.right (by with_reducible assumption))))) : @Ne Nat _ _) | exact ((And.left (And.right (And.left (And.right (And.right (by with_reducible assumption)))))) : @Ne Nat _ _) | exact Ne.symm ((And.left (And.right (And.left (And.right (And.right (by with_reducible assumption)))))) : @Ne Nat _ _) | exact ((And.right (And.right (And.left (And.right (And.right (by with_reducible assumption)))))) : @Ne Nat _ _) | exact Ne.symm ((And.right (And.right (And.left (And.right (And.right (by with_reducible assumption)))))) : @Ne Nat _ _) | exact ((And.left (And.left (And.right (And.right (And.right (by with_reducible assumption)))))) : @Ne Nat _ _) | exact Ne.symm ((And.left (And.left (And.right (And.right (And.right (by with_reducible assumption)))))) : @Ne Nat _ _) | exact ((And.left (And.right (And.left (And.right (And.right (And.right (by with_reducible assumption))))))) : @Ne Nat _ _) | exact Ne.symm ((And.left (And.right (And.left (And.right (And.right (And.right (by with_reducible assumption))))))) : @Ne Nat _ _) | exact ((And.right (And.right (And.left (And.right (And.right (And.right (by with_reducible assumption))))))) : @Ne Nat _ _) | exact Ne.symm ((And.right (And.right (And.left (And.right (And.right (And.right (by with_reducible assumption))))))) : @Ne Nat _ _) | exact ((And.left (And.left (And.right (And.right (And.right (And.right (by with_reducible assumption))))))) : @Ne Nat _ _) | exact Ne.symm ((And.left (And.left (And.right (And.right (And.right (And.right (by with_reducible assumption))))))) : @Ne Nat _ _) | exact ((And.left (And.right (And.left (And.right (And.right (And.right (And.right (by with_reducible assumption)))))))) : @Ne Nat _ _) | exact Ne.symm ((And.left (And.right (And.left (And.right (And.right (And.right (And.right (by with_reducible assumption)))))))) : @Ne Nat _ _) | exact ((And.right (And.right (And.left (And.right (And.right (And.right (And.right (by with_reducible assumption)))))))) : @Ne Nat _ _) | exact Ne.symm ((And.right (And.right (And.left (And.right (And.right (And.right (And.right (by with_reducible assumption)))))))) : @Ne Nat _ _) | exact ((And.left (And.left (And.right (And.right (And.right (And.right (And.right (by with_reducible assumption)))))))) : @Ne Nat _ _) | exact Ne.symm ((And.left (And.left (And.right (And.right (And.right (And.right (And.right (by with_reducible assumption)))))))) : @Ne Nat _ _) | exact ((And.left (And.right (And.left (And.right (And.right (And.right (And.right (And.right (by with_reducible assumption))))))))) : @Ne Nat _ _) | exact Ne.symm ((And.left (And.right (And.left (And.right (And.right (And.right (And.right (And.right (by with_reducible assumption))))))))) : @Ne Nat _ _) | exact ((And.right (And.right (And.left (And.right (And.right (And.right (And.right (And.right (by with_reducible assumption))))))))) : @Ne Nat _ _) | exact Ne.symm ((And.right (And.right (And.left (And.right (And.right (And.right (And.right (And.right (by with_reducible assumption))))))))) : @Ne Nat _ _) | exact ((And.left (And.left (And.right (And.right (And.right (And.right (And.right (And.right (by with_reducible assumption))))))))) : @Ne Nat _ _) | exact Ne.symm ((And.left (And.left (And.right (And.right (And.right (And.right (And.right (And.right (by with_reducible assumption))))))))) : @Ne Nat _ _) | exact ((And.left (And.right (And.left (And.right (And.right (And.right (And.right (And.right (And.right (by with_reducible assumption)))))))))) : @Ne Nat _ _) | exact Ne.symm ((And.left (And.right (And.left (And.right (And.right (And.right (And.right (And.right (And.right (by with_reducible assumption)))))))))) : @Ne Nat _ _) | exact ((And.right (And.right (And.left (And.right (And.right (And.right (And.right (And.right (And.right (by with_reducible assumption)))))))))) : @Ne Nat _ _) | exact Ne.symm ((And.right (And.right (And.left (And.right (And.right (And.right (And.right (And.right (And.right (by with_reducible assumption)))))))))) : @Ne Nat _ _) | omega)
  k_with "ktr_room" => ((try simp only [depth_under_make, depth_under_kw, depth_in1, depth_deeper, depth_caller]); (try dsimp only [ktrTop]); first | exact Nat.lt_of_le_of_lt (Nat.le_add_right _ _) (by with_reducible assumption) | exact roomStep (by with_reducible assumption) (by first | exact Nat.le_refl _ | decide | exact r2 _ | omega) | fail "room")
  k_with "ktr_units" => ((try simp only [units_in1, units_deeper, Around.mark_units, units_caller]); (try dsimp only [ktrTop]); first | exact unitStep (by with_reducible assumption) (by first | exact Nat.le_refl _ | decide | exact u20 _ | exact u40 _ | omega) | fail "units")
  k_with "k_mem" => first | exact tail_mem (by assumption) (by k_mem) | fail "k_mem"
  k_with "k_mem" => assumption
  k_with "k_mem" => first | exact List.mem_cons_of_mem _ (by assumption) | fail "k_mem"
  k_with "size_fits" => (simp only [List.size_toArray, Array.size_push, List.length_append, List.length_cons, List.length_nil, PySem.sizeLine_eq] <;> omega)
  k_with "exec If" => (k_here; k_fold)
  k_with "exec Assign" => (k_here; k_fold)
  k_with "exec Expr" => (k_here; k_fold)
  k_with "exec Return some" => (k_here; k_fold)
  k_with "execs cons" => (k_here; first | k_fold | ((with_reducible refine execsG ?_); intro t9; (try dsimp only)))
  k_with "execs nil" => (k_here; (with_reducible refine wpAny_execs_nil ?_); (try dsimp only))
  k_with "ite" => (k_here; first | (refine ite_pos (by first | omega | (simp only [beq_iff_eq, bne_iff_ne, decide_eq_true_eq]; omega)) ?_) | (refine ite_neg (by first | (simp only [beq_iff_eq, bne_iff_ne, decide_eq_true_eq]; first | exact fun q => no1 (by with_reducible assumption) (by with_reducible assumption) q | exact fun q => no2 (by with_reducible assumption) (by with_reducible assumption) q | exact fun q => no3 (by with_reducible assumption) (by with_reducible assumption) q | exact fun q => no4 (by with_reducible assumption) (by with_reducible assumption) q | exact fun q => no5 (by with_reducible assumption) (by with_reducible assumption) q) | omega | (simp only [beq_iff_eq, bne_iff_ne, decide_eq_true_eq]; omega)) ?_))
  k_with "exec For Tuple Subscript cons nil" => k_extra "exec For Tuple"
  k_with "subscriptTail" => (k_here; (with_reducible show wpAny _ _ (subscriptTail _ _ (Value.ref _) (Value.int _ _)) _ _ _); (with_unfolding_all refine' litItem ?N ?m ?a ?b ?c ?_ ?d; (case N => k_asm); (case m => k_mem); (case a => decide); (case b => decide); (case c => rfl); (case d => with_unfolding_all rfl); k_whole))
  k_with "call builtin:list.index" => (k_here; (with_reducible show wpAny _ _ (call (Value.builtin _) [Value.ref _, Value.str _ _]) _ _ _); k_dflt (refine' kindIndex ?k0 ?N ?m ?_; (case k0 => with_reducible assumption); (case N => k_asm); (case m => k_mem)); dsimp only [Wh.ixI])
  k_with "compareOp Eq str str" => (k_here; with_reducible first | refine eqWhCon ?_ | refine eqWhStr ?_ | refine eqWhAny ?_)
  k_with "exec If" => (k_here; k_dflt (first | ((with_reducible refine' ifT ?xe9 ?xb9 ?_); (case xe9 => kaf_pre); (case xb9 => decide); k_whole) | ((with_reducible refine' ifF ?xe9 ?xb9 ?_); (case xe9 => kaf_pre); (case xb9 => decide); k_whole)))
  k_with "isTrue Compare" => (k_here; k_dflt (first | ((with_reducible refine' isQ ?xe9 ?xb9 ?_); (case xe9 => kaf_pre); (case xb9 => first | exact whCon | exact whStr | exact whAny); k_whole) | ((with_reducible refine' isT ?xe9 ?xb9 ?_); (case xe9 => kaf_pre); (case xb9 => decide); k_whole) | ((with_reducible refine' isF ?xe9 ?xb9 ?_); (case xe9 => kaf_pre); (case xb9 => decide); k_whole) | ((with_reducible refine' isI ?xe9 ?_); (case xe9 => kaf_pre); k_whole) | ((with_reducible refine' isIl ?xe9 ?_); (case xe9 => kaf_pre); k_whole) | ((with_reducible refine' isIg ?xe9 ?_); (case xe9 => kaf_pre); k_whole)))
  k_with "eval Subscript" => (k_here; k_dflt ((with_reducible refine' Ev.go ?xe9 ?_); (case xe9 => kaf_pre); k_whole))
  k_with "spliced" => (k_here; k_dflt ((with_reducible refine' EvL.go ?xe9 ?_); (case xe9 => kaf_suf); k_whole); (try dsimp only [List.nil_append, List.cons_append]))
  k_with "eval Call" => (k_here; (with_reducible show wpAny _ _ (eval (Expr.Call (Expr.Name _ _) (_ :: _) [] _) _) _ _ _); k_dflt (refine' evCall ?xF9 ?xX9 ?xT9 ?xe9 ?xk9 ?xl9 ?_ ?xs9 ?xa9 ?xb9 ?xc9; (case xF9 => k_asm); (case xX9 => k_asm); (case xT9 => k_asm); (case xa9 => rfl); (case xb9 => rfl); (case xc9 => rfl); (case xe9 => k_is); (case xk9 => k_is); (case xl9 => kaf_suf); (case xs9 => rfl); k_whole))
  k_with "call ref" => (k_here; (with_reducible show wpAny _ _ (call (Value.ref 103) [_, _, _]) _ _ _); k_dflt (refine' treeUse ihv ?kD ?kv ?kn ?ki ?km ?ks ?kU ?k1 ?k2 ?k3 ?k4 ?k5 ?kK ?kd ?ku ?_; (case k1 => k_asm); (case k2 => k_asm); (case k3 => k_asm); (case k4 => k_asm); (case k5 => k_asm); (case kU => k_updF); (case km => k_mem); (case ks => exact hsb); (case kv => assumption); (case kn => assumption); (case ki => first | with_reducible assumption | exact inc0 (by with_reducible assumption) | exact inc0 (inc0 (by with_reducible assumption)) | exact inc0 (inc0 (inc0 (by with_reducible assumption))) | omega); (case kD => first | exact dm1 (by with_reducible assumption) | omega); (case kK => first | exact rfl | assumption); (case kd => ktr_room); (case ku => ktr_units)); intro v N R' h tk i' t' x e9 F9 N9 hr9 hf9 hi9 ht9 hw9 hb9 hn9)
  k_with "call ref" => (k_here; (with_reducible show wpAny _ _ (call (Value.ref 103) [_, _, _]) _ _ _); k_dflt (refine' treeUse ihc ?kD ?kv ?kn ?ki ?km ?ks ?kU ?k1 ?k2 ?k3 ?k4 ?k5 ?kK ?kd ?ku ?_; (case k1 => k_asm); (case k2 => k_asm); (case k3 => k_asm); (case k4 => k_asm); (case k5 => k_asm); (case kU => k_updF); (case km => k_mem); (case ks => exact hsb); (case kv => assumption); (case kn => assumption); (case ki => first | with_reducible assumption | exact inc0 (by with_reducible assumption) | exact inc0 (inc0 (by with_reducible assumption)) | exact inc0 (inc0 (inc0 (by with_reducible assumption))) | omega); (case kD => first | exact dm1 (by with_reducible assumption) | omega); (case kK => first | exact rfl | assumption); (case kd => ktr_room); (case ku => ktr_units)); intro v N R' h tk i' t' x e9 F9 N9 hr9 hf9 hi9 ht9 hw9 hb9 hn9)
  k_with "call ref" => (k_here; (with_reducible show wpAny _ _ (call (Value.ref 103) [_, _, _]) _ _ _); k_dflt (refine' treeUse ihl ?kD ?kv ?kn ?ki ?km ?ks ?kU ?k1 ?k2 ?k3 ?k4 ?k5 ?kK ?kd ?ku ?_; (case k1 => k_asm); (case k2 => k_asm); (case k3 => k_asm); (case k4 => k_asm); (case k5 => k_asm); (case kU => k_updF); (case km => k_mem); (case ks => exact hsb); (case kv => assumption); (case kn => assumption); (case ki => first | with_reducible assumption | exact inc0 (by with_reducible assumption) | exact inc0 (inc0 (by with_reducible assumption)) | exact inc0 (inc0 (inc0 (by with_reducible assumption))) | omega); (case kD => first | exact dm1 (by with_reducible assumption) | omega); (case kK => first | exact rfl | assumption); (case kd => ktr_room); (case ku => ktr_units)); intro v N R' h tk i' t' x e9 F9 N9 hr9 hf9 hi9 ht9 hw9 hb9 hn9)
  k_with "call ref" => (k_here; (with_reducible show wpAny _ _ (call (Value.ref 103) [_, _, _]) _ _ _); k_dflt (refine' treeUse ihs ?kD ?kv ?kn ?ki ?km ?ks ?kU ?k1 ?k2 ?k3 ?k4 ?k5 ?kK ?kd ?ku ?_; (case k1 => k_asm); (case k2 => k_asm); (case k3 => k_asm); (case k4 => k_asm); (case k5 => k_asm); (case kU => k_updF); (case km => k_mem); (case ks => exact hsb); (case kv => assumption); (case kn => assumption); (case ki => first | with_reducible assumption | exact inc0 (by with_reducible assumption) | exact inc0 (inc0 (by with_reducible assumption)) | exact inc0 (inc0 (inc0 (by with_reducible assumption))) | omega); (case kD => first | exact dm1 (by with_reducible assumption) | omega); (case kK => first | exact rfl | assumption); (case kd => ktr_room); (case ku => ktr_units)); intro v N R' h tk i' t' x e9 F9 N9 hr9 hf9 hi9 ht9 hw9 hb9 hn9)
  k_with "call ref" => (k_here; (with_reducible show wpAny _ _ (call (Value.ref 103) [_, _, _]) _ _ _); k_dflt (refine' treeUse iha ?kD ?kv ?kn ?ki ?km ?ks ?kU ?k1 ?k2 ?k3 ?k4 ?k5 ?kK ?kd ?ku ?_; (case k1 => k_asm); (case k2 => k_asm); (case k3 => k_asm); (case k4 => k_asm); (case k5 => k_asm); (case kU => k_updF); (case km => k_mem); (case ks => exact hsb); (case kv => assumption); (case kn => assumption); (case ki => first | with_reducible assumption | exact inc0 (by with_reducible assumption) | exact inc0 (inc0 (by with_reducible assumption)) | exact inc0 (inc0 (inc0 (by with_reducible assumption))) | omega); (case kD => first | exact dm1 (by with_reducible assumption) | omega); (case kK => first | exact rfl | assumption); (case kd => ktr_room); (case ku => ktr_units)); intro v N R' h tk i' t' x e9 F9 N9 hr9 hf9 hi9 ht9 hw9 hb9 hn9)
  k_with "call ref" => (k_here; (with_reducible show wpAny _ _ (call (Value.ref 98) [_, Value.int 6 _]) _ _ _); k_dflt (refine' nextUse (fun rest a1 a2 => law_next w mean mg mb _ _ _ _ _ _ _ _ _ rest ?kv a1 a2 ?ki ?kl ?kl2 ?kn) ?km ?ks ?kU ?k1 ?k2 ?k3 ?k4 ?k5 ?kK ?kd ?ku ?_; (case k1 => k_asm); (case k2 => k_asm); (case k3 => k_asm); (case k4 => k_asm); (case k5 => k_asm); (case kU => k_updF); (case km => k_mem); (case ks => exact hsb); (case kv => assumption); (case kn => assumption); (case ki => first | with_reducible assumption | exact inc0 (by with_reducible assumption) | exact inc0 (inc0 (by with_reducible assumption)) | exact inc0 (inc0 (inc0 (by with_reducible assumption))) | omega); (case kl => decide); (case kl2 => decide); (case kK => first | exact rfl | assumption); (case kd => ktr_room); (case ku => ktr_units)); intro x t t' h tk h0 h1 F9 N9; (rcases waySplit (x := x) (deep := deep) (c := wh.code) (by assumption) (by assumption) with hx | hx | hx | hx | hx) <;> (try ((rename 2 < _ ∧ _ = (0 : Int) => hD9); have e9 : wh = .any := whIsAny hD9; subst e9; (have ihv := ih .var (.inr rfl)); (have ihc := ih .con (.inr rfl)); (have ihl := ih .lst (.inr rfl)); (have ihs := ih .str (.inr rfl)))) <;> (try ((rename (_ = (4 : Int) ∧ _) ∨ _ => hC9); obtain ⟨s9, hs8, hm8⟩ := whTab hC9)))
  k_with "call ref" => (k_here; (with_reducible show wpAny _ _ (call (Value.ref 98) [_, Value.int 5 _]) _ _ _); k_dflt (refine' nextUse (fun rest a1 a2 => law_next w mean mg mb _ _ _ _ _ _ _ _ _ rest ?kv a1 a2 ?ki ?kl ?kl2 ?kn) ?km ?ks ?kU ?k1 ?k2 ?k3 ?k4 ?k5 ?kK ?kd ?ku ?_; (case k1 => k_asm); (case k2 => k_asm); (case k3 => k_asm); (case k4 => k_asm); (case k5 => k_asm); (case kU => k_updF); (case km => k_mem); (case ks => exact hsb); (case kv => assumption); (case kn => assumption); (case ki => first | with_reducible assumption | exact inc0 (by with_reducible assumption) | exact inc0 (inc0 (by with_reducible assumption)) | exact inc0 (inc0 (inc0 (by with_reducible assumption))) | omega); (case kl => decide); (case kl2 => decide); (case kK => first | exact rfl | assumption); (case kd => ktr_room); (case ku => ktr_units)); intro x t t' h tk h0 h1 F9 N9)
  k_with "call ref" => (k_here; (with_reducible show wpAny _ _ (call (Value.ref 98) [_, Value.int 3 _]) _ _ _); k_dflt (refine' nextUse (fun rest a1 a2 => law_next w mean mg mb _ _ _ _ _ _ _ _ _ rest ?kv a1 a2 ?ki ?kl ?kl2 ?kn) ?km ?ks ?kU ?k1 ?k2 ?k3 ?k4 ?k5 ?kK ?kd ?ku ?_; (case k1 => k_asm); (case k2 => k_asm); (case k3 => k_asm); (case k4 => k_asm); (case k5 => k_asm); (case kU => k_updF); (case km => k_mem); (case ks => exact hsb); (case kv => assumption); (case kn => assumption); (case ki => first | with_reducible assumption | exact inc0 (by with_reducible assumption) | exact inc0 (inc0 (by with_reducible assumption)) | exact inc0 (inc0 (inc0 (by with_reducible assumption))) | omega); (case kl => decide); (case kl2 => decide); (case kK => first | exact rfl | assumption); (case kd => ktr_room); (case ku => ktr_units)); intro x t t' h tk h0 h1 F9 N9; obtain rfl | rfl | rfl : x = 0 ∨ x = 1 ∨ x = 2 := in3 h0 h1)
  k_with "call ref" => (k_here; (with_reducible show wpAny _ _ (call (Value.ref 98) [_, Value.int 2 _]) _ _ _); k_dflt (refine' nextUse (fun rest a1 a2 => law_next w mean mg mb _ _ _ _ _ _ _ _ _ rest ?kv a1 a2 ?ki ?kl ?kl2 ?kn) ?km ?ks ?kU ?k1 ?k2 ?k3 ?k4 ?k5 ?kK ?kd ?ku ?_; (case k1 => k_asm); (case k2 => k_asm); (case k3 => k_asm); (case k4 => k_asm); (case k5 => k_asm); (case kU => k_updF); (case km => k_mem); (case ks => exact hsb); (case kv => assumption); (case kn => assumption); (case ki => first | with_reducible assumption | exact inc0 (by with_reducible assumption) | exact inc0 (inc0 (by with_reducible assumption)) | exact inc0 (inc0 (inc0 (by with_reducible assumption))) | omega); (case kl => decide); (case kl2 => decide); (case kK => first | exact rfl | assumption); (case kd => ktr_room); (case ku => ktr_units)); intro x t t' h tk h0 h1 F9 N9; obtain rfl | rfl : x = 0 ∨ x = 1 := in2 h0 h1)
  k_with "CompSrc" => (k_here; k_dflt (first
    | (refine LCg.CompSrc.range (n := 2) (by rfl) (by k_asm) (by k_asm) (by assumption) (by decide) (by decide) (by exact Nat.le_of_ble_eq_true rfl) ?_; intro g')
    | (refine LCg.CompSrc.range (n := 3) (by rfl) (by k_asm) (by k_asm) (by assumption) (by decide) (by decide) (by exact Nat.le_of_ble_eq_true rfl) ?_; intro g')))
  k_with "CompEnd" => ((rename Fr _ _ _ _ => kF); (rename News _ _ _ _ => kN); (rename _ ∧ _ ∧ _ ∧ _ ∧ LCg.Off3 _ _ _ _ => hoff); (refine LCg.CompEnd.intro kF kN (_ :: _ :: _ :: _ :: _) (fun p hp => hp) ⟨hoff.1, hoff.2.1, hoff.2.2.1, hoff.2.2.2.1, off3_tail (by assumption) (by assumption) (.head _) (.tail _ (.head _)) (.tail _ (.tail _ (.head _))) hoff.2.2.2.2⟩ trivial ?_))
  k_with "UnrEnd" => ((rename Fr _ _ _ _ => kF); (rename News _ _ _ _ => kN); k_dflt (refine' unrSwap kF kN ?koff ?_; (case koff => k_all)))
  k_with "pyIter ref" => (k_here; (with_reducible show wpAny _ _ (pyIter (Value.ref _)) (fun it s₂ => LoopAtV _ _ _ _ _ _ _ _ _ it s₂) _ _); (rename Fr _ _ _ _ => lF'); (rename News _ _ _ _ => lN'); (with_unfolding_all refine' iter_listUnr (vs := [_, _, _, _]) (by rfl) lF' lN' (by k_mem) (by rfl) (by rfl) ?_); clear lF'; intro i' l1; (try k_lt l1))
  k_with "UnrEnd" => ((rename Fr _ _ _ _ => kF); (rename News _ _ _ _ => kN); k_dflt (refine' unrHead kF kN ?koff ⟨?kmm, ?_⟩; (case koff => k_all); (case kmm => k_mem)))
  k_with "isTrue BoolOp" => ((fail_if_success (rename InTest => x9)); (first | k_dflt (refine' testJoin (v := false) ?ka ?_; (case ka => (have mk9 := InTest.mk; k_steps; all_goals first | k_dflt (exact ⟨rfl, _, rfl⟩) | (exfalso; first | exact no1 (by with_reducible assumption) (by with_reducible assumption) (by with_reducible assumption) | exact no2 (by with_reducible assumption) (by with_reducible assumption) (by with_reducible assumption) | exact no3 (by with_reducible assumption) (by with_reducible assumption) (by with_reducible assumption) | exact no4 (by with_reducible assumption) (by with_reducible assumption) (by with_reducible assumption) | exact no5 (by with_reducible assumption) (by with_reducible assumption) (by with_reducible assumption) | omega)))) | k_dflt (refine' testJoin (v := true) ?ka ?_; (case ka => (have mk9 := InTest.mk; k_steps; all_goals first | k_dflt (exact ⟨rfl, _, rfl⟩) | (exfalso; first | exact no1 (by with_reducible assumption) (by with_reducible assumption) (by with_reducible assumption) | exact no2 (by with_reducible assumption) (by with_reducible assumption) (by with_reducible assumption) | exact no3 (by with_reducible assumption) (by with_reducible assumption) (by with_reducible assumption) | exact no4 (by with_reducible assumption) (by with_reducible assumption) (by with_reducible assumption) | exact no5 (by with_reducible assumption) (by with_reducible assumption) (by with_reducible assumption) | omega))))); (intro tk))
  intro b sl i ti k deep td tw vs ns R hdeep hv hn hb hm hi
  have hsb := neN (hb _ hm)
  unfold Ctr
  intro dp un gd cn cs a ccd cl outer A₀ base h₀ L m s Q E B F X N T hk hd hu hret
  refine wpAny_call ?_
  k_dflt (refine' code_defC ?k1 ?k2 ?k3 ?k4 ?k5 ?kA ?kF ?kK ?k6 ?k7 ?k8 ?k9 ?kB ?kD ?_ ?c2 ?c3 ?c4; (case kA => exact rfl); (case kF => exact rfl); (case kK => assumption); (case k1 => k_asm); (case k2 => k_asm); (case k3 => k_asm); (case k4 => k_asm); (case k5 => k_asm); (case k6 => k_is); (case k7 => k_is); (case k8 => ktr_room); (case k9 => exact BindsTo.of_eq rfl); (case kB => exact rfl); (case kD => decide +kernel); (case c2 => exact rfl); (case c3 => exact rfl); (case c4 => exact rfl); k_whole; intro g' L' h' tk' cells' FG' F' N' Y' B' X' T' l1; (try k_lt l1); k_cells Y'; (try simp only [List.cons_append, List.nil_append] at N'); (try dsimp only); (try k_lift B'); (try k_fold)); (refine letE ?_); intro e9; (refine letA ?_); intro A9; (rename Fr _ _ _ _ => F8); (refine letM F8 ?_); clear F8; intro m9 F9
  k_steps
  all_goals first
    | (refine' treeEnd (top := [(_, tupO [.str (Str.ofString "clause") _, .int _ _])]) hret ?kF ?kN ?kU ?k2 ?kM ?kT ?kw ?ki; (case kF => assumption); (case kN => assumption); (case kU => k_updF); (case k2 => repeat' (first | exact List.forall_mem_nil _ | (refine List.forall_mem_cons.mpr ⟨⟨by k_mem, by k_ne, by k_all⟩, ?_⟩))); (case kM => repeat' (first | exact Ext.nil | (refine' Ext.step ?_ ?y ?z ?u; (case y => assumption); (case z => assumption); (case u => assumption)))); (case kT => exact .cl (.head _)); (case kw => exact ⟨by first | with_reducible assumption | omega, by first | with_reducible assumption | omega, by first | exact dlt (by with_reducible assumption) (by with_reducible assumption) | omega⟩); (case ki => first | with_reducible assumption | exact inc0 (by with_reducible assumption) | exact inc0 (inc0 (by with_reducible assumption)) | exact inc0 (inc0 (inc0 (by with_reducible assumption))) | omega))
    | (refine' treeEnd (top := [(_, tupO [.str (Str.ofString "fail") _])]) hret ?kF ?kN ?kU ?k2 ?kM ?kT ?kw ?ki; (case kF => assumption); (case kN => assumption); (case kU => k_updF); (case k2 => repeat' (first | exact List.forall_mem_nil _ | (refine List.forall_mem_cons.mpr ⟨⟨by k_mem, by k_ne, by k_all⟩, ?_⟩))); (case kM => repeat' (first | exact Ext.nil | (refine' Ext.step ?_ ?y ?z ?u; (case y => assumption); (case z => assumption); (case u => assumption)))); (case kT => exact .fail (.head _)); (case kw => exact (by simp only [Wf]; omega)); (case ki => first | with_reducible assumption | exact inc0 (by with_reducible assumption) | exact inc0 (inc0 (by with_reducible assumption)) | exact inc0 (inc0 (inc0 (by with_reducible assumption))) | omega))
    | (refine' treeEnd (top := [(_, tupO [.str (Str.ofString "chain") _, .ref _]), (_, listOf #[_, _] _)]) hret ?kF ?kN ?kU ?k2 ?kM ?kT ?kw ?ki; (case kF => assumption); (case kN => assumption); (case kU => k_updF); (case k2 => repeat' (first | exact List.forall_mem_nil _ | (refine List.forall_mem_cons.mpr ⟨⟨by k_mem, by k_ne, by k_all⟩, ?_⟩))); (case kM => repeat' (first | exact Ext.nil | (refine' Ext.step ?_ ?y ?z ?u; (case y => assumption); (case z => assumption); (case u => assumption)))); (case kT => exact .ch2 (.head _) (.tail _ (.head _)) (TIn.mono (by assumption) (by intro p hp; simp only [List.mem_append, List.mem_cons, hp, true_or, or_true])) (TIn.mono (by assumption) (by intro p hp; simp only [List.mem_append, List.mem_cons, hp, true_or, or_true]))); (case kw => exact ⟨by assumption, by assumption⟩); (case ki => first | with_reducible assumption | exact inc0 (by with_reducible assumption) | exact inc0 (inc0 (by with_reducible assumption)) | exact inc0 (inc0 (inc0 (by with_reducible assumption))) | omega))
    | (refine' treeEnd (top := [(_, tupO [.str (Str.ofString "chain") _, .ref _]), (_, listOf #[_, _, _] _)]) hret ?kF ?kN ?kU ?k2 ?kM ?kT ?kw ?ki; (case kF => assumption); (case kN => assumption); (case kU => k_updF); (case k2 => repeat' (first | exact List.forall_mem_nil _ | (refine List.forall_mem_cons.mpr ⟨⟨by k_mem, by k_ne, by k_all⟩, ?_⟩))); (case kM => repeat' (first | exact Ext.nil | (refine' Ext.step ?_ ?y ?z ?u; (case y => assumption); (case z => assumption); (case u => assumption)))); (case kT => exact .ch3 (.head _) (.tail _ (.head _)) (TIn.mono (by assumption) (by intro p hp; simp only [List.mem_append, List.mem_cons, hp, true_or, or_true])) (TIn.mono (by assumption) (by intro p hp; simp only [List.mem_append, List.mem_cons, hp, true_or, or_true])) (TIn.mono (by assumption) (by intro p hp; simp only [List.mem_append, List.mem_cons, hp, true_or, or_true]))); (case kw => exact ⟨by assumption, by assumption, by assumption⟩); (case ki => first | with_reducible assumption | exact inc0 (by with_reducible assumption) | exact inc0 (inc0 (by with_reducible assumption)) | exact inc0 (inc0 (inc0 (by with_reducible assumption))) | omega))
    | (refine' treeEnd (top := [(_, tupO [.str (Str.ofString "table") _, .str (Str.ofString (Wh.name wh)) _, .ref _, _]), (_, listOf #[] _)]) hret ?kF ?kN ?kU ?k2 ?kM ?kT ?kw ?ki; (case kF => assumption); (case kN => assumption); (case kU => k_updF); (case k2 => repeat' (first | exact List.forall_mem_nil _ | (refine List.forall_mem_cons.mpr ⟨⟨by k_mem, by k_ne, by k_all⟩, ?_⟩))); (case kM => repeat' (first | exact Ext.nil | (refine' Ext.step ?_ ?y ?z ?u; (case y => assumption); (case z => assumption); (case u => assumption)))); (case kT => exact .tb0 (tabIn hm8 (.head _)) (.tail _ (.head _)) (TIn.mono (by assumption) (by intro p hp; simp only [List.mem_append, List.mem_cons, hp, true_or, or_true]))); (case kw => exact ⟨hs8, by assumption⟩); (case ki => first | with_reducible assumption | exact inc0 (by with_reducible assumption) | exact inc0 (inc0 (by with_reducible assumption)) | exact inc0 (inc0 (inc0 (by with_reducible assumption))) | omega))
    | (refine' treeEnd (top := [(_, tupO [.str (Str.ofString "table") _, .str (Str.ofString (Wh.name wh)) _, .ref _, _]), (_, listOf #[.ref _] _), (_, tupO [.int 3 _, _])]) hret ?kF ?kN ?kU ?k2 ?kM ?kT ?kw ?ki; (case kF => assumption); (case kN => assumption); (case kU => k_updF); (case k2 => repeat' (first | exact List.forall_mem_nil _ | (refine List.forall_mem_cons.mpr ⟨⟨by k_mem, by k_ne, by k_all⟩, ?_⟩))); (case kM => repeat' (first | exact Ext.nil | (refine' Ext.step ?_ ?y ?z ?u; (case y => assumption); (case z => assumption); (case u => assumption)))); (case kT => exact .tb1 (tabIn hm8 (.head _)) (.tail _ (.head _)) (.tail _ (.tail _ (.head _))) (TIn.mono (by assumption) (by intro p hp; simp only [List.mem_append, List.mem_cons, hp, true_or, or_true])) (TIn.mono (by assumption) (by intro p hp; simp only [List.mem_append, List.mem_cons, hp, true_or, or_true]))); (case kw => exact ⟨hs8, by assumption, by assumption⟩); (case ki => first | with_reducible assumption | exact inc0 (by with_reducible assumption) | exact inc0 (inc0 (by with_reducible assumption)) | exact inc0 (inc0 (inc0 (by with_reducible assumption))) | omega))
    | (refine' treeEnd (top := [(_, tupO [.str (Str.ofString "table") _, .str (Str.ofString (Wh.name wh)) _, .ref _, _]), (_, listOf #[.ref _, .ref _] _), (_, tupO [.int 3 _, _]), (_, tupO [.int 5 _, _])]) hret ?kF ?kN ?kU ?k2 ?kM ?kT ?kw ?ki; (case kF => assumption); (case kN => assumption); (case kU => k_updF); (case k2 => repeat' (first | exact List.forall_mem_nil _ | (refine List.forall_mem_cons.mpr ⟨⟨by k_mem, by k_ne, by k_all⟩, ?_⟩))); (case kM => repeat' (first | exact Ext.nil | (refine' Ext.step ?_ ?y ?z ?u; (case y => assumption); (case z => assumption); (case u => assumption)))); (case kT => exact .tb2 (tabIn hm8 (.head _)) (.tail _ (.head _)) (.tail _ (.tail _ (.head _))) (TIn.mono (by assumption) (by intro p hp; simp only [List.mem_append, List.mem_cons, hp, true_or, or_true])) (.tail _ (.tail _ (.tail _ (.head _)))) (TIn.mono (by assumption) (by intro p hp; simp only [List.mem_append, List.mem_cons, hp, true_or, or_true])) (TIn.mono (by assumption) (by intro p hp; simp only [List.mem_append, List.mem_cons, hp, true_or, or_true]))); (case kw => exact ⟨hs8, by assumption, by assumption, by assumption⟩); (case ki => first | with_reducible assumption | exact inc0 (by with_reducible assumption) | exact inc0 (inc0 (by with_reducible assumption)) | exact inc0 (inc0 (inc0 (by with_reducible assumption))) | omega))
    | (refine' treeEnd (top := [(_, tupO [.str (Str.ofString "switch") _, .ref ?D9]), (?D9, listOf #[_, _, _, _] _)]) hret ?kF ?kN ?kU ?k2 ?kM ?kT ?kw ?ki; (case kF => assumption); (case kN => assumption); (case kU => k_updF); (case k2 => repeat' (first | exact List.forall_mem_nil _ | (refine List.forall_mem_cons.mpr ⟨⟨by k_mem, by k_ne, by k_all⟩, ?_⟩))); (case kM => repeat' (first | exact Ext.nil | (refine' Ext.step ?_ ?y ?z ?u; (case y => assumption); (case z => assumption); (case u => assumption)))); (case kT => exact .sw (.head _) (.tail _ (.head _)) (TIn.mono (by assumption) (by intro p hp; simp only [List.mem_append, List.mem_cons, hp, true_or, or_true])) (TIn.mono (by assumption) (by intro p hp; simp only [List.mem_append, List.mem_cons, hp, true_or, or_true])) (TIn.mono (by assumption) (by intro p hp; simp only [List.mem_append, List.mem_cons, hp, true_or, or_true])) (TIn.mono (by assumption) (by intro p hp; simp only [List.mem_append, List.mem_cons, hp, true_or, or_true]))); (case kw => exact ⟨rfl, by assumption, by assumption, by assumption, by assumption⟩); (case ki => first | with_reducible assumption | exact inc0 (by with_reducible assumption) | exact inc0 (inc0 (by with_reducible assumption)) | exact inc0 (inc0 (inc0 (by with_reducible assumption))) | omega))
inductive UpT2 (d : Addr) (o : Obj) (e : Addr) (q : Obj) (R : Led) : Led → (Obj → Obj → Led → Led) → Prop where
  | one {r g} : (∀ p ∈ r, p.1 ≠ d) → UpT e q R r g → UpT2 d o e q R ((d, o) :: r) (fun a b R' => (d, a) :: g b R')
  | two {r g} : (∀ p ∈ r, p.1 ≠ e) → UpT d o R r g → UpT2 d o e q R ((e, q) :: r) (fun a b R' => (e, b) :: g a R')
  | tail {p r g} : p.1 ≠ d → p.1 ≠ e → UpT2 d o e q R r g → UpT2 d o e q R (p :: r) (fun a b R' => p :: g a b R')
theorem or1 {x y a b r : Prop} : (x ∨ a ∨ y ∨ b ∨ r) ↔ (x ∨ y ∨ (a ∨ b) ∨ r) := by grind
theorem or2 {x y a b r : Prop} : (y ∨ a ∨ x ∨ b ∨ r) ↔ (x ∨ y ∨ (a ∨ b) ∨ r) := by grind
theorem or3 {x y z b r : Prop} : (z ∨ x ∨ y ∨ b ∨ r) ↔ (x ∨ y ∨ (z ∨ b) ∨ r) := by grind
/-- both at hand: the others B, then R -/
theorem UpT2.split {d e : Addr} {o q : Obj} {R l : Led} {g : Obj → Obj → Led → Led} (U : UpT2 d o e q R l g) :
    ∃ B : Led, (∀ p, p ∈ l ↔ p ∈ (d, o) :: (e, q) :: (B ++ R)) ∧ (∀ a b R' p, p ∈ g a b R' ↔ p ∈ (d, a) :: (e, b) :: (B ++ R')) ∧ (∀ p ∈ B ++ R, p.1 ≠ d) ∧ (∀ p ∈ B ++ R, p.1 ≠ e) := by
  induction U with
  | one h U =>
    obtain ⟨A, B, h1, h2, h3, h4, h5⟩ := U.split
    refine ⟨A ++ B, fun p => by rw [h1]; simp only [List.mem_cons, List.mem_append]; exact or1, fun a b R' p => by simp only [h2, List.mem_cons, List.mem_append]; exact or1, fun p hp => h p (by rw [h1]; simp only [List.mem_cons, List.mem_append] at hp ⊢; grind), fun p hp => ?_⟩
    simp only [List.mem_append] at hp
    rcases hp with (hp | hp) | hp
    · exact h3 p hp
    · exact h4 p hp
    · exact h5 p hp
  | two h U =>
    obtain ⟨A, B, h1, h2, h3, h4, h5⟩ := U.split
    refine ⟨A ++ B, fun p => by rw [h1]; simp only [List.mem_cons, List.mem_append]; exact or2, fun a b R' p => by simp only [h2, List.mem_cons, List.mem_append]; exact or2, fun p hp => ?_, fun p hp => h p (by rw [h1]; simp only [List.mem_cons, List.mem_append] at hp ⊢; grind)⟩
    simp only [List.mem_append] at hp
    rcases hp with (hp | hp) | hp
    · exact h3 p hp
    · exact h4 p hp
    · exact h5 p hp
  | @tail x r g n1 n2 _ ih =>
    obtain ⟨B, h1, h2, h3, h4⟩ := ih
    refine ⟨x :: B, fun p => by simp only [List.mem_cons, h1, List.mem_append]; exact or3, fun a b R' p => by simp only [h2, List.mem_cons, List.mem_append]; exact or3, fun p hp => ?_, fun p hp => ?_⟩
    · rcases List.mem_cons.mp hp with rfl | hp
      · exact n1
      · exact h3 p hp
    · rcases List.mem_cons.mp hp with rfl | hp
      · exact n2
      · exact h4 p hp
theorem labT_len (x : T) (ls : List (Int × T)) (n : Int) : (labT x ls n).2.1.length ≤ ls.length + 1 := by
  cases x <;> simp [labT]
abbrev cnt1 (n : Int) (t : Tok) (k : Nat) : Obj := listOf #[.int n t] k
section
variable {w : World} {mean : ExcName → Option Value} {mg mb : Str → Option Value}
theorem labelUse {la c : Addr} {n : Int} {tn : Tok} {vs : List Value} {ls : List (Int × T)} {kl kc : Nat} {v : Value} {x : T} {R all : Led} {g : Obj → Obj → Led → Led} {dp un : Nat} {gd : Option (List Code)} {cn : Str} {cs : Scope} {a : Addr} {ccd : Value} {cl : List (Str × Addr)} {outer : List Env} {A₀ : Around} {base h₀ : Heap} {L : Addr} {m : Str → Option Value} {s : Shared}
    {Q E : Value → Shared → Prop} (U : UpT2 la (listOf vs.toArray kl) c (cnt1 n tn kc) R all g) (hls : LIn R vs ls) (hx : TIn R v x) (hne : @Ne Nat la c) (hl : vs.length ≤ 1000)
    (B : Below A₀ base outer h₀) (F : Fr h₀ L s.heap m) (X : (Mine.hd.heap_39 w.params).In h₀) (N : News h₀ L s.heap all)
    (T : Top Mine.hd.view_39 (looseW Mine.hd.view_39 [Str.ofString "LinkFault"]) mean mg mb h₀) (hk : cs.kind = .function) (hd : dp + 2 < recursionLimit) (hu : un + 20 < cLine)
    (ret : ∀ t tn' kl' kc' vs' N R' h' tk', R' = N ++ R → Fr h₀ L h' m → News h₀ L h' (g (listOf (List.toArray vs') kl') (cnt1 (labT x ls n).2.2 tn' kc') R') → Fresh N R → Fresh N all → LIn R' vs' (labT x ls n).2.1 → (∀ p ∈ R, p ∈ R') → vs'.length ≤ vs.length + 1 → Q (.int (labT x ls n).1 t) { s with heap := h', toks := tk' }) :
    wpAny (model Mine.pw w) (ktrTop dp un gd cn cs L a ccd cl outer) (call (.ref 117) [v, .ref la, .ref c]) Q E s := by
  obtain ⟨B', h1, h2, h3, h4⟩ := U.split
  refine Ctr.use (law_label w mean mg mb la c n tn vs ls kl kc v x R (B' ++ R) (fun p hp => List.mem_append_right _ hp) hls hx hne h3 h4 hl) B F X (newsSub N fun p hp => (h1 p).mpr hp) T hk hd hu ?_
  rintro r news' h' tk' F' N' ⟨t, tn', kl', kc', vs', N₁, rfl, rfl, hls', hf, hff⟩
  refine ret t tn' kl' kc' vs' N₁ (N₁ ++ R) h' tk' rfl F' (newsSub N' fun p hp => ?_) (hf.mono fun p hp => List.mem_append_right _ hp) ?_ hls' (fun p hp => List.mem_append_right _ hp) (by rw [hls'.length, hls.length]; exact labT_len x ls n)
  · have := (h2 _ _ _ _).mp hp
    simp only [List.mem_cons, List.mem_append] at this ⊢
    grind
  · intro p hp q hq
    have := (h1 q).mp hq
    rcases List.mem_cons.mp this with rfl | this
    · exact (hff p hp).1
    · rcases List.mem_cons.mp this with rfl | this
      · exact (hff p hp).2
      · exact hf p hp q this
end
inductive Ins where
  | lab (n : Int)
  | try_ (l : Int)
  | retry (l : Int)
  | trust (l : Int)
  | sw (a b c d : Int)
  | tb0 (s : Bool) (d : Int)
  | tb1 (s : Bool) (a d : Int)
  | tb2 (s : Bool) (a b d : Int)
  | pro
  | cal (n : Int)
@[reducible] def sname : Bool → String
  | false => "switch_on_constant" | true => "switch_on_structure"
inductive KeyIn (R : Led) : Value → Bool → Int → Prop where
  | con {a n t1 t2} : (a, tupO [.int 4 t1, .int n t2]) ∈ R → KeyIn R (.ref a) false n
  | str {n t} : KeyIn R (.int n t) true n
inductive InsIn (R : Led) : Value → Ins → Prop where
  | lab {a n t1 t2} : (a, tupO [.str (Str.ofString "label") t1, .int n t2]) ∈ R → InsIn R (.ref a) (.lab n)
  | try_ {a l t1 t2 t3} : (a, tupO [.str (Str.ofString "try") t1, .int l t2, .int 2 t3]) ∈ R → InsIn R (.ref a) (.try_ l)
  | retry {a l t1 t2 t3} : (a, tupO [.str (Str.ofString "retry") t1, .int l t2, .int 2 t3]) ∈ R → InsIn R (.ref a) (.retry l)
  | trust {a l t1 t2 t3} : (a, tupO [.str (Str.ofString "trust") t1, .int l t2, .int 2 t3]) ∈ R → InsIn R (.ref a) (.trust l)
  | sw {x a b c d t0 t1 t2 t3 t4} : (x, tupO [.str (Str.ofString "switch_on_term") t0, .int a t1, .int b t2, .int c t3, .int d t4]) ∈ R → InsIn R (.ref x) (.sw a b c d)
  | tb0 {x s q d t0 t1} : (x, tupO [.str (Str.ofString (sname s)) t0, .ref q, .int d t1]) ∈ R → (q, tupO []) ∈ R → InsIn R (.ref x) (.tb0 s d)
  | tb1 {x s q d t0 t1 p1 k1 a u1} : (x, tupO [.str (Str.ofString (sname s)) t0, .ref q, .int d t1]) ∈ R → (q, tupO [.ref p1]) ∈ R → (p1, tupO [k1, .int a u1]) ∈ R → KeyIn R k1 s 3 → InsIn R (.ref x) (.tb1 s a d)
  | tb2 {x s q d t0 t1 p1 k1 a u1 p2 k2 b u2} : (x, tupO [.str (Str.ofString (sname s)) t0, .ref q, .int d t1]) ∈ R → (q, tupO [.ref p1, .ref p2]) ∈ R → (p1, tupO [k1, .int a u1]) ∈ R → KeyIn R k1 s 3 → (p2, tupO [k2, .int b u2]) ∈ R → KeyIn R k2 s 5 → InsIn R (.ref x) (.tb2 s a b d)
  | pro {a t1} : (a, tupO [.str (Str.ofString "proceed") t1]) ∈ R → InsIn R (.ref a) .pro
  | cal {a n t1 t2} : (a, tupO [.str (Str.ofString "call") t1, .int n t2]) ∈ R → InsIn R (.ref a) (.cal n)
theorem KeyIn.mono {R R' : Led} {v s n} (h : KeyIn R v s n) (hs : ∀ p ∈ R, p ∈ R') : KeyIn R' v s n := by
  cases h with
  | con h => exact .con (hs _ h)
  | str => exact .str
def InsIn.Arm (R : Led) (P : Value → Prop) : Ins → Prop
  | .sw a b c d => ∀ x t0 t1 t2 t3 t4, (x, tupO [.str (Str.ofString "switch_on_term") t0, .int a t1, .int b t2, .int c t3, .int d t4]) ∈ R → P (.ref x)
  | .tb0 s d => ∀ x q t0 t1, (x, tupO [.str (Str.ofString (sname s)) t0, .ref q, .int d t1]) ∈ R → (q, tupO []) ∈ R → P (.ref x)
  | .tb1 s a d => ∀ x q t0 t1 p1 k1 u1, (x, tupO [.str (Str.ofString (sname s)) t0, .ref q, .int d t1]) ∈ R → (q, tupO [.ref p1]) ∈ R → (p1, tupO [k1, .int a u1]) ∈ R → KeyIn R k1 s 3 → P (.ref x)
  | .tb2 s a b d => ∀ x q t0 t1 p1 k1 u1 p2 k2 u2, (x, tupO [.str (Str.ofString (sname s)) t0, .ref q, .int d t1]) ∈ R → (q, tupO [.ref p1, .ref p2]) ∈ R → (p1, tupO [k1, .int a u1]) ∈ R → KeyIn R k1 s 3 → (p2, tupO [k2, .int b u2]) ∈ R → KeyIn R k2 s 5 → P (.ref x)
  | _ => False
theorem InsIn.elim {R : Led} {P : Value → Prop} {v : Value} {x : Ins} (hx : InsIn R v x) (K : InsIn.Arm R P x) : P v := by
  cases hx with
  | sw h => exact K _ _ _ _ _ _ h
  | tb0 h1 h2 => exact K _ _ _ _ h1 h2
  | tb1 h1 h2 h3 h4 => exact K _ _ _ _ _ _ _ h1 h2 h3 h4
  | tb2 h1 h2 h3 h4 h5 h6 => exact K _ _ _ _ _ _ _ _ _ _ h1 h2 h3 h4 h5 h6
  | _ => exact K.elim
theorem InsIn.sw_elim {R : Led} {P : Value → Prop} {v : Value} {a b c d : Int} (hx : InsIn R v (.sw a b c d)) (K : ∀ x t0 t1 t2 t3 t4, (x, tupO [.str (Str.ofString "switch_on_term") t0, .int a t1, .int b t2, .int c t3, .int d t4]) ∈ R → P (.ref x)) : P v := hx.elim K
theorem InsIn.tb0_elim {R : Led} {P : Value → Prop} {v : Value} {s : Bool} {d : Int} (hx : InsIn R v (.tb0 s d)) (K : ∀ x q t0 t1, (x, tupO [.str (Str.ofString (sname s)) t0, .ref q, .int d t1]) ∈ R → (q, tupO []) ∈ R → P (.ref x)) : P v := hx.elim K
theorem InsIn.tb1_elim {R : Led} {P : Value → Prop} {v : Value} {s : Bool} {a d : Int} (hx : InsIn R v (.tb1 s a d)) (K : ∀ x q t0 t1 p1 k1 u1, (x, tupO [.str (Str.ofString (sname s)) t0, .ref q, .int d t1]) ∈ R → (q, tupO [.ref p1]) ∈ R → (p1, tupO [k1, .int a u1]) ∈ R → KeyIn R k1 s 3 → P (.ref x)) : P v := hx.elim K
theorem InsIn.tb2_elim {R : Led} {P : Value → Prop} {v : Value} {s : Bool} {a b d : Int} (hx : InsIn R v (.tb2 s a b d)) (K : ∀ x q t0 t1 p1 k1 u1 p2 k2 u2, (x, tupO [.str (Str.ofString (sname s)) t0, .ref q, .int d t1]) ∈ R → (q, tupO [.ref p1, .ref p2]) ∈ R → (p1, tupO [k1, .int a u1]) ∈ R → KeyIn R k1 s 3 → (p2, tupO [k2, .int b u2]) ∈ R → KeyIn R k2 s 5 → P (.ref x)) : P v := hx.elim K
theorem InsIn.mono {R R' : Led} {v i} (h : InsIn R v i) (hs : ∀ p ∈ R, p ∈ R') : InsIn R' v i := by
  cases h with
  | lab h => exact .lab (hs _ h)
  | try_ h => exact .try_ (hs _ h)
  | retry h => exact .retry (hs _ h)
  | trust h => exact .trust (hs _ h)
  | sw h => exact .sw (hs _ h)
  | tb0 h1 h2 => exact .tb0 (hs _ h1) (hs _ h2)
  | tb1 h1 h2 h3 h4 => exact .tb1 (hs _ h1) (hs _ h2) (hs _ h3) (h4.mono hs)
  | tb2 h1 h2 h3 h4 h5 h6 => exact .tb2 (hs _ h1) (hs _ h2) (hs _ h3) (h4.mono hs) (hs _ h5) (h6.mono hs)
  | pro h => exact .pro (hs _ h)
  | cal h => exact .cal (hs _ h)
inductive BIn (R : Led) : List Value → List Ins → Prop where
  | nil : BIn R [] []
  | cons {v i vs is} : InsIn R v i → BIn R vs is → BIn R (v :: vs) (i :: is)
theorem BIn.mono {R R' : Led} {vs is} (h : BIn R vs is) (hs : ∀ p ∈ R, p ∈ R') : BIn R' vs is := by
  induction h with
  | nil => exact .nil
  | cons h _ ih => exact .cons (h.mono hs) ih
theorem BIn.append {R : Led} {vs is vs' is'} (h : BIn R vs is) (h' : BIn R vs' is') : BIn R (vs ++ vs') (is ++ is') := by
  induction h with
  | nil => exact h'
  | cons h _ ih => exact .cons h ih
theorem BIn.length {R : Led} {vs is} (h : BIn R vs is) : vs.length = is.length := by
  induction h with
  | nil => rfl
  | cons _ _ ih => simp [ih]
theorem BIn.get {R : Led} {vs : List Value} {is : List Ins} (h : BIn R vs is) : ∀ {k : Nat} {i : Ins}, is[k]? = some i → ∃ v, vs[k]? = some v ∧ InsIn R v i := by
  induction h with
  | nil => intro k i h; simp at h
  | cons a _ ih =>
    intro k i h
    cases k with
    | zero => simp at h; subst h; exact ⟨_, rfl, a⟩
    | succ k => simp only [List.getElem?_cons_succ] at h ⊢; exact ih h
/-- the rows of a tree, what waits, the count -/
def rowsT (x : T) (ls : List (Int × T)) (n : Int) : List Ins × List (Int × T) × Int :=
  match x with
  | .ch2 a b =>
    let (l1, ls, n) := labT a ls n
    let (l2, ls, n) := labT b ls n
    ([.try_ l1, .trust l2], ls, n)
  | .ch3 a b c =>
    let (l1, ls, n) := labT a ls n
    let (l2, ls, n) := labT b ls n
    let (l3, ls, n) := labT c ls n
    ([.try_ l1, .retry l2, .trust l3], ls, n)
  | .sw a b c d =>
    let (l1, ls, n) := labT a ls n
    let (l2, ls, n) := labT b ls n
    let (l3, ls, n) := labT c ls n
    let (l4, ls, n) := labT d ls n
    ([.sw l1 l2 l3 l4], ls, n)
  | .tb0 s d =>
    let (l1, ls, n) := labT d ls n
    ([.tb0 s l1], ls, n)
  | .tb1 s a d =>
    let (l1, ls, n) := labT a ls n
    let (l2, ls, n) := labT d ls n
    ([.tb1 s l1 l2], ls, n)
  | .tb2 s a b d =>
    let (l1, ls, n) := labT a ls n
    let (l2, ls, n) := labT b ls n
    let (l3, ls, n) := labT d ls n
    ([.tb2 s l1 l2 l3], ls, n)
  | _ => ([], ls, n)
def RowsPost (bl la c : Addr) (n : Int) (is : List Ins) (ls : List (Int × T)) (x : T) (R : Led) (news : Led) (r : Value) : Prop :=
  ∃ bs' kb' vs' kl' tn' kc' N, r = .none ∧ news = (bl, listOf (List.toArray bs') kb') :: (la, listOf (List.toArray vs') kl') :: (c, cnt1 (rowsT x ls n).2.2 tn' kc') :: (N ++ R) ∧
    BIn (N ++ R) bs' (is ++ (rowsT x ls n).1) ∧ LIn (N ++ R) vs' (rowsT x ls n).2.1 ∧ Fresh N R ∧ ∀ p ∈ N, @Ne Nat p.1 bl ∧ @Ne Nat p.1 la ∧ @Ne Nat p.1 c
theorem unrW {h₀ : Heap} {L I : Addr} {it : Obj} {rest : (Str → Option Value) → Led → Prop} {s₁ : Shared} {h' : Heap} {tk : Nat} {m' : Str → Option Value} {all : Led} (F : Fr h₀ L h' m') (N : News h₀ L h' all) (news' : Led) (hI : (I, it) ∈ all) (sub : ∀ p ∈ news', p ∈ all)
    (off : ∀ p ∈ news', p.1 ≠ I) (hr : rest m' news') : UnrEndW h₀ L s₁ [(I, it)] rest { s₁ with heap := h', toks := tk } :=
  ⟨h', tk, m', news', rfl, F, fun p hp => by
    rcases List.mem_cons.mp hp with rfl | hp
    · exact N _ hI
    · exact N _ (sub p hp), fun p hp q hq => by rw [List.mem_singleton.mp hq]; exact off p hp, hr⟩
theorem unrW1 {h₀ : Heap} {L I : Addr} {it : Obj} {rest : (Str → Option Value) → Led → Prop} {s₁ : Shared} {h' : Heap} {tk : Nat} {m' : Str → Option Value} {x : Addr × Obj} {r : Led} (F : Fr h₀ L h' m') (N : News h₀ L h' (x :: (I, it) :: r))
    (off : ∀ p ∈ x :: r, p.1 ≠ I) (hr : rest m' (x :: r)) : UnrEndW h₀ L s₁ [(I, it)] rest { s₁ with heap := h', toks := tk } :=
  unrW F N (x :: r) (.tail _ (.head _)) (fun p hp => by
    rcases List.mem_cons.mp hp with rfl | hp
    · exact .head _
    · exact .tail _ (.tail _ hp)) off hr
theorem unrW2 {h₀ : Heap} {L I : Addr} {it : Obj} {rest : (Str → Option Value) → Led → Prop} {s₁ : Shared} {h' : Heap} {tk : Nat} {m' : Str → Option Value} {x y : Addr × Obj} {r : Led} (F : Fr h₀ L h' m') (N : News h₀ L h' (x :: y :: (I, it) :: r))
    (off : ∀ p ∈ x :: y :: r, p.1 ≠ I) (hr : rest m' (x :: y :: r)) : UnrEndW h₀ L s₁ [(I, it)] rest { s₁ with heap := h', toks := tk } :=
  unrW F N (x :: y :: r) (.tail _ (.tail _ (.head _))) (fun p hp => by
    rcases List.mem_cons.mp hp with rfl | hp
    · exact .head _
    · rcases List.mem_cons.mp hp with rfl | hp
      · exact .tail _ (.head _)
      · exact .tail _ (.tail _ (.tail _ hp))) off hr
section
variable {prog : Program} {w : World} {A : Around} {E : Value → Shared → Prop} {s : Shared} {h₀ h : Heap} {L D : Addr} {m : Str → Option Value} {news : Led}
theorem lenLit {its : Array Value} {n : Nat} {k : Int} {Q : Value → Shared → Prop} (N : News h₀ L s.heap news) (hm : (D, listOf its n) ∈ news) (e : (its.size : Int) = k) (hz : k < 2 ^ 63)
    (h : ∀ t t', Q (.int k t) { s with toks := t' }) : wpAny (model prog w) A (call (.builtin "len") [.ref D]) Q E s :=
  len_list (PySem.IsL.isList (n := n) (N _ hm).1) (e ▸ hz) (e ▸ h _ _)
end
/-- the tail has grown by M, and M is off three -/
structure Ext3 (b l c : Addr) (R M R' : Led) : Prop where
  eq : R' = M ++ R
  fresh : Fresh M R
  off : ∀ p ∈ M, @Ne Nat p.1 b ∧ @Ne Nat p.1 l ∧ @Ne Nat p.1 c
theorem Ext3.nil {b l c : Addr} {R : Led} : Ext3 b l c R [] R := ⟨rfl, Fresh.nil, fun _ h => nomatch h⟩
theorem Ext3.step {b l c : Addr} {R M R₁ R₂ N all : Led} {ob ol oc : Obj} (h : Ext3 b l c R M R₁) (e : R₂ = N ++ R₁) (f : Fresh N R₁) (g : Fresh N all) (h1 : (b, ob) ∈ all) (h2 : (l, ol) ∈ all) (h3 : (c, oc) ∈ all) : Ext3 b l c R (N ++ M) R₂ :=
  ⟨by rw [e, h.eq, List.append_assoc], (f.mono fun p hp => by rw [h.eq]; exact List.mem_append_right _ hp).app h.fresh, fun p hp => (List.mem_append.mp hp).elim (fun hp => ⟨g p hp _ h1, g p hp _ h2, g p hp _ h3⟩) (h.off p)⟩
theorem bin1 {R R' : Led} {bs is v1 i1} (h : BIn R bs is) (hs : ∀ p ∈ R, p ∈ R') (h1 : InsIn R' v1 i1) : BIn R' (bs ++ [v1]) (is ++ [i1]) := (h.mono hs).append (.cons h1 .nil)
theorem bin2 {R R' : Led} {bs is v1 i1 v2 i2} (h : BIn R bs is) (hs : ∀ p ∈ R, p ∈ R') (h1 : InsIn R' v1 i1) (h2 : InsIn R' v2 i2) : BIn R' (bs ++ [v1] ++ [v2]) (is ++ [i1, i2]) := by
  rw [List.append_assoc]; exact (h.mono hs).append (.cons h1 (.cons h2 .nil))
theorem bin3 {R R' : Led} {bs is v1 i1 v2 i2 v3 i3} (h : BIn R bs is) (hs : ∀ p ∈ R, p ∈ R') (h1 : InsIn R' v1 i1) (h2 : InsIn R' v2 i2) (h3 : InsIn R' v3 i3) : BIn R' (bs ++ [v1] ++ [v2] ++ [v3]) (is ++ [i1, i2, i3]) := by
  rw [List.append_assoc, List.append_assoc]; exact (h.mono hs).append (.cons h1 (.cons h2 (.cons h3 .nil)))
theorem ext3_sub {b l c : Addr} {R M R' top : Led} (h : Ext3 b l c R M R') : ∀ p ∈ R, p ∈ top ++ R' := fun p hp => List.mem_append_right _ (by rw [h.eq]; exact List.mem_append_right _ hp)
section
variable {w : World}
theorem rowsEnd {bl la c : Addr} {n : Int} {is : List Ins} {ls : List (Int × T)} {x : T} {R R' M top all : Led} {bs' vs' : List Value} {kb' kl' kc' : Nat} {n' : Int} {tn' : Tok} {h₀ h' : Heap} {L : Addr} {m : Str → Option Value} {s : Shared} {tk' : Nat} {Q : Value → Shared → Prop}
    (hret : ∀ r news' h' tk', Fr h₀ L h' m → News h₀ L h' news' → RowsPost bl la c n is ls x R news' r → Q r { s with heap := h', toks := tk' })
    (F : Fr h₀ L h' m) (N : News h₀ L h' all)
    (hB : (bl, listOf bs'.toArray kb') ∈ all) (hL : (la, listOf vs'.toArray kl') ∈ all) (hC : (c, cnt1 n' tn' kc') ∈ all) (hR : ∀ p ∈ R', p ∈ all)
    (h2 : ∀ p ∈ top, p ∈ all ∧ (@Ne Nat p.1 bl ∧ @Ne Nat p.1 la ∧ @Ne Nat p.1 c) ∧ ∀ q ∈ R', q.1 ≠ p.1) (hM : Ext3 bl la c R M R')
    (hbs : BIn (top ++ R') bs' (is ++ (rowsT x ls n).1)) (hls : LIn R' vs' (rowsT x ls n).2.1) (hn : n' = (rowsT x ls n).2.2) : Q .none { s with heap := h', toks := tk' } := by
  subst hn
  have hR' : ∀ p ∈ top ++ R', p ∈ (top ++ M) ++ R := fun p hp => by rw [List.append_assoc, ← hM.eq]; exact hp
  refine hret .none ((bl, listOf bs'.toArray kb') :: (la, listOf vs'.toArray kl') :: (c, cnt1 (rowsT x ls n).2.2 tn' kc') :: ((top ++ M) ++ R)) h' tk' F (fun p hp => N p ?_)
    ⟨bs', kb', vs', kl', tn', kc', top ++ M, rfl, rfl, hbs.mono hR', hls.mono (fun p hp => hR' p (List.mem_append_right _ hp)), ?_, ?_⟩
  · rcases List.mem_cons.mp hp with rfl | hp
    · exact hB
    · rcases List.mem_cons.mp hp with rfl | hp
      · exact hL
      · rcases List.mem_cons.mp hp with rfl | hp
        · exact hC
        · rcases List.mem_append.mp hp with hp | hp
          · rcases List.mem_append.mp hp with hp | hp
            · exact (h2 p hp).1
            · exact hR p (by rw [hM.eq]; exact List.mem_append_left _ hp)
          · exact hR p (by rw [hM.eq]; exact List.mem_append_right _ hp)
  · intro p hp q hq
    rcases List.mem_append.mp hp with hp | hp
    · exact Ne.symm ((h2 p hp).2.2 q (by rw [hM.eq]; exact List.mem_append_right _ hq))
    · exact hM.fresh p hp q hq
  · intro p hp
    rcases List.mem_append.mp hp with hp | hp
    · exact (h2 p hp).2.1
    · exact hM.off p hp
end
theorem ne_of_off {a b : Addr} {L : Led} {o : Obj} (h : ∀ p ∈ L, p.1 ≠ a) (m : (b, o) ∈ L) : a ≠ b := Ne.symm (h _ m)
theorem ne_of_off' {a b : Addr} {L : Led} {o : Obj} (h : ∀ p ∈ L, p.1 ≠ a) (m : (b, o) ∈ L) : b ≠ a := h _ m
theorem off3_I {I C D : Addr} {l : Led} (h : LCg.Off3 I C D l) : ∀ p ∈ l, p.1 ≠ I := fun p hp => (h.mem p hp).1
theorem off3_C {I C D : Addr} {l : Led} (h : LCg.Off3 I C D l) : ∀ p ∈ l, p.1 ≠ C := fun p hp => (h.mem p hp).2.1
theorem off3_D {I C D : Addr} {l : Led} (h : LCg.Off3 I C D l) : ∀ p ∈ l, p.1 ≠ D := fun p hp => (h.mem p hp).2.2
theorem rowsT_sw {a b c d : T} {ls l1 l2 l3 l4 : List (Int × T)} {n n1 n2 n3 n4 i1 i2 i3 i4 : Int} (e1 : labT a ls n = (i1, l1, n1)) (e2 : labT b l1 n1 = (i2, l2, n2)) (e3 : labT c l2 n2 = (i3, l3, n3)) (e4 : labT d l3 n3 = (i4, l4, n4)) :
    rowsT (.sw a b c d) ls n = ([.sw i1 i2 i3 i4], l4, n4) := by
  simp only [rowsT, e1, e2, e3, e4]
section
variable {w : World} {mean : ExcName → Option Value} {mg mb : Str → Option Value}
theorem labelUse2 {la c : Addr} {n : Int} {tn : Tok} {vs : List Value} {ls : List (Int × T)} {kl kc : Nat} {v : Value} {x : T} {R all : Led} {g : Obj → Obj → Led → Led} {dp un : Nat} {gd : Option (List Code)} {cn : Str} {cs : Scope} {a : Addr} {ccd : Value} {cl : List (Str × Addr)} {outer : List Env} {A₀ : Around} {base h₀ : Heap} {L : Addr} {m : Str → Option Value} {s : Shared}
    {Q E : Value → Shared → Prop} (U : UpT2 la (listOf vs.toArray kl) c (cnt1 n tn kc) R all g) (hls : LIn R vs ls) (hx : TIn R v x) (hne : @Ne Nat la c) (hl : vs.length ≤ 1000)
    (B : Below A₀ base outer h₀) (F : Fr h₀ L s.heap m) (X : (Mine.hd.heap_39 w.params).In h₀) (N : News h₀ L s.heap all)
    (T : Top Mine.hd.view_39 (looseW Mine.hd.view_39 [Str.ofString "LinkFault"]) mean mg mb h₀) (hk : cs.kind = .function) (hd : dp + 2 < recursionLimit) (hu : un + 20 < cLine)
    (ret : ∀ l ls' n' t tn' kl' kc' vs' N R' h' tk', labT x ls n = (l, ls', n') → R' = N ++ R → Fr h₀ L h' m → News h₀ L h' (g (listOf (List.toArray vs') kl') (cnt1 n' tn' kc') R') → Fresh N R → Fresh N all → LIn R' vs' ls' → (∀ p ∈ R, p ∈ R') → vs'.length ≤ vs.length + 1 → Q (.int l t) { s with heap := h', toks := tk' }) :
    wpAny (model Mine.pw w) (ktrTop dp un gd cn cs L a ccd cl outer) (call (.ref 117) [v, .ref la, .ref c]) Q E s :=
  labelUse U hls hx hne hl B F X N T hk hd hu fun t tn' kl' kc' vs' N R' h' tk' e F' N' h1 h2 h3 h4 h5 => ret _ _ _ t tn' kl' kc' vs' N R' h' tk' rfl e F' N' h1 h2 h3 h4 h5
theorem rowsEndE {bl la c : Addr} {n : Int} {is is' : List Ins} {ls ls' : List (Int × T)} {x : T} {R R' M top all : Led} {bs' vs' : List Value} {kb' kl' kc' : Nat} {n' : Int} {tn' : Tok} {h₀ h' : Heap} {L : Addr} {m : Str → Option Value} {s : Shared} {tk' : Nat} {Q : Value → Shared → Prop}
    (hret : ∀ r news' h' tk', Fr h₀ L h' m → News h₀ L h' news' → RowsPost bl la c n is ls x R news' r → Q r { s with heap := h', toks := tk' })
    (F : Fr h₀ L h' m) (N : News h₀ L h' all)
    (hB : (bl, listOf bs'.toArray kb') ∈ all) (hL : (la, listOf vs'.toArray kl') ∈ all) (hC : (c, cnt1 n' tn' kc') ∈ all) (hR : ∀ p ∈ R', p ∈ all)
    (h2 : ∀ p ∈ top, p ∈ all ∧ (@Ne Nat p.1 bl ∧ @Ne Nat p.1 la ∧ @Ne Nat p.1 c) ∧ ∀ q ∈ R', q.1 ≠ p.1) (hM : Ext3 bl la c R M R')
    (e : rowsT x ls n = (is', ls', n'))
    (hbs : BIn (top ++ R') bs' (is ++ is')) (hls : LIn R' vs' ls') : Q .none { s with heap := h', toks := tk' } :=
  rowsEnd hret F N hB hL hC hR h2 hM (by rw [e]; exact hbs) (by rw [e]; exact hls) (by rw [e])
end
set_option maxRecDepth 100000 in
set_option maxHeartbeats 8000000 in
theorem rows_ch2 (w : World) (mean : ExcName → Option Value) (mg mb : Str → Option Value) (bl la c : Addr) (n : Int) (tn : Tok) (bs : List Value) (is : List Ins) (vs : List Value) (ls : List (Int × T)) (kb kl kc : Nat) (tv : Value) (x1 x2 : T) (R : Led)
    (hbs : BIn R bs is) (hls : LIn R vs ls) (hx : TIn R tv (.ch2 x1 x2)) (hbl : @Ne Nat bl la) (hbc : @Ne Nat bl c) (hlc : @Ne Nat la c) (h1 : ∀ p ∈ R, p.1 ≠ bl) (h2 : ∀ p ∈ R, p.1 ≠ la) (h3 : ∀ p ∈ R, p.1 ≠ c) (hb1 : bs.length ≤ 1000) (hl1 : vs.length ≤ 990) :
    Ctr w mean mg mb 122 4 40 ((bl, listOf bs.toArray kb) :: (la, listOf vs.toArray kl) :: (c, cnt1 n tn kc) :: R) [tv, .ref bl, .ref la, .ref c] (RowsPost bl la c n is ls (.ch2 x1 x2) R) := by
  k_with_none
  k_with "k_all" => first | with_reducible assumption | (refine' List.forall_mem_cons.mpr ⟨?qa9, ?qb9⟩; (case qa9 => k_ne); (case qb9 => k_all)) | exact allLt_ne (by with_reducible assumption) | exact off1_ne4 (by with_reducible assumption) | exact allLt_ne1 (by with_reducible assumption) | exact allLt_ne2 (by with_reducible assumption) | exact allLt_ne3 (by with_reducible assumption) | exact allLt_ne4 (by with_reducible assumption) | exact allLt_ne5 (by with_reducible assumption) | exact allLt_ne6 (by with_reducible assumption) | exact allLt_ne7 (by with_reducible assumption) | exact allLt_ne8 (by with_reducible assumption) | exact allLt_ne9 (by with_reducible assumption) | exact allLt_ne10 (by with_reducible assumption) | exact allLt_ne11 (by with_reducible assumption) | exact allLt_ne12 (by with_reducible assumption) | exact tail_ne (by with_reducible assumption) (fresh_ne (by with_reducible assumption) (by k_mem)) (by k_all) | fail "k_all"
  k_with "k_updF" => first | (refine' UpT.head ?ua9 ?ub9; (case ub9 => k_all); (case ua9 => k_updF)) | (refine' UpT.tail ?ua9 ?ub9; (case ua9 => k_ne); (case ub9 => k_updF)) | (refine' TailOf.cons ?ua9; (case ua9 => k_updF)) | exact TailOf.nil | fail "updT"
  k_with "k_updF" => first | (refine' UpT2.one ?ua9 ?ub9; (case ua9 => k_all); (case ub9 => k_updF)) | (refine' UpT2.two ?ua9 ?ub9; (case ua9 => k_all); (case ub9 => k_updF)) | (refine' UpT2.tail ?ua9 ?ub9 ?uc9; (case ua9 => k_ne); (case ub9 => k_ne); (case uc9 => k_updF)) | fail "upd2"
  k_with "kaf_pre" => first | (refine' evI ?pe9 ?pN9 ?pm9 ?px9; (case pe9 => kaf_pre); (case pN9 => k_asm); (case pm9 => k_mem); (case px9 => rfl)) | (refine' evL ?pF9 ?pv9 ?pa9 ?pb9 ?pc9; (case pF9 => k_asm); (case pa9 => rfl); (case pb9 => rfl); (case pc9 => rfl); (case pv9 => rfl)) | (refine' evC ?pN9 ?pl9 ?pm9 ?pd9 ?pa9 ?pb9 ?pc9; (case pa9 => rfl); (case pb9 => rfl); (case pc9 => rfl); (case pN9 => k_asm); (case pl9 => rfl); (case pm9 => k_mem); (case pd9 => k_asm)) | (refine' evK ?pF9 ?pX9 ?pT9 ?pe9 ?pa9 ?pb9 ?pc9; (case pF9 => k_asm); (case pX9 => k_asm); (case pT9 => k_asm); (case pa9 => rfl); (case pb9 => rfl); (case pc9 => rfl); (case pe9 => k_is))
  k_with "kaf_suf" => first | exact evl0 | (refine' evlI ?sl9; (case sl9 => kaf_suf)) | (refine' evlS ?sl9; (case sl9 => kaf_suf)) | (refine' evlN ?se9 ?sl9 ?sn9; (case sn9 => rfl); (case se9 => kaf_pre); (case sl9 => kaf_suf)) | (refine' evlE ?se9 ?sl9 ?sn9; (case sn9 => rfl); (case se9 => kaf_pre); (case sl9 => kaf_suf))
  k_with "k_ne" => (refine neN ?_; (try dsimp only); first | with_reducible assumption | exact Ne.symm (by with_reducible assumption) | (refine Nat.ne_of_gt ((?_ : ChainTo _ _ _ _) (by with_reducible assumption)); intro hch; with_reducible (first | exact And.left hch | exact And.left (And.right hch) | exact And.left (And.right (And.right hch)) | exact And.left (And.right (And.right (And.right hch))) | exact And.left (And.right (And.right (And.right (And.right hch)))) | exact And.left (And.right (And.right (And.right (And.right (And.right hch))))) | exact And.left (And.right (And.right (And.right (And.right (And.right (And.right hch)))))) | exact And.left (And.right (And.right (And.right (And.right (And.right (And.right (And.right hch))))))) | exact And.left (And.right (And.right (And.right (And.right (And.right (And.right (And.right (And.right hch)))))))) | exact And.left (And.right (And.right (And.right (And.right (And.right (And.right (And.right (And.right (And.right hch))))))))) | exact And.left (And.right (And.right (And.right (And.right (And.right (And.right (And.right (And.right (And.right (And.right hch)))))))))) | exact And.left (And.right (And.right (And.right (And.right (And.right (And.right (And.right (And.right (And.right (And.right (And.right hch))))))))))) | exact And.left (And.right (And.right (And.right (And.right (And.right (And.right (And.right (And.right (And.right (And.right (And.right (And.right hch)))))))))))) | exact And.left (And.right (And.right (And.right (And.right (And.right (And.right (And.right (And.right (And.right (And.right (And.right (And.right (And.right hch))))))))))))))) | (refine Nat.ne_of_lt ((?_ : ChainTo _ _ _ _) (by with_reducible assumption)); intro hch; with_reducible (first | exact And.left hch | exact And.left (And.right hch) | exact And.left (And.right (And.right hch)) | exact And.left (And.right (And.right (And.right hch))) | exact And.left (And.right (And.right (And.right (And.right hch)))) | exact And.left (And.right (And.right (And.right (And.right (And.right hch))))) | exact And.left (And.right (And.right (And.right (And.right (And.right (And.right hch)))))) | exact And.left (And.right (And.right (And.right (And.right (And.right (And.right (And.right hch))))))) | exact And.left (And.right (And.right (And.right (And.right (And.right (And.right (And.right (And.right hch)))))))) | exact And.left (And.right (And.right (And.right (And.right (And.right (And.right (And.right (And.right (And.right hch))))))))) | exact And.left (And.right (And.right (And.right (And.right (And.right (And.right (And.right (And.right (And.right (And.right hch)))))))))) | exact And.left (And.right (And.right (And.right (And.right (And.right (And.right (And.right (And.right (And.right (And.right (And.right hch))))))))))) | exact And.left (And.right (And.right (And.right (And.right (And.right (And.right (And.right (And.right (And.right (And.right (And.right (And.right hch)))))))))))) | exact And.left (And.right (And.right (And.right (And.right (And.right (And.right (And.right (And.right (And.right (And.right (And.right (And.right (And.right hch))))))))))))))) | exact Nat.ne_of_gt (Nat.lt_succ_of_lt (And.left (by with_reducible assumption))) | exact Nat.ne_of_lt (Nat.lt_succ_of_lt (And.left (by with_reducible assumption))) | exact Nat.ne_of_gt (Nat.lt_succ_of_lt (And.left (And.right (by with_reducible assumption)))) | exact Nat.ne_of_lt (Nat.lt_succ_of_lt (And.left (And.right (by with_reducible assumption)))) | exact Nat.ne_of_gt (Nat.lt_succ_of_lt (And.left (And.right (And.right (by with_reducible assumption))))) | exact Nat.ne_of_lt (Nat.lt_succ_of_lt (And.left (And.right (And.right (by with_reducible assumption))))) | exact Nat.ne_of_gt (Nat.lt_succ_of_lt (Nat.lt_succ_of_lt (And.left (by with_reducible assumption)))) | exact Nat.ne_of_lt (Nat.lt_succ_of_lt (Nat.lt_succ_of_lt (And.left (by with_reducible assumption)))) | exact Nat.ne_of_gt (Nat.lt_succ_of_lt (Nat.lt_succ_of_lt (And.left (And.right (by with_reducible assumption))))) | exact Nat.ne_of_lt (Nat.lt_succ_of_lt (Nat.lt_succ_of_lt (And.left (And.right (by with_reducible assumption))))) | exact Nat.ne_of_gt (Nat.lt_succ_of_lt (Nat.lt_succ_of_lt (And.left (And.right (And.right (by with_reducible assumption)))))) | exact Nat.ne_of_lt (Nat.lt_succ_of_lt (Nat.lt_succ_of_lt (And.left (And.right (And.right (by with_reducible assumption)))))) | exact Nat.ne_of_gt (Nat.lt_succ_of_lt (Nat.lt_succ_of_lt (Nat.lt_succ_of_lt (And.left (by with_reducible assumption))))) | exact Nat.ne_of_lt (Nat.lt_succ_of_lt (Nat.lt_succ_of_lt (Nat.lt_succ_of_lt (And.left (by with_reducible assumption))))) | exact Nat.ne_of_gt (Nat.lt_succ_of_lt (Nat.lt_succ_of_lt (Nat.lt_succ_of_lt (And.left (And.right (by with_reducible assumption)))))) | exact Nat.ne_of_lt (Nat.lt_succ_of_lt (Nat.lt_succ_of_lt (Nat.lt_succ_of_lt (And.left (And.right (by with_reducible assumption)))))) | exact Nat.ne_of_gt (Nat.lt_succ_of_lt (Nat.lt_succ_of_lt (Nat.lt_succ_of_lt (And.left (And.right (And.right (by with_reducible assumption))))))) | exact Nat.ne_of_lt (Nat.lt_succ_of_lt (Nat.lt_succ_of_lt (Nat.lt_succ_of_lt (And.left (And.right (And.right (by with_reducible assumption))))))) | exact Nat.ne_of_gt (Nat.lt_succ_self _) | exact Nat.ne_of_lt (Nat.lt_succ_self _) | exact Nat.ne_of_gt (Nat.lt_succ_of_lt (Nat.lt_succ_self _)) | exact Nat.ne_of_lt (Nat.lt_succ_of_lt (Nat.lt_succ_self _)) | exact ((And.left (And.left (by with_reducible assumption))) : @Ne Nat _ _) | exact Ne.symm ((And.left (And.left (by with_reducible assumption))) : @Ne Nat _ _) | exact ((And.left (And.right (And.left (by with_reducible assumption)))) : @Ne Nat _ _) | exact Ne.symm ((And.left (And.right (And.left (by with_reducible assumption)))) : @Ne Nat _ _) | exact ((And.right (And.right (And.left (by with_reducible assumption)))) : @Ne Nat _ _) | exact Ne.symm ((And.right (And.right (And.left (by with_reducible assumption)))) : @Ne Nat _ _) | exact ((And.left (And.left (And.right (by with_reducible assumption)))) : @Ne Nat _ _) | exact Ne.symm ((And.left (And.left (And.right (by with_reducible assumption)))) : @Ne Nat _ _) | exact ((And.left (And.right (And.left (And.right (by with_reducible assumption))))) : @Ne Nat _ _) | exact Ne.symm ((And.left (And.right (And.left (And.right (by with_reducible assumption))))) : @Ne Nat _ _) | exact ((And.right (And.right (And.left (And.right (by with_reducible assumption))))) : @Ne Nat _ _) | exact Ne.symm ((And.right (And.right (And.left (And.right (by with_reducible assumption))))) : @Ne Nat _ _) | exact ((And.left (And.left (And.right (And.right (by with_reducible assumption))))) : @Ne Nat _ _) | exact Ne.symm ((And.left (And.left (And.right (And.right (by with_reducible assumption))))) : @Ne Nat _ _) | exact ((And.left (And.right (And.left (And.right (And.right (by with_reducible assumption)))))) : @Ne Nat _ _) | exact Ne.symm ((And.left (And.right (And.left (And.right (And.right (by with_reducible assumption)))))) : @Ne Nat _ _) | exact ((And.right (And.right (And.left (And.right (And.right (by with_reducible assumption)))))) : @Ne Nat _ _) | exact Ne.symm ((And.right (And.right (And.left (And.right (And.right (by with_reducible assumption)))))) : @Ne Nat _ _) | exact ((And.left (And.left (And.right (And.right (And.right (by with_reducible assumption)))))) : @Ne Nat _ _) | exact Ne.symm ((And.left (And.left (And.right (And.right (And.right (by with_reducible assumption)))))) : @Ne Nat _ _) | exact ((And.left (And.right (And.left (And.right (And.right (And.right (by with_reducible assumption))))))) : @Ne Nat _ _) | exact Ne.symm ((And.left (And.right (And.left (And.right (And.right (And.right (by with_reducible assumption))))))) : @Ne Nat _ _) | exact ((And.right (And.right (And.left (And.right (And.right (And.right (by with_reducible assumption))))))) : @Ne Nat _ _) | exact Ne.symm ((And.right (And.right (And.left (And.right (And.right (And.right (by with_reducible assumption))))))) : @Ne Nat _ _) | exact ((And.left (And.left (And.right (And.right (And.right (And.right (by with_reducible assumption))))))) : @Ne Nat _ _) | exact Ne.symm ((And.left (And.left (And.right (And.right (And.right (And.right (by with_reducible assumption))))))) : @Ne Nat _ _) | exact ((And.left (And.right (And.left (And.right (And.right (And.right (And.right (by with_reducible assumption)))))))) : @Ne Nat _ _) | exact Ne.symm ((And.left (And.right (And.left (And.right (And.right (And.right (And.right (by with_reducible assumption)))))))) : @Ne Nat _ _) | exact ((And.right (And.right (And.left (And.right (And.right (And.right (And.right (by with_reducible assumption)))))))) : @Ne Nat _ _) | exact Ne.symm ((And.right (And.right (And.left (And.right (And.right (And.right (And.right (by with_reducible assumption)))))))) : @Ne Nat _ _) | exact ((And.left (And.left (And.right (And.right (And.right (And.right (And.right (by with_reducible assumption)))))))) : @Ne Nat _ _) | exact Ne.symm ((And.left (And.left (And.right (And.right (And.right (And.right (And.right (by with_reducible assumption)))))))) : @Ne Nat _ _) | exact ((And.left (And.right (And.left (And.right (And.right (And.right (And.right (And.right (by with_reducible assumption))))))))) : @Ne Nat _ _) | exact Ne.symm ((And.left (And.right (And.left (And.right (And.right (And.right (And.right (And.right (by with_reducible assumption))))))))) : @Ne Nat _ _) | exact ((And.right (And.right (And.left (And.right (And.right (And.right (And.right (And.right (by with_reducible assumption))))))))) : @Ne Nat _ _) | exact Ne.symm ((And.right (And.right (And.left (And.right (And.right (And.right (And.right (And.right (by with_reducible assumption))))))))) : @Ne Nat _ _) | exact ((And.left (And.left (And.right (And.right (And.right (And.right (And.right (And.right (by with_reducible assumption))))))))) : @Ne Nat _ _) | exact Ne.symm ((And.left (And.left (And.right (And.right (And.right (And.right (And.right (And.right (by with_reducible assumption))))))))) : @Ne Nat _ _) | exact ((And.left (And.right (And.left (And.right (And.right (And.right (And.right (And.right (And.right (by with_reducible assumption)))))))))) : @Ne Nat _ _) | exact Ne.symm ((And.left (And.right (And.left (And.right (And.right (And.right (And.right (And.right (And.right (by with_reducible assumption)))))))))) : @Ne Nat _ _) | exact ((And.right (And.right (And.left (And.right (And.right (And.right (And.right (And.right (And.right (by with_reducible assumption)))))))))) : @Ne Nat _ _) | exact Ne.symm ((And.right (And.right (And.left (And.right (And.right (And.right (And.right (And.right (And.right (by with_reducible assumption)))))))))) : @Ne Nat _ _) | omega)
  k_with "ktr_room" => ((try simp only [depth_under_make, depth_under_kw, depth_in1, depth_deeper, depth_caller]); (try dsimp only [ktrTop]); first | exact Nat.lt_of_le_of_lt (Nat.le_add_right _ _) (by with_reducible assumption) | exact roomStep (by with_reducible assumption) (by first | exact Nat.le_refl _ | decide | exact r2 _ | omega) | fail "room")
  k_with "ktr_units" => ((try simp only [units_in1, units_deeper, Around.mark_units, units_caller]); (try dsimp only [ktrTop]); first | exact unitStep (by with_reducible assumption) (by first | exact Nat.le_refl _ | decide | exact u20 _ | exact u40 _ | omega) | fail "units")
  k_with "k_mem" => first | exact tail_mem (by assumption) (by k_mem) | fail "k_mem"
  k_with "k_mem" => assumption
  k_with "k_mem" => first | exact List.mem_cons_of_mem _ (by assumption) | fail "k_mem"
  k_with "size_fits" => (simp only [List.size_toArray, Array.size_push, List.length_append, List.length_cons, List.length_nil, PySem.sizeLine_eq] <;> omega)
  k_with "exec If" => (k_here; k_fold)
  k_with "exec Assign" => (k_here; k_fold)
  k_with "exec Expr" => (k_here; k_fold)
  k_with "exec Return some" => (k_here; k_fold)
  k_with "execs cons" => (k_here; first | k_fold | ((with_reducible refine execsG ?_); intro t9; (try dsimp only)))
  k_with "execs nil" => (k_here; (with_reducible refine wpAny_execs_nil ?_); (try dsimp only))
  k_with "call builtin:len" => (k_here; (with_reducible show wpAny _ _ (call (Value.builtin _) [Value.ref _]) _ _ _); k_dflt (first | (refine' lenLit (k := 2) ?N ?m ?e ?z ?_; (case N => k_asm); (case m => k_mem); (case e => rfl); (case z => decide)) | (refine' lenLit (k := 3) ?N ?m ?e ?z ?_; (case N => k_asm); (case m => k_mem); (case e => rfl); (case z => decide))); intro t t')
  k_with "ite" => (k_here; first | (refine ite_pos (by first | omega | (simp only [beq_iff_eq, bne_iff_ne, decide_eq_true_eq]; omega)) ?_) | (refine ite_neg (by first | omega | (simp only [beq_iff_eq, bne_iff_ne, decide_eq_true_eq]; omega)) ?_))
  k_with "exec For Tuple Subscript cons nil" => k_extra "exec For Tuple"
  k_with "subscriptTail" => (k_here; (with_reducible show wpAny _ _ (subscriptTail _ _ (Value.ref _) (Value.int _ _)) _ _ _); (with_unfolding_all refine' litItem ?N ?m ?a ?b ?c ?_ ?d; (case N => k_asm); (case m => k_mem); (case a => decide); (case b => decide); (case c => rfl); (case d => with_unfolding_all rfl); k_whole))
  k_with "call builtin:list.index" => (k_here; (with_reducible show wpAny _ _ (call (Value.builtin _) [Value.ref _, Value.str _ _]) _ _ _); k_dflt (refine' kindIndex ?k0 ?N ?m ?_; (case k0 => with_reducible assumption); (case N => k_asm); (case m => k_mem)); dsimp only [Wh.ixI])
  k_with "exec If" => (k_here; k_dflt (first | ((with_reducible refine' ifT ?xe9 ?xb9 ?_); (case xe9 => kaf_pre); (case xb9 => decide); k_whole) | ((with_reducible refine' ifF ?xe9 ?xb9 ?_); (case xe9 => kaf_pre); (case xb9 => decide); k_whole)))
  k_with "isTrue Compare" => (k_here; k_dflt (first | ((with_reducible refine' isT ?xe9 ?xb9 ?_); (case xe9 => kaf_pre); (case xb9 => decide); k_whole) | ((with_reducible refine' isF ?xe9 ?xb9 ?_); (case xe9 => kaf_pre); (case xb9 => decide); k_whole) | ((with_reducible refine' isI ?xe9 ?_); (case xe9 => kaf_pre); k_whole) | ((with_reducible refine' isIl ?xe9 ?_); (case xe9 => kaf_pre); k_whole) | ((with_reducible refine' isIg ?xe9 ?_); (case xe9 => kaf_pre); k_whole)))
  k_with "eval Subscript" => (k_here; k_dflt ((with_reducible refine' Ev.go ?xe9 ?_); (case xe9 => kaf_pre); k_whole))
  k_with "spliced" => (k_here; k_dflt ((with_reducible refine' EvL.go ?xe9 ?_); (case xe9 => kaf_suf); k_whole); (try dsimp only [List.nil_append, List.cons_append]))
  k_with "eval Call" => (k_here; (with_reducible show wpAny _ _ (eval (Expr.Call (Expr.Name _ _) (_ :: _) [] _) _) _ _ _); k_dflt (refine' evCall ?xF9 ?xX9 ?xT9 ?xe9 ?xk9 ?xl9 ?_ ?xs9 ?xa9 ?xb9 ?xc9; (case xF9 => k_asm); (case xX9 => k_asm); (case xT9 => k_asm); (case xa9 => rfl); (case xb9 => rfl); (case xc9 => rfl); (case xe9 => k_is); (case xk9 => k_is); (case xl9 => kaf_suf); (case xs9 => rfl); k_whole))
  k_with "call ref" => (k_here; (with_reducible show wpAny _ _ (call (Value.ref 117) [_, _, _]) _ _ _); k_dflt (refine' labelUse ?kU ?ks ?kx ?kn ?kl ?k1 ?k2 ?k3 ?k4 ?k5 ?kK ?kd ?ku ?_; (case k1 => k_asm); (case k2 => k_asm); (case k3 => k_asm); (case k4 => k_asm); (case k5 => k_asm); (case kU => k_updF); (case ks => assumption); (case kx => first | assumption | exact TIn.mono (by assumption) (by assumption) | exact TIn.mono (by assumption) (fun p hp => tail_mem (by assumption) (tail_mem (by assumption) hp)) | exact TIn.mono (by assumption) (fun p hp => tail_mem (by assumption) (tail_mem (by assumption) (tail_mem (by assumption) hp)))); (case kn => exact hlc); (case kl => omega); (case kK => first | exact rfl | assumption); (case kd => ktr_room); (case ku => ktr_units)); intro t tn kl kc vs N R' h tk e9 F9 N9 hr9 hf9 hl9 hs9 hz9)
  k_with "exec For Tuple" => (k_here; (rename Fr _ _ _ _ => lF'); (with_unfolding_all refine' For_turns lF' ?_; k_whole))
  k_with "pyIter ref" => (k_here; (with_reducible show wpAny _ _ (pyIter (Value.ref _)) (fun it s₂ => TurnsAt _ _ _ _ _ _ _ _ _ it s₂) _ _); (rename Fr _ _ _ _ => lF'); (rename News _ _ _ _ => lN'); (first | (with_unfolding_all refine' iter_listTurns (vs := [_, _]) (by rfl) lF' lN' (by k_mem) (by rfl) (by rfl) ?_) | (with_unfolding_all refine' iter_listTurns (vs := [_]) (by rfl) lF' lN' (by k_mem) (by rfl) (by rfl) ?_)  | (with_unfolding_all refine' iter_listTurns (vs := []) (by rfl) lF' lN' (by k_mem) (by rfl) (by rfl) ?_)); clear lF'; intro i' l1; (try k_lt l1); dsimp only [List.map])
  k_with "UnrEnd" => ((rename Fr _ _ _ _ => kF); (rename News _ _ _ _ => kN); k_dflt (refine' unrSwap kF kN ?koff ?_; (case koff => k_all)))
  k_with "UnrEndW" => ((rename Fr _ _ _ _ => kF); (rename News _ _ _ _ => kN); k_dflt (first
    | (refine' unrW1 kF kN ?koff ⟨⟨?kmm, trivial⟩, ?_⟩; (case koff => k_all); (case kmm => k_mem))
    | (refine' unrW2 kF kN ?koff ⟨⟨?kmm, trivial⟩, ?_⟩; (case koff => k_all); (case kmm => k_mem))))
  k_with "eval ListComp" => (k_here; k_dflt (refine LCg.ListComp_U (F₀ := by k_asm) (by rfl) (by decide) (by rfl) (by decide) (by rfl) ?_))
  k_with "CompEnd" => ((rename Fr _ _ _ _ => kF); (rename News _ _ _ _ => kN); (rename _ ∧ _ ∧ _ ∧ _ ∧ _ ∧ _ ∧ LCg.Off3 _ _ _ _ => hoff); k_dflt (refine' LCg.CompEnd.intro kF kN (_ :: _ :: _ :: _ :: _ :: _ :: _) (fun p hp => hp) ⟨hoff.1, hoff.2.1, hoff.2.2.1, hoff.2.2.2.1, hoff.2.2.2.2.1, hoff.2.2.2.2.2.1, off3_tail (by assumption) (by assumption) (.head _) (.tail _ (.head _)) (.tail _ (.tail _ (.head _))) hoff.2.2.2.2.2.2⟩ ?kss ?_; (case kss => exact Or.inr ⟨_, by k_mem, rfl, _, rfl⟩)))
  refine TIn.ch2_elim (P := fun v => Ctr w mean mg mb 122 _ _ _ (v :: _) _) hx ?_
  clear hx
  intros
  unfold Ctr
  intro dp un gd cn cs a ccd cl outer A₀ base h₀ L m s Q E B F X N T hk hd hu hret
  refine wpAny_call ?_
  k_dflt (refine' code_defC ?k1 ?k2 ?k3 ?k4 ?k5 ?kA ?kF ?kK ?k6 ?k7 ?k8 ?k9 ?kB ?kD ?_ ?c2 ?c3 ?c4; (case kA => exact rfl); (case kF => exact rfl); (case kK => assumption); (case k1 => k_asm); (case k2 => k_asm); (case k3 => k_asm); (case k4 => k_asm); (case k5 => k_asm); (case k6 => k_is); (case k7 => k_is); (case k8 => ktr_room); (case k9 => exact BindsTo.of_eq rfl); (case kB => exact rfl); (case kD => decide +kernel); (case c2 => exact rfl); (case c3 => exact rfl); (case c4 => exact rfl); k_whole; intro g' L' h' tk' cells' FG' F' N' Y' B' X' T' l1; (try k_lt l1); k_cells Y'; (try simp only [List.cons_append, List.nil_append] at N'); (try dsimp only); (try k_lift B'); (try k_fold)); (refine letE ?_); intro e9; (refine letA ?_); intro A9; (rename Fr _ _ _ _ => F8); (refine letM F8 ?_); clear F8; intro m9 F9
  k_steps
  (rename News _ _ _ _ => kN)
  (simp only [List.push_toArray] at kN)
  refine' rowsEnd (top := [(_, tupO [.str (Str.ofString "try") _, .int _ _, .int 2 _]), (_, tupO [.str (Str.ofString "trust") _, .int _ _, .int 2 _])]) hret ?kF kN ?kB ?kL ?kC ?kR ?k2 ?kM ?kI ?kS rfl
  case kF => assumption
  case kB => k_mem
  case kL => k_mem
  case kC => k_mem
  case kS => assumption
  case kR => (intro p hp; simp only [List.mem_cons, hp, or_true])
  case k2 => repeat' (first | exact List.forall_mem_nil _ | (refine List.forall_mem_cons.mpr ⟨⟨by k_mem, ⟨by k_ne, by k_ne, by k_ne⟩, by k_all⟩, ?_⟩))
  case kM => repeat' (first | exact Ext3.nil | (refine' Ext3.step ?_ ?y ?z ?u ?v1 ?v2 ?v3; (case y => assumption); (case z => assumption); (case u => assumption); (case v1 => k_mem); (case v2 => k_mem); (case v3 => k_mem)))
  case kI => exact bin2 hbs (fun p hp => List.mem_append_right _ (tail_mem (by assumption) (tail_mem (by assumption) hp))) (.try_ (.head _)) (.trust (.tail _ (.head _)))
set_option maxRecDepth 100000 in
set_option maxHeartbeats 8000000 in
theorem rows_ch3 (w : World) (mean : ExcName → Option Value) (mg mb : Str → Option Value) (bl la c : Addr) (n : Int) (tn : Tok) (bs : List Value) (is : List Ins) (vs : List Value) (ls : List (Int × T)) (kb kl kc : Nat) (tv : Value) (x1 x2 x3 : T) (R : Led)
    (hbs : BIn R bs is) (hls : LIn R vs ls) (hx : TIn R tv (.ch3 x1 x2 x3)) (hbl : @Ne Nat bl la) (hbc : @Ne Nat bl c) (hlc : @Ne Nat la c) (h1 : ∀ p ∈ R, p.1 ≠ bl) (h2 : ∀ p ∈ R, p.1 ≠ la) (h3 : ∀ p ∈ R, p.1 ≠ c) (hb1 : bs.length ≤ 1000) (hl1 : vs.length ≤ 990) :
    Ctr w mean mg mb 122 4 40 ((bl, listOf bs.toArray kb) :: (la, listOf vs.toArray kl) :: (c, cnt1 n tn kc) :: R) [tv, .ref bl, .ref la, .ref c] (RowsPost bl la c n is ls (.ch3 x1 x2 x3) R) := by
  k_with_none
  k_with "k_all" => first | with_reducible assumption | (refine' List.forall_mem_cons.mpr ⟨?qa9, ?qb9⟩; (case qa9 => k_ne); (case qb9 => k_all)) | exact allLt_ne (by with_reducible assumption) | exact off1_ne4 (by with_reducible assumption) | exact allLt_ne1 (by with_reducible assumption) | exact allLt_ne2 (by with_reducible assumption) | exact allLt_ne3 (by with_reducible assumption) | exact allLt_ne4 (by with_reducible assumption) | exact allLt_ne5 (by with_reducible assumption) | exact allLt_ne6 (by with_reducible assumption) | exact allLt_ne7 (by with_reducible assumption) | exact allLt_ne8 (by with_reducible assumption) | exact allLt_ne9 (by with_reducible assumption) | exact allLt_ne10 (by with_reducible assumption) | exact allLt_ne11 (by with_reducible assumption) | exact allLt_ne12 (by with_reducible assumption) | exact tail_ne (by with_reducible assumption) (fresh_ne (by with_reducible assumption) (by k_mem)) (by k_all) | fail "k_all"
  k_with "k_updF" => first | (refine' UpT.head ?ua9 ?ub9; (case ub9 => k_all); (case ua9 => k_updF)) | (refine' UpT.tail ?ua9 ?ub9; (case ua9 => k_ne); (case ub9 => k_updF)) | (refine' TailOf.cons ?ua9; (case ua9 => k_updF)) | exact TailOf.nil | fail "updT"
  k_with "k_updF" => first | (refine' UpT2.one ?ua9 ?ub9; (case ua9 => k_all); (case ub9 => k_updF)) | (refine' UpT2.two ?ua9 ?ub9; (case ua9 => k_all); (case ub9 => k_updF)) | (refine' UpT2.tail ?ua9 ?ub9 ?uc9; (case ua9 => k_ne); (case ub9 => k_ne); (case uc9 => k_updF)) | fail "upd2"
  k_with "kaf_pre" => first | (refine' evI ?pe9 ?pN9 ?pm9 ?px9; (case pe9 => kaf_pre); (case pN9 => k_asm); (case pm9 => k_mem); (case px9 => rfl)) | (refine' evL ?pF9 ?pv9 ?pa9 ?pb9 ?pc9; (case pF9 => k_asm); (case pa9 => rfl); (case pb9 => rfl); (case pc9 => rfl); (case pv9 => rfl)) | (refine' evC ?pN9 ?pl9 ?pm9 ?pd9 ?pa9 ?pb9 ?pc9; (case pa9 => rfl); (case pb9 => rfl); (case pc9 => rfl); (case pN9 => k_asm); (case pl9 => rfl); (case pm9 => k_mem); (case pd9 => k_asm)) | (refine' evK ?pF9 ?pX9 ?pT9 ?pe9 ?pa9 ?pb9 ?pc9; (case pF9 => k_asm); (case pX9 => k_asm); (case pT9 => k_asm); (case pa9 => rfl); (case pb9 => rfl); (case pc9 => rfl); (case pe9 => k_is))
  k_with "kaf_suf" => first | exact evl0 | (refine' evlI ?sl9; (case sl9 => kaf_suf)) | (refine' evlS ?sl9; (case sl9 => kaf_suf)) | (refine' evlN ?se9 ?sl9 ?sn9; (case sn9 => rfl); (case se9 => kaf_pre); (case sl9 => kaf_suf)) | (refine' evlE ?se9 ?sl9 ?sn9; (case sn9 => rfl); (case se9 => kaf_pre); (case sl9 => kaf_suf))
  k_with "k_ne" => (refine neN ?_; (try dsimp only); first | with_reducible assumption | exact Ne.symm (by with_reducible assumption) | (refine Nat.ne_of_gt ((?_ : ChainTo _ _ _ _) (by with_reducible assumption)); intro hch; with_reducible (first | exact And.left hch | exact And.left (And.right hch) | exact And.left (And.right (And.right hch)) | exact And.left (And.right (And.right (And.right hch))) | exact And.left (And.right (And.right (And.right (And.right hch)))) | exact And.left (And.right (And.right (And.right (And.right (And.right hch))))) | exact And.left (And.right (And.right (And.right (And.right (And.right (And.right hch)))))) | exact And.left (And.right (And.right (And.right (And.right (And.right (And.right (And.right hch))))))) | exact And.left (And.right (And.right (And.right (And.right (And.right (And.right (And.right (And.right hch)))))))) | exact And.left (And.right (And.right (And.right (And.right (And.right (And.right (And.right (And.right (And.right hch))))))))) | exact And.left (And.right (And.right (And.right (And.right (And.right (And.right (And.right (And.right (And.right (And.right hch)))))))))) | exact And.left (And.right (And.right (And.right (And.right (And.right (And.right (And.right (And.right (And.right (And.right (And.right hch))))))))))) | exact And.left (And.right (And.right (And.right (And.right (And.right (And.right (And.right (And.right (And.right (And.right (And.right (And.right hch)))))))))))) | exact And.left (And.right (And.right (And.right (And.right (And.right (And.right (And.right (And.right (And.right (And.right (And.right (And.right (And.right hch))))))))))))))) | (refine Nat.ne_of_lt ((?_ : ChainTo _ _ _ _) (by with_reducible assumption)); intro hch; with_reducible (first | exact And.left hch | exact And.left (And.right hch) | exact And.left (And.right (And.right hch)) | exact And.left (And.right (And.right (And.right hch))) | exact And.left (And.right (And.right (And.right (And.right hch)))) | exact And.left (And.right (And.right (And.right (And.right (And.right hch))))) | exact And.left (And.right (And.right (And.right (And.right (And.right (And.right hch)))))) | exact And.left (And.right (And.right (And.right (And.right (And.right (And.right (And.right hch))))))) | exact And.left (And.right (And.right (And.right (And.right (And.right (And.right (And.right (And.right hch)))))))) | exact And.left (And.right (And.right (And.right (And.right (And.right (And.right (And.right (And.right (And.right hch))))))))) | exact And.left (And.right (And.right (And.right (And.right (And.right (And.right (And.right (And.right (And.right (And.right hch)))))))))) | exact And.left (And.right (And.right (And.right (And.right (And.right (And.right (And.right (And.right (And.right (And.right (And.right hch))))))))))) | exact And.left (And.right (And.right (And.right (And.right (And.right (And.right (And.right (And.right (And.right (And.right (And.right (And.right hch)))))))))))) | exact And.left (And.right (And.right (And.right (And.right (And.right (And.right (And.right (And.right (And.right (And.right (And.right (And.right (And.right hch))))))))))))))) | exact Nat.ne_of_gt (Nat.lt_succ_of_lt (And.left (by with_reducible assumption))) | exact Nat.ne_of_lt (Nat.lt_succ_of_lt (And.left (by with_reducible assumption))) | exact Nat.ne_of_gt (Nat.lt_succ_of_lt (And.left (And.right (by with_reducible assumption)))) | exact Nat.ne_of_lt (Nat.lt_succ_of_lt (And.left (And.right (by with_reducible assumption)))) | exact Nat.ne_of_gt (Nat.lt_succ_of_lt (And.left (And.right (And.right (by with_reducible assumption))))) | exact Nat.ne_of_lt (Nat.lt_succ_of_lt (And.left (And.right (And.right (by with_reducible assumption))))) | exact Nat.ne_of_gt (Nat.lt_succ_of_lt (Nat.lt_succ_of_lt (And.left (by with_reducible assumption)))) | exact Nat.ne_of_lt (Nat.lt_succ_of_lt (Nat.lt_succ_of_lt (And.left (by with_reducible assumption)))) | exact Nat.ne_of_gt (Nat.lt_succ_of_lt (Nat.lt_succ_of_lt (And.left (And.right (by with_reducible assumption))))) | exact Nat.ne_of_lt (Nat.lt_succ_of_lt (Nat.lt_succ_of_lt (And.left (And.right (by with_reducible assumption))))) | exact Nat.ne_of_gt (Nat.lt_succ_of_lt (Nat.lt_succ_of_lt (And.left (And.right (And.right (by with_reducible assumption)))))) | exact Nat.ne_of_lt (Nat.lt_succ_of_lt (Nat.lt_succ_of_lt (And.left (And.right (And.right (by with_reducible assumption)))))) | exact Nat.ne_of_gt (Nat.lt_succ_of_lt (Nat.lt_succ_of_lt (Nat.lt_succ_of_lt (And.left (by with_reducible assumption))))) | exact Nat.ne_of_lt (Nat.lt_succ_of_lt (Nat.lt_succ_of_lt (Nat.lt_succ_of_lt (And.left (by with_reducible assumption))))) | exact Nat.ne_of_gt (Nat.lt_succ_of_lt (Nat.lt_succ_of_lt (Nat.lt_succ_of_lt (And.left (And.right (by with_reducible assumption)))))) | exact Nat.ne_of_lt (Nat.lt_succ_of_lt (Nat.lt_succ_of_lt (Nat.lt_succ_of_lt (And.left (And.right (by with_reducible assumption)))))) | exact Nat.ne_of_gt (Nat.lt_succ_of_lt (Nat.lt_succ_of_lt (Nat.lt_succ_of_lt (And.left (And.right (And.right (by with_reducible assumption))))))) | exact Nat.ne_of_lt (Nat.lt_succ_of_lt (Nat.lt_succ_of_lt (Nat.lt_succ_of_lt (And.left (And.right (And.right (by with_reducible assumption))))))) | exact Nat.ne_of_gt (Nat.lt_succ_self _) | exact Nat.ne_of_lt (Nat.lt_succ_self _) | exact Nat.ne_of_gt (Nat.lt_succ_of_lt (Nat.lt_succ_self _)) | exact Nat.ne_of_lt (Nat.lt_succ_of_lt (Nat.lt_succ_self _)) | exact ((And.left (And.left (by with_reducible assumption))) : @Ne Nat _ _) | exact Ne.symm ((And.left (And.left (by with_reducible assumption))) : @Ne Nat _ _) | exact ((And.left (And.right (And.left (by with_reducible assumption)))) : @Ne Nat _ _) | exact Ne.symm ((And.left (And.right (And.left (by with_reducible assumption)))) : @Ne Nat _ _) | exact ((And.right (And.right (And.left (by with_reducible assumption)))) : @Ne Nat _ _) | exact Ne.symm ((And.right (And.right (And.left (by with_reducible assumption)))) : @Ne Nat _ _) | exact ((And.left (And.left (And.right (by with_reducible assumption)))) : @Ne Nat _ _) | exact Ne.symm ((And.left (And.left (And.right (by with_reducible assumption)))) : @Ne Nat _ _) | exact ((And.left (And.right (And.left (And.right (by with_reducible assumption))))) : @Ne Nat _ _) | exact Ne.symm ((And.left (And.right (And.left (And.right (by with_reducible assumption))))) : @Ne Nat _ _) | exact ((And.right (And.right (And.left (And.right (by with_reducible assumption))))) : @Ne Nat _ _) | exact Ne.symm ((And.right (And.right (And.left (And.right (by with_reducible assumption))))) : @Ne Nat _ _) | exact ((And.left (And.left (And.right (And.right (by with_reducible assumption))))) : @Ne Nat _ _) | exact Ne.symm ((And.left (And.left (And.right (And.right (by with_reducible assumption))))) : @Ne Nat _ _) | exact ((And.left (And.right (And.left (And.right (And.right (by with_reducible assumption)))))) : @Ne Nat _ _) | exact Ne.symm ((And.left (And.right (And.left (And.right (And.right (by with_reducible assumption)))))) : @Ne Nat _ _) | exact ((And.right (And.right (And.left (And.right (And.right (by with_reducible assumption)))))) : @Ne Nat _ _) | exact Ne.symm ((And.right (And.right (And.left (And.right (And.right (by with_reducible assumption)))))) : @Ne Nat _ _) | exact ((And.left (And.left (And.right (And.right (And.right (by with_reducible assumption)))))) : @Ne Nat _ _) | exact Ne.symm ((And.left (And.left (And.right (And.right (And.right (by with_reducible assumption)))))) : @Ne Nat _ _) | exact ((And.left (And.right (And.left (And.right (And.right (And.right (by with_reducible assumption))))))) : @Ne Nat _ _) | exact Ne.symm ((And.left (And.right (And.left (And.right (And.right (And.right (by with_reducible assumption))))))) : @Ne Nat _ _) | exact ((And.right (And.right (And.left (And.right (And.right (And.right (by with_reducible assumption))))))) : @Ne Nat _ _) | exact Ne.symm ((And.right (And.right (And.left (And.right (And.right (And.right (by with_reducible assumption))))))) : @Ne Nat _ _) | exact ((And.left (And.left (And.right (And.right (And.right (And.right (by with_reducible assumption))))))) : @Ne Nat _ _) | exact Ne.symm ((And.left (And.left (And.right (And.right (And.right (And.right (by with_reducible assumption))))))) : @Ne Nat _ _) | exact ((And.left (And.right (And.left (And.right (And.right (And.right (And.right (by with_reducible assumption)))))))) : @Ne Nat _ _) | exact Ne.symm ((And.left (And.right (And.left (And.right (And.right (And.right (And.right (by with_reducible assumption)))))))) : @Ne Nat _ _) | exact ((And.right (And.right (And.left (And.right (And.right (And.right (And.right (by with_reducible assumption)))))))) : @Ne Nat _ _) | exact Ne.symm ((And.right (And.right (And.left (And.right (And.right (And.right (And.right (by with_reducible assumption)))))))) : @Ne Nat _ _) | exact ((And.left (And.left (And.right (And.right (And.right (And.right (And.right (by with_reducible assumption)))))))) : @Ne Nat _ _) | exact Ne.symm ((And.left (And.left (And.right (And.right (And.right (And.right (And.right (by with_reducible assumption)))))))) : @Ne Nat _ _) | exact ((And.left (And.right (And.left (And.right (And.right (And.right (And.right (And.right (by with_reducible assumption))))))))) : @Ne Nat _ _) | exact Ne.symm ((And.left (And.right (And.left (And.right (And.right (And.right (And.right (And.right (by with_reducible assumption))))))))) : @Ne Nat _ _) | exact ((And.right (And.right (And.left (And.right (And.right (And.right (And.right (And.right (by with_reducible assumption))))))))) : @Ne Nat _ _) | exact Ne.symm ((And.right (And.right (And.left (And.right (And.right (And.right (And.right (And.right (by with_reducible assumption))))))))) : @Ne Nat _ _) | exact ((And.left (And.left (And.right (And.right (And.right (And.right (And.right (And.right (by with_reducible assumption))))))))) : @Ne Nat _ _) | exact Ne.symm ((And.left (And.left (And.right (And.right (And.right (And.right (And.right (And.right (by with_reducible assumption))))))))) : @Ne Nat _ _) | exact ((And.left (And.right (And.left (And.right (And.right (And.right (And.right (And.right (And.right (by with_reducible assumption)))))))))) : @Ne Nat _ _) | exact Ne.symm ((And.left (And.right (And.left (And.right (And.right (And.right (And.right (And.right (And.right (by with_reducible assumption)))))))))) : @Ne Nat _ _) | exact ((And.right (And.right (And.left (And.right (And.right (And.right (And.right (And.right (And.right (by with_reducible assumption)))))))))) : @Ne Nat _ _) | exact Ne.symm ((And.right (And.right (And.left (And.right (And.right (And.right (And.right (And.right (And.right (by with_reducible assumption)))))))))) : @Ne Nat _ _) | omega)
  k_with "ktr_room" => ((try simp only [depth_under_make, depth_under_kw, depth_in1, depth_deeper, depth_caller]); (try dsimp only [ktrTop]); first | exact Nat.lt_of_le_of_lt (Nat.le_add_right _ _) (by with_reducible assumption) | exact roomStep (by with_reducible assumption) (by first | exact Nat.le_refl _ | decide | exact r2 _ | omega) | fail "room")
  k_with "ktr_units" => ((try simp only [units_in1, units_deeper, Around.mark_units, units_caller]); (try dsimp only [ktrTop]); first | exact unitStep (by with_reducible assumption) (by first | exact Nat.le_refl _ | decide | exact u20 _ | exact u40 _ | omega) | fail "units")
  k_with "k_mem" => first | exact tail_mem (by assumption) (by k_mem) | fail "k_mem"
  k_with "k_mem" => assumption
  k_with "k_mem" => first | exact List.mem_cons_of_mem _ (by assumption) | fail "k_mem"
  k_with "size_fits" => (simp only [List.size_toArray, Array.size_push, List.length_append, List.length_cons, List.length_nil, PySem.sizeLine_eq] <;> omega)
  k_with "exec If" => (k_here; k_fold)
  k_with "exec Assign" => (k_here; k_fold)
  k_with "exec Expr" => (k_here; k_fold)
  k_with "exec Return some" => (k_here; k_fold)
  k_with "execs cons" => (k_here; first | k_fold | ((with_reducible refine execsG ?_); intro t9; (try dsimp only)))
  k_with "execs nil" => (k_here; (with_reducible refine wpAny_execs_nil ?_); (try dsimp only))
  k_with "call builtin:len" => (k_here; (with_reducible show wpAny _ _ (call (Value.builtin _) [Value.ref _]) _ _ _); k_dflt (first | (refine' lenLit (k := 2) ?N ?m ?e ?z ?_; (case N => k_asm); (case m => k_mem); (case e => rfl); (case z => decide)) | (refine' lenLit (k := 3) ?N ?m ?e ?z ?_; (case N => k_asm); (case m => k_mem); (case e => rfl); (case z => decide))); intro t t')
  k_with "ite" => (k_here; first | (refine ite_pos (by first | omega | (simp only [beq_iff_eq, bne_iff_ne, decide_eq_true_eq]; omega)) ?_) | (refine ite_neg (by first | omega | (simp only [beq_iff_eq, bne_iff_ne, decide_eq_true_eq]; omega)) ?_))
  k_with "exec For Tuple Subscript cons nil" => k_extra "exec For Tuple"
  k_with "subscriptTail" => (k_here; (with_reducible show wpAny _ _ (subscriptTail _ _ (Value.ref _) (Value.int _ _)) _ _ _); (with_unfolding_all refine' litItem ?N ?m ?a ?b ?c ?_ ?d; (case N => k_asm); (case m => k_mem); (case a => decide); (case b => decide); (case c => rfl); (case d => with_unfolding_all rfl); k_whole))
  k_with "call builtin:list.index" => (k_here; (with_reducible show wpAny _ _ (call (Value.builtin _) [Value.ref _, Value.str _ _]) _ _ _); k_dflt (refine' kindIndex ?k0 ?N ?m ?_; (case k0 => with_reducible assumption); (case N => k_asm); (case m => k_mem)); dsimp only [Wh.ixI])
  k_with "exec If" => (k_here; k_dflt (first | ((with_reducible refine' ifT ?xe9 ?xb9 ?_); (case xe9 => kaf_pre); (case xb9 => decide); k_whole) | ((with_reducible refine' ifF ?xe9 ?xb9 ?_); (case xe9 => kaf_pre); (case xb9 => decide); k_whole)))
  k_with "isTrue Compare" => (k_here; k_dflt (first | ((with_reducible refine' isT ?xe9 ?xb9 ?_); (case xe9 => kaf_pre); (case xb9 => decide); k_whole) | ((with_reducible refine' isF ?xe9 ?xb9 ?_); (case xe9 => kaf_pre); (case xb9 => decide); k_whole) | ((with_reducible refine' isI ?xe9 ?_); (case xe9 => kaf_pre); k_whole) | ((with_reducible refine' isIl ?xe9 ?_); (case xe9 => kaf_pre); k_whole) | ((with_reducible refine' isIg ?xe9 ?_); (case xe9 => kaf_pre); k_whole)))
  k_with "eval Subscript" => (k_here; k_dflt ((with_reducible refine' Ev.go ?xe9 ?_); (case xe9 => kaf_pre); k_whole))
  k_with "spliced" => (k_here; k_dflt ((with_reducible refine' EvL.go ?xe9 ?_); (case xe9 => kaf_suf); k_whole); (try dsimp only [List.nil_append, List.cons_append]))
  k_with "eval Call" => (k_here; (with_reducible show wpAny _ _ (eval (Expr.Call (Expr.Name _ _) (_ :: _) [] _) _) _ _ _); k_dflt (refine' evCall ?xF9 ?xX9 ?xT9 ?xe9 ?xk9 ?xl9 ?_ ?xs9 ?xa9 ?xb9 ?xc9; (case xF9 => k_asm); (case xX9 => k_asm); (case xT9 => k_asm); (case xa9 => rfl); (case xb9 => rfl); (case xc9 => rfl); (case xe9 => k_is); (case xk9 => k_is); (case xl9 => kaf_suf); (case xs9 => rfl); k_whole))
  k_with "call ref" => (k_here; (with_reducible show wpAny _ _ (call (Value.ref 117) [_, _, _]) _ _ _); k_dflt (refine' labelUse ?kU ?ks ?kx ?kn ?kl ?k1 ?k2 ?k3 ?k4 ?k5 ?kK ?kd ?ku ?_; (case k1 => k_asm); (case k2 => k_asm); (case k3 => k_asm); (case k4 => k_asm); (case k5 => k_asm); (case kU => k_updF); (case ks => assumption); (case kx => first | assumption | exact TIn.mono (by assumption) (by assumption) | exact TIn.mono (by assumption) (fun p hp => tail_mem (by assumption) (tail_mem (by assumption) hp)) | exact TIn.mono (by assumption) (fun p hp => tail_mem (by assumption) (tail_mem (by assumption) (tail_mem (by assumption) hp)))); (case kn => exact hlc); (case kl => omega); (case kK => first | exact rfl | assumption); (case kd => ktr_room); (case ku => ktr_units)); intro t tn kl kc vs N R' h tk e9 F9 N9 hr9 hf9 hl9 hs9 hz9)
  k_with "exec For Tuple" => (k_here; (rename Fr _ _ _ _ => lF'); (with_unfolding_all refine' For_turns lF' ?_; k_whole))
  k_with "pyIter ref" => (k_here; (with_reducible show wpAny _ _ (pyIter (Value.ref _)) (fun it s₂ => TurnsAt _ _ _ _ _ _ _ _ _ it s₂) _ _); (rename Fr _ _ _ _ => lF'); (rename News _ _ _ _ => lN'); (first | (with_unfolding_all refine' iter_listTurns (vs := [_, _]) (by rfl) lF' lN' (by k_mem) (by rfl) (by rfl) ?_) | (with_unfolding_all refine' iter_listTurns (vs := [_]) (by rfl) lF' lN' (by k_mem) (by rfl) (by rfl) ?_)  | (with_unfolding_all refine' iter_listTurns (vs := []) (by rfl) lF' lN' (by k_mem) (by rfl) (by rfl) ?_)); clear lF'; intro i' l1; (try k_lt l1); dsimp only [List.map])
  k_with "UnrEnd" => ((rename Fr _ _ _ _ => kF); (rename News _ _ _ _ => kN); k_dflt (refine' unrSwap kF kN ?koff ?_; (case koff => k_all)))
  k_with "UnrEndW" => ((rename Fr _ _ _ _ => kF); (rename News _ _ _ _ => kN); k_dflt (first
    | (refine' unrW1 kF kN ?koff ⟨⟨?kmm, trivial⟩, ?_⟩; (case koff => k_all); (case kmm => k_mem))
    | (refine' unrW2 kF kN ?koff ⟨⟨?kmm, trivial⟩, ?_⟩; (case koff => k_all); (case kmm => k_mem))))
  k_with "eval ListComp" => (k_here; k_dflt (refine LCg.ListComp_U (F₀ := by k_asm) (by rfl) (by decide) (by rfl) (by decide) (by rfl) ?_))
  k_with "CompEnd" => ((rename Fr _ _ _ _ => kF); (rename News _ _ _ _ => kN); (rename _ ∧ _ ∧ _ ∧ _ ∧ _ ∧ _ ∧ LCg.Off3 _ _ _ _ => hoff); k_dflt (refine' LCg.CompEnd.intro kF kN (_ :: _ :: _ :: _ :: _ :: _ :: _) (fun p hp => hp) ⟨hoff.1, hoff.2.1, hoff.2.2.1, hoff.2.2.2.1, hoff.2.2.2.2.1, hoff.2.2.2.2.2.1, off3_tail (by assumption) (by assumption) (.head _) (.tail _ (.head _)) (.tail _ (.tail _ (.head _))) hoff.2.2.2.2.2.2⟩ ?kss ?_; (case kss => exact Or.inr ⟨_, by k_mem, rfl, _, rfl⟩)))
  refine TIn.ch3_elim (P := fun v => Ctr w mean mg mb 122 _ _ _ (v :: _) _) hx ?_
  clear hx
  intros
  unfold Ctr
  intro dp un gd cn cs a ccd cl outer A₀ base h₀ L m s Q E B F X N T hk hd hu hret
  refine wpAny_call ?_
  k_dflt (refine' code_defC ?k1 ?k2 ?k3 ?k4 ?k5 ?kA ?kF ?kK ?k6 ?k7 ?k8 ?k9 ?kB ?kD ?_ ?c2 ?c3 ?c4; (case kA => exact rfl); (case kF => exact rfl); (case kK => assumption); (case k1 => k_asm); (case k2 => k_asm); (case k3 => k_asm); (case k4 => k_asm); (case k5 => k_asm); (case k6 => k_is); (case k7 => k_is); (case k8 => ktr_room); (case k9 => exact BindsTo.of_eq rfl); (case kB => exact rfl); (case kD => decide +kernel); (case c2 => exact rfl); (case c3 => exact rfl); (case c4 => exact rfl); k_whole; intro g' L' h' tk' cells' FG' F' N' Y' B' X' T' l1; (try k_lt l1); k_cells Y'; (try simp only [List.cons_append, List.nil_append] at N'); (try dsimp only); (try k_lift B'); (try k_fold)); (refine letE ?_); intro e9; (refine letA ?_); intro A9; (rename Fr _ _ _ _ => F8); (refine letM F8 ?_); clear F8; intro m9 F9
  k_steps
  (rename News _ _ _ _ => kN)
  (simp only [List.push_toArray] at kN)
  refine' rowsEnd (top := [(_, tupO [.str (Str.ofString "try") _, .int _ _, .int 2 _]), (_, tupO [.str (Str.ofString "retry") _, .int _ _, .int 2 _]), (_, tupO [.str (Str.ofString "trust") _, .int _ _, .int 2 _])]) hret ?kF kN ?kB ?kL ?kC ?kR ?k2 ?kM ?kI ?kS rfl
  case kF => assumption
  case kB => k_mem
  case kL => k_mem
  case kC => k_mem
  case kS => assumption
  case kR => (intro p hp; simp only [List.mem_cons, hp, or_true])
  case k2 => repeat' (first | exact List.forall_mem_nil _ | (refine List.forall_mem_cons.mpr ⟨⟨by k_mem, ⟨by k_ne, by k_ne, by k_ne⟩, by k_all⟩, ?_⟩))
  case kM => repeat' (first | exact Ext3.nil | (refine' Ext3.step ?_ ?y ?z ?u ?v1 ?v2 ?v3; (case y => assumption); (case z => assumption); (case u => assumption); (case v1 => k_mem); (case v2 => k_mem); (case v3 => k_mem)))
  case kI => exact bin3 hbs (fun p hp => List.mem_append_right _ (tail_mem (by assumption) (tail_mem (by assumption) (tail_mem (by assumption) hp)))) (.try_ (.head _)) (.retry (.tail _ (.head _))) (.trust (.tail _ (.tail _ (.head _))))
set_option maxRecDepth 100000 in
set_option maxHeartbeats 8000000 in
theorem rows_sw (w : World) (mean : ExcName → Option Value) (mg mb : Str → Option Value) (bl la c : Addr) (n : Int) (tn : Tok) (bs : List Value) (is : List Ins) (vs : List Value) (ls : List (Int × T)) (kb kl kc : Nat) (tv : Value) (x1 x2 x3 x4 : T) (R : Led)
    (hbs : BIn R bs is) (hls : LIn R vs ls) (hx : TIn R tv (.sw x1 x2 x3 x4)) (hbl : @Ne Nat bl la) (hbc : @Ne Nat bl c) (hlc : @Ne Nat la c) (h1 : ∀ p ∈ R, p.1 ≠ bl) (h2 : ∀ p ∈ R, p.1 ≠ la) (h3 : ∀ p ∈ R, p.1 ≠ c) (hb1 : bs.length ≤ 1000) (hl1 : vs.length ≤ 990) :
    Ctr w mean mg mb 122 4 40 ((bl, listOf bs.toArray kb) :: (la, listOf vs.toArray kl) :: (c, cnt1 n tn kc) :: R) [tv, .ref bl, .ref la, .ref c] (RowsPost bl la c n is ls (.sw x1 x2 x3 x4) R) := by
  k_with_none
  k_with "k_all" => first | with_reducible assumption | (refine' List.forall_mem_cons.mpr ⟨?qa9, ?qb9⟩; (case qa9 => k_ne); (case qb9 => k_all)) | exact allLt_ne (by with_reducible assumption) | exact off1_ne4 (by with_reducible assumption) | exact allLt_ne1 (by with_reducible assumption) | exact allLt_ne2 (by with_reducible assumption) | exact allLt_ne3 (by with_reducible assumption) | exact allLt_ne4 (by with_reducible assumption) | exact allLt_ne5 (by with_reducible assumption) | exact allLt_ne6 (by with_reducible assumption) | exact allLt_ne7 (by with_reducible assumption) | exact allLt_ne8 (by with_reducible assumption) | exact allLt_ne9 (by with_reducible assumption) | exact allLt_ne10 (by with_reducible assumption) | exact allLt_ne11 (by with_reducible assumption) | exact allLt_ne12 (by with_reducible assumption) | exact tail_ne (by with_reducible assumption) (fresh_ne (by with_reducible assumption) (by k_mem)) (by k_all) | fail "k_all"
  k_with "k_updF" => first | (refine' UpT.head ?ua9 ?ub9; (case ub9 => k_all); (case ua9 => k_updF)) | (refine' UpT.tail ?ua9 ?ub9; (case ua9 => k_ne); (case ub9 => k_updF)) | (refine' TailOf.cons ?ua9; (case ua9 => k_updF)) | exact TailOf.nil | fail "updT"
  k_with "k_updF" => first | (refine' UpT2.one ?ua9 ?ub9; (case ua9 => k_all); (case ub9 => k_updF)) | (refine' UpT2.two ?ua9 ?ub9; (case ua9 => k_all); (case ub9 => k_updF)) | (refine' UpT2.tail ?ua9 ?ub9 ?uc9; (case ua9 => k_ne); (case ub9 => k_ne); (case uc9 => k_updF)) | fail "upd2"
  k_with "kaf_pre" => first | (refine' evI ?pe9 ?pN9 ?pm9 ?px9; (case pe9 => kaf_pre); (case pN9 => k_asm); (case pm9 => k_mem); (case px9 => rfl)) | (refine' evL ?pF9 ?pv9 ?pa9 ?pb9 ?pc9; (case pF9 => k_asm); (case pa9 => rfl); (case pb9 => rfl); (case pc9 => rfl); (case pv9 => rfl)) | (refine' evC ?pN9 ?pl9 ?pm9 ?pd9 ?pa9 ?pb9 ?pc9; (case pa9 => rfl); (case pb9 => rfl); (case pc9 => rfl); (case pN9 => k_asm); (case pl9 => rfl); (case pm9 => k_mem); (case pd9 => k_asm)) | (refine' evK ?pF9 ?pX9 ?pT9 ?pe9 ?pa9 ?pb9 ?pc9; (case pF9 => k_asm); (case pX9 => k_asm); (case pT9 => k_asm); (case pa9 => rfl); (case pb9 => rfl); (case pc9 => rfl); (case pe9 => k_is))
  k_with "kaf_suf" => first | exact evl0 | (refine' evlI ?sl9; (case sl9 => kaf_suf)) | (refine' evlS ?sl9; (case sl9 => kaf_suf)) | (refine' evlN ?se9 ?sl9 ?sn9; (case sn9 => rfl); (case se9 => kaf_pre); (case sl9 => kaf_suf)) | (refine' evlE ?se9 ?sl9 ?sn9; (case sn9 => rfl); (case se9 => kaf_pre); (case sl9 => kaf_suf))
  k_with "k_ne" => (refine neN ?_; (try dsimp only); first | with_reducible assumption | exact Ne.symm (by with_reducible assumption) | (refine Nat.ne_of_gt ((?_ : ChainTo _ _ _ _) (by with_reducible assumption)); intro hch; with_reducible (first | exact And.left hch | exact And.left (And.right hch) | exact And.left (And.right (And.right hch)) | exact And.left (And.right (And.right (And.right hch))) | exact And.left (And.right (And.right (And.right (And.right hch)))) | exact And.left (And.right (And.right (And.right (And.right (And.right hch))))) | exact And.left (And.right (And.right (And.right (And.right (And.right (And.right hch)))))) | exact And.left (And.right (And.right (And.right (And.right (And.right (And.right (And.right hch))))))) | exact And.left (And.right (And.right (And.right (And.right (And.right (And.right (And.right (And.right hch)))))))) | exact And.left (And.right (And.right (And.right (And.right (And.right (And.right (And.right (And.right (And.right hch))))))))) | exact And.left (And.right (And.right (And.right (And.right (And.right (And.right (And.right (And.right (And.right (And.right hch)))))))))) | exact And.left (And.right (And.right (And.right (And.right (And.right (And.right (And.right (And.right (And.right (And.right (And.right hch))))))))))) | exact And.left (And.right (And.right (And.right (And.right (And.right (And.right (And.right (And.right (And.right (And.right (And.right (And.right hch)))))))))))) | exact And.left (And.right (And.right (And.right (And.right (And.right (And.right (And.right (And.right (And.right (And.right (And.right (And.right (And.right hch))))))))))))))) | (refine Nat.ne_of_lt ((?_ : ChainTo _ _ _ _) (by with_reducible assumption)); intro hch; with_reducible (first | exact And.left hch | exact And.left (And.right hch) | exact And.left (And.right (And.right hch)) | exact And.left (And.right (And.right (And.right hch))) | exact And.left (And.right (And.right (And.right (And.right hch)))) | exact And.left (And.right (And.right (And.right (And.right (And.right hch))))) | exact And.left (And.right (And.right (And.right (And.right (And.right (And.right hch)))))) | exact And.left (And.right (And.right (And.right (And.right (And.right (And.right (And.right hch))))))) | exact And.left (And.right (And.right (And.right (And.right (And.right (And.right (And.right (And.right hch)))))))) | exact And.left (And.right (And.right (And.right (And.right (And.right (And.right (And.right (And.right (And.right hch))))))))) | exact And.left (And.right (And.right (And.right (And.right (And.right (And.right (And.right (And.right (And.right (And.right hch)))))))))) | exact And.left (And.right (And.right (And.right (And.right (And.right (And.right (And.right (And.right (And.right (And.right (And.right hch))))))))))) | exact And.left (And.right (And.right (And.right (And.right (And.right (And.right (And.right (And.right (And.right (And.right (And.right (And.right hch)))))))))))) | exact And.left (And.right (And.right (And.right (And.right (And.right (And.right (And.right (And.right (And.right (And.right (And.right (And.right (And.right hch))))))))))))))) | exact Nat.ne_of_gt (Nat.lt_succ_of_lt (And.left (by with_reducible assumption))) | exact Nat.ne_of_lt (Nat.lt_succ_of_lt (And.left (by with_reducible assumption))) | exact Nat.ne_of_gt (Nat.lt_succ_of_lt (And.left (And.right (by with_reducible assumption)))) | exact Nat.ne_of_lt (Nat.lt_succ_of_lt (And.left (And.right (by with_reducible assumption)))) | exact Nat.ne_of_gt (Nat.lt_succ_of_lt (And.left (And.right (And.right (by with_reducible assumption))))) | exact Nat.ne_of_lt (Nat.lt_succ_of_lt (And.left (And.right (And.right (by with_reducible assumption))))) | exact Nat.ne_of_gt (Nat.lt_succ_of_lt (Nat.lt_succ_of_lt (And.left (by with_reducible assumption)))) | exact Nat.ne_of_lt (Nat.lt_succ_of_lt (Nat.lt_succ_of_lt (And.left (by with_reducible assumption)))) | exact Nat.ne_of_gt (Nat.lt_succ_of_lt (Nat.lt_succ_of_lt (And.left (And.right (by with_reducible assumption))))) | exact Nat.ne_of_lt (Nat.lt_succ_of_lt (Nat.lt_succ_of_lt (And.left (And.right (by with_reducible assumption))))) | exact Nat.ne_of_gt (Nat.lt_succ_of_lt (Nat.lt_succ_of_lt (And.left (And.right (And.right (by with_reducible assumption)))))) | exact Nat.ne_of_lt (Nat.lt_succ_of_lt (Nat.lt_succ_of_lt (And.left (And.right (And.right (by with_reducible assumption)))))) | exact Nat.ne_of_gt (Nat.lt_succ_of_lt (Nat.lt_succ_of_lt (Nat.lt_succ_of_lt (And.left (by with_reducible assumption))))) | exact Nat.ne_of_lt (Nat.lt_succ_of_lt (Nat.lt_succ_of_lt (Nat.lt_succ_of_lt (And.left (by with_reducible assumption))))) | exact Nat.ne_of_gt (Nat.lt_succ_of_lt (Nat.lt_succ_of_lt (Nat.lt_succ_of_lt (And.left (And.right (by with_reducible assumption)))))) | exact Nat.ne_of_lt (Nat.lt_succ_of_lt (Nat.lt_succ_of_lt (Nat.lt_succ_of_lt (And.left (And.right (by with_reducible assumption)))))) | exact Nat.ne_of_gt (Nat.lt_succ_of_lt (Nat.lt_succ_of_lt (Nat.lt_succ_of_lt (And.left (And.right (And.right (by with_reducible assumption))))))) | exact Nat.ne_of_lt (Nat.lt_succ_of_lt (Nat.lt_succ_of_lt (Nat.lt_succ_of_lt (And.left (And.right (And.right (by with_reducible assumption))))))) | exact Nat.ne_of_gt (Nat.lt_succ_self _) | exact Nat.ne_of_lt (Nat.lt_succ_self _) | exact Nat.ne_of_gt (Nat.lt_succ_of_lt (Nat.lt_succ_self _)) | exact Nat.ne_of_lt (Nat.lt_succ_of_lt (Nat.lt_succ_self _)) | exact ((And.left (And.left (by with_reducible assumption))) : @Ne Nat _ _) | exact Ne.symm ((And.left (And.left (by with_reducible assumption))) : @Ne Nat _ _) | exact ((And.left (And.right (And.left (by with_reducible assumption)))) : @Ne Nat _ _) | exact Ne.symm ((And.left (And.right (And.left (by with_reducible assumption)))) : @Ne Nat _ _) | exact ((And.right (And.right (And.left (by with_reducible assumption)))) : @Ne Nat _ _) | exact Ne.symm ((And.right (And.right (And.left (by with_reducible assumption)))) : @Ne Nat _ _) | exact ((And.left (And.left (And.right (by with_reducible assumption)))) : @Ne Nat _ _) | exact Ne.symm ((And.left (And.left (And.right (by with_reducible assumption)))) : @Ne Nat _ _) | exact ((And.left (And.right (And.left (And.right (by with_reducible assumption))))) : @Ne Nat _ _) | exact Ne.symm ((And.left (And.right (And.left (And.right (by with_reducible assumption))))) : @Ne Nat _ _) | exact ((And.right (And.right (And.left (And.right (by with_reducible assumption))))) : @Ne Nat _ _) | exact Ne.symm ((And.right (And.right (And.left (And.right (by with_reducible assumption))))) : @Ne Nat _ _) | exact ((And.left (And.left (And.right (And.right (by with_reducible assumption))))) : @Ne Nat _ _) | exact Ne.symm ((And.left (And.left (And.right (And.right (by with_reducible assumption))))) : @Ne Nat _ _) | exact ((And.left (And.right (And.left (And.right (And.right (by with_reducible assumption)))))) : @Ne Nat _ _) | exact Ne.symm ((And.left (And.right (And.left (And.right (And.right (by with_reducible assumption)))))) : @Ne Nat _ _) | exact ((And.right (And.right (And.left (And.right (And.right (by with_reducible assumption)))))) : @Ne Nat _ _) | exact Ne.symm ((And.right (And.right (And.left (And.right (And.right (by with_reducible assumption)))))) : @Ne Nat _ _) | exact ((And.left (And.left (And.right (And.right (And.right (by with_reducible assumption)))))) : @Ne Nat _ _) | exact Ne.symm ((And.left (And.left (And.right (And.right (And.right (by with_reducible assumption)))))) : @Ne Nat _ _) | exact ((And.left (And.right (And.left (And.right (And.right (And.right (by with_reducible assumption))))))) : @Ne Nat _ _) | exact Ne.symm ((And.left (And.right (And.left (And.right (And.right (And.right (by with_reducible assumption))))))) : @Ne Nat _ _) | exact ((And.right (And.right (And.left (And.right (And.right (And.right (by with_reducible assumption))))))) : @Ne Nat _ _) | exact Ne.symm ((And.right (And.right (And.left (And.right (And.right (And.right (by with_reducible assumption))))))) : @Ne Nat _ _) | exact ((And.left (And.left (And.right (And.right (And.right (And.right (by with_reducible assumption))))))) : @Ne Nat _ _) | exact Ne.symm ((And.left (And.left (And.right (And.right (And.right (And.right (by with_reducible assumption))))))) : @Ne Nat _ _) | exact ((And.left (And.right (And.left (And.right (And.right (And.right (And.right (by with_reducible assumption)))))))) : @Ne Nat _ _) | exact Ne.symm ((And.left (And.right (And.left (And.right (And.right (And.right (And.right (by with_reducible assumption)))))))) : @Ne Nat _ _) | exact ((And.right (And.right (And.left (And.right (And.right (And.right (And.right (by with_reducible assumption)))))))) : @Ne Nat _ _) | exact Ne.symm ((And.right (And.right (And.left (And.right (And.right (And.right (And.right (by with_reducible assumption)))))))) : @Ne Nat _ _) | exact ((And.left (And.left (And.right (And.right (And.right (And.right (And.right (by with_reducible assumption)))))))) : @Ne Nat _ _) | exact Ne.symm ((And.left (And.left (And.right (And.right (And.right (And.right (And.right (by with_reducible assumption)))))))) : @Ne Nat _ _) | exact ((And.left (And.right (And.left (And.right (And.right (And.right (And.right (And.right (by with_reducible assumption))))))))) : @Ne Nat _ _) | exact Ne.symm ((And.left (And.right (And.left (And.right (And.right (And.right (And.right (And.right (by with_reducible assumption))))))))) : @Ne Nat _ _) | exact ((And.right (And.right (And.left (And.right (And.right (And.right (And.right (And.right (by with_reducible assumption))))))))) : @Ne Nat _ _) | exact Ne.symm ((And.right (And.right (And.left (And.right (And.right (And.right (And.right (And.right (by with_reducible assumption))))))))) : @Ne Nat _ _) | exact ((And.left (And.left (And.right (And.right (And.right (And.right (And.right (And.right (by with_reducible assumption))))))))) : @Ne Nat _ _) | exact Ne.symm ((And.left (And.left (And.right (And.right (And.right (And.right (And.right (And.right (by with_reducible assumption))))))))) : @Ne Nat _ _) | exact ((And.left (And.right (And.left (And.right (And.right (And.right (And.right (And.right (And.right (by with_reducible assumption)))))))))) : @Ne Nat _ _) | exact Ne.symm ((And.left (And.right (And.left (And.right (And.right (And.right (And.right (And.right (And.right (by with_reducible assumption)))))))))) : @Ne Nat _ _) | exact ((And.right (And.right (And.left (And.right (And.right (And.right (And.right (And.right (And.right (by with_reducible assumption)))))))))) : @Ne Nat _ _) | exact Ne.symm ((And.right (And.right (And.left (And.right (And.right (And.right (And.right (And.right (And.right (by with_reducible assumption)))))))))) : @Ne Nat _ _) | omega)
  k_with "ktr_room" => ((try simp only [depth_under_make, depth_under_kw, depth_in1, depth_deeper, depth_caller]); (try dsimp only [ktrTop]); first | exact Nat.lt_of_le_of_lt (Nat.le_add_right _ _) (by with_reducible assumption) | exact roomStep (by with_reducible assumption) (by first | exact Nat.le_refl _ | decide | exact r2 _ | omega) | fail "room")
  k_with "ktr_units" => ((try simp only [units_in1, units_deeper, Around.mark_units, units_caller]); (try dsimp only [ktrTop]); first | exact unitStep (by with_reducible assumption) (by first | exact Nat.le_refl _ | decide | exact u20 _ | exact u40 _ | omega) | fail "units")
  k_with "k_mem" => first | exact tail_mem (by assumption) (by k_mem) | fail "k_mem"
  k_with "k_mem" => assumption
  k_with "k_mem" => first | exact List.mem_cons_of_mem _ (by assumption) | fail "k_mem"
  k_with "k_ne" => first | exact ne_of_off (by assumption) (by k_mem) | exact ne_of_off' (by assumption) (by k_mem)
  k_with "size_fits" => (simp only [List.size_toArray, Array.size_push, List.length_append, List.length_cons, List.length_nil, PySem.sizeLine_eq] <;> omega)
  k_with "exec If" => (k_here; k_fold)
  k_with "exec Assign" => (k_here; k_fold)
  k_with "exec Expr" => (k_here; k_fold)
  k_with "exec Return some" => (k_here; k_fold)
  k_with "execs cons" => (k_here; first | k_fold | ((with_reducible refine execsG ?_); intro t9; (try dsimp only)))
  k_with "execs nil" => (k_here; (with_reducible refine wpAny_execs_nil ?_); (try dsimp only))
  k_with "call builtin:len" => (k_here; (with_reducible show wpAny _ _ (call (Value.builtin _) [Value.ref _]) _ _ _); k_dflt (first | (refine' lenLit (k := 2) ?N ?m ?e ?z ?_; (case N => k_asm); (case m => k_mem); (case e => rfl); (case z => decide)) | (refine' lenLit (k := 3) ?N ?m ?e ?z ?_; (case N => k_asm); (case m => k_mem); (case e => rfl); (case z => decide))); intro t t')
  k_with "ite" => (k_here; first | (refine ite_pos (by first | omega | (simp only [beq_iff_eq, bne_iff_ne, decide_eq_true_eq]; omega)) ?_) | (refine ite_neg (by first | omega | (simp only [beq_iff_eq, bne_iff_ne, decide_eq_true_eq]; omega)) ?_))
  k_with "exec For Tuple Subscript cons nil" => k_extra "exec For Tuple"
  k_with "subscriptTail" => (k_here; (with_reducible show wpAny _ _ (subscriptTail _ _ (Value.ref _) (Value.int _ _)) _ _ _); (with_unfolding_all refine' litItem ?N ?m ?a ?b ?c ?_ ?d; (case N => k_asm); (case m => k_mem); (case a => decide); (case b => decide); (case c => rfl); (case d => with_unfolding_all rfl); k_whole))
  k_with "call builtin:list.index" => (k_here; (with_reducible show wpAny _ _ (call (Value.builtin _) [Value.ref _, Value.str _ _]) _ _ _); k_dflt (refine' kindIndex ?k0 ?N ?m ?_; (case k0 => with_reducible assumption); (case N => k_asm); (case m => k_mem)); dsimp only [Wh.ixI])
  k_with "exec If" => (k_here; k_dflt (first | ((with_reducible refine' ifT ?xe9 ?xb9 ?_); (case xe9 => kaf_pre); (case xb9 => decide); k_whole) | ((with_reducible refine' ifF ?xe9 ?xb9 ?_); (case xe9 => kaf_pre); (case xb9 => decide); k_whole)))
  k_with "isTrue Compare" => (k_here; k_dflt (first | ((with_reducible refine' isT ?xe9 ?xb9 ?_); (case xe9 => kaf_pre); (case xb9 => decide); k_whole) | ((with_reducible refine' isF ?xe9 ?xb9 ?_); (case xe9 => kaf_pre); (case xb9 => decide); k_whole) | ((with_reducible refine' isI ?xe9 ?_); (case xe9 => kaf_pre); k_whole) | ((with_reducible refine' isIl ?xe9 ?_); (case xe9 => kaf_pre); k_whole) | ((with_reducible refine' isIg ?xe9 ?_); (case xe9 => kaf_pre); k_whole)))
  k_with "eval Subscript" => (k_here; k_dflt ((with_reducible refine' Ev.go ?xe9 ?_); (case xe9 => kaf_pre); k_whole))
  k_with "spliced" => (k_here; k_dflt ((with_reducible refine' EvL.go ?xe9 ?_); (case xe9 => kaf_suf); k_whole); (try dsimp only [List.nil_append, List.cons_append]))
  k_with "eval Call" => (k_here; (with_reducible show wpAny _ _ (eval (Expr.Call (Expr.Name _ _) (_ :: _) [] _) _) _ _ _); k_dflt (refine' evCall ?xF9 ?xX9 ?xT9 ?xe9 ?xk9 ?xl9 ?_ ?xs9 ?xa9 ?xb9 ?xc9; (case xF9 => k_asm); (case xX9 => k_asm); (case xT9 => k_asm); (case xa9 => rfl); (case xb9 => rfl); (case xc9 => rfl); (case xe9 => k_is); (case xk9 => k_is); (case xl9 => kaf_suf); (case xs9 => rfl); k_whole))
  k_with "call ref" => (k_here; (with_reducible show wpAny _ _ (call (Value.ref 117) [_, _, _]) _ _ _); k_dflt (refine' labelUse2 ?kU ?ks ?kx ?kn ?kl ?k1 ?k2 ?k3 ?k4 ?k5 ?kK ?kd ?ku ?_; (case k1 => k_asm); (case k2 => k_asm); (case k3 => k_asm); (case k4 => k_asm); (case k5 => k_asm); (case kU => k_updF); (case ks => assumption); (case kx => first | assumption | exact TIn.mono (by assumption) (by assumption) | exact TIn.mono (by assumption) (fun p hp => tail_mem (by assumption) (tail_mem (by assumption) hp)) | exact TIn.mono (by assumption) (fun p hp => tail_mem (by assumption) (tail_mem (by assumption) (tail_mem (by assumption) hp)))); (case kn => exact hlc); (case kl => omega); (case kK => first | exact rfl | assumption); (case kd => ktr_room); (case ku => ktr_units)); intro l9 ls9 n9 t tn kl kc vs N R' h tk el9 e9 F9 N9 hr9 hf9 hl9 hs9 hz9)
  k_with "exec For Tuple" => (k_here; (rename Fr _ _ _ _ => lF'); (with_unfolding_all refine' For_turns lF' ?_; k_whole))
  k_with "pyIter ref" => (k_here; (with_reducible show wpAny _ _ (pyIter (Value.ref _)) (fun it s₂ => TurnsAt _ _ _ _ _ _ _ _ _ it s₂) _ _); (rename Fr _ _ _ _ => lF'); (rename News _ _ _ _ => lN'); (first | (with_unfolding_all refine' iter_listTurns (vs := [_, _]) (by rfl) lF' lN' (by k_mem) (by rfl) (by rfl) ?_) | (with_unfolding_all refine' iter_listTurns (vs := [_]) (by rfl) lF' lN' (by k_mem) (by rfl) (by rfl) ?_)  | (with_unfolding_all refine' iter_listTurns (vs := []) (by rfl) lF' lN' (by k_mem) (by rfl) (by rfl) ?_)); clear lF'; intro i' l1; (try k_lt l1); dsimp only [List.map])
  k_with "UnrEnd" => ((rename Fr _ _ _ _ => kF); (rename News _ _ _ _ => kN); k_dflt (refine' unrSwap kF kN ?koff ?_; (case koff => k_all)))
  k_with "UnrEndW" => ((rename Fr _ _ _ _ => kF); (rename News _ _ _ _ => kN); k_dflt (first
    | (refine' unrW1 kF kN ?koff ⟨⟨?kmm, trivial⟩, ?_⟩; (case koff => k_all); (case kmm => k_mem))
    | (refine' unrW2 kF kN ?koff ⟨⟨?kmm, trivial⟩, ?_⟩; (case koff => k_all); (case kmm => k_mem))))
  k_with "eval ListComp" => (k_here; k_dflt (refine LCg.ListComp_U (F₀ := by k_asm) (by rfl) (by decide) (by rfl) (by decide) (by rfl) ?_))
  k_with "CompEnd" => ((rename Fr _ _ _ _ => kF); (rename News _ _ _ _ => kN); (rename LCg.Off3 _ _ _ _ => hoff); k_dflt (refine' LCg.CompEnd.intro kF kN (_ :: _ :: _ :: _ :: _ :: _ :: _) (fun p hp => hp) ⟨hoff.1, hoff.2.1, hoff.2.2.1, hoff.2.2.2.1, hoff.2.2.2.2.1, hoff.2.2.2.2.2.1, off3_tail (by assumption) (by assumption) (.head _) (.tail _ (.head _)) (.tail _ (.tail _ (.head _))) hoff.2.2.2.2.2.2⟩ ?kss ?_; (case kss => exact Or.inr ⟨_, by k_mem, rfl, _, rfl⟩)))
  k_with "CompRest" => (with_unfolding_all first
    | (refine LCg.CompRest.succ ?_; intro v' I' oI' C' oC' D' m' h' tk' E' hv' hC' hx' F' N' off' ne'; lcg_open hv'; clear ne'; have oI := off3_I off'; have oC := off3_C off'; have oD := off3_D off')
    | refine LCg.CompRest.zero ?_)
  refine TIn.sw_elim (P := fun v => Ctr w mean mg mb 122 _ _ _ (v :: _) _) hx ?_
  clear hx
  intros
  unfold Ctr
  intro dp un gd cn cs a ccd cl outer A₀ base h₀ L m s Q E B F X N T hk hd hu hret
  refine wpAny_call ?_
  k_dflt (refine' code_defC ?k1 ?k2 ?k3 ?k4 ?k5 ?kA ?kF ?kK ?k6 ?k7 ?k8 ?k9 ?kB ?kD ?_ ?c2 ?c3 ?c4; (case kA => exact rfl); (case kF => exact rfl); (case kK => assumption); (case k1 => k_asm); (case k2 => k_asm); (case k3 => k_asm); (case k4 => k_asm); (case k5 => k_asm); (case k6 => k_is); (case k7 => k_is); (case k8 => ktr_room); (case k9 => exact BindsTo.of_eq rfl); (case kB => exact rfl); (case kD => decide +kernel); (case c2 => exact rfl); (case c3 => exact rfl); (case c4 => exact rfl); k_whole; intro g' L' h' tk' cells' FG' F' N' Y' B' X' T' l1; (try k_lt l1); k_cells Y'; (try simp only [List.cons_append, List.nil_append] at N'); (try dsimp only); (try k_lift B'); (try k_fold)); (refine letE ?_); intro e9; (refine letA ?_); intro A9; (rename Fr _ _ _ _ => F8); (refine letM F8 ?_); clear F8; intro m9 F9
  k_steps
  (rename News _ _ _ _ => kN)
  (simp only [List.push_toArray] at kN)
  refine' rowsEndE (top := [(_, tupO [.str (Str.ofString "switch_on_term") _, .int _ _, .int _ _, .int _ _, .int _ _])]) hret ?kF kN ?kB ?kL ?kC ?kR ?k2 ?kM ?ke ?kI ?kS
  case kF => assumption
  case ke => exact rowsT_sw (by assumption) (by assumption) (by assumption) (by assumption)
  case kB => k_mem
  case kL => k_mem
  case kC => k_mem
  case kS => assumption
  case kR => (intro p hp; simp only [List.mem_cons, hp, or_true])
  case k2 => repeat' (first | exact List.forall_mem_nil _ | (refine List.forall_mem_cons.mpr ⟨⟨by k_mem, ⟨by k_ne, by k_ne, by k_ne⟩, by k_all⟩, ?_⟩))
  case kM => repeat' (first | exact Ext3.nil | (refine' Ext3.step ?_ ?y ?z ?u ?v1 ?v2 ?v3; (case y => assumption); (case z => assumption); (case u => assumption); (case v1 => k_mem); (case v2 => k_mem); (case v3 => k_mem)))
  case kI => exact bin1 hbs (fun p hp => List.mem_append_right _ (tail_mem (by assumption) (tail_mem (by assumption) (tail_mem (by assumption) (tail_mem (by assumption) hp))))) (.sw (.head _))
set_option maxRecDepth 100000 in
set_option maxHeartbeats 8000000 in
theorem rows_tb0f (w : World) (mean : ExcName → Option Value) (mg mb : Str → Option Value) (bl la c : Addr) (n : Int) (tn : Tok) (bs : List Value) (is : List Ins) (vs : List Value) (ls : List (Int × T)) (kb kl kc : Nat) (tv : Value) (x1 : T) (R : Led)
    (hbs : BIn R bs is) (hls : LIn R vs ls) (hx : TIn R tv (.tb0 false x1)) (hbl : @Ne Nat bl la) (hbc : @Ne Nat bl c) (hlc : @Ne Nat la c) (h1 : ∀ p ∈ R, p.1 ≠ bl) (h2 : ∀ p ∈ R, p.1 ≠ la) (h3 : ∀ p ∈ R, p.1 ≠ c) (hb1 : bs.length ≤ 1000) (hl1 : vs.length ≤ 990) :
    Ctr w mean mg mb 122 4 40 ((bl, listOf bs.toArray kb) :: (la, listOf vs.toArray kl) :: (c, cnt1 n tn kc) :: R) [tv, .ref bl, .ref la, .ref c] (RowsPost bl la c n is ls (.tb0 false x1) R) := by
  k_with_none
  k_with "k_all" => first | with_reducible assumption | (refine' List.forall_mem_cons.mpr ⟨?qa9, ?qb9⟩; (case qa9 => k_ne); (case qb9 => k_all)) | exact allLt_ne (by with_reducible assumption) | exact off1_ne4 (by with_reducible assumption) | exact allLt_ne1 (by with_reducible assumption) | exact allLt_ne2 (by with_reducible assumption) | exact allLt_ne3 (by with_reducible assumption) | exact allLt_ne4 (by with_reducible assumption) | exact allLt_ne5 (by with_reducible assumption) | exact allLt_ne6 (by with_reducible assumption) | exact allLt_ne7 (by with_reducible assumption) | exact allLt_ne8 (by with_reducible assumption) | exact allLt_ne9 (by with_reducible assumption) | exact allLt_ne10 (by with_reducible assumption) | exact allLt_ne11 (by with_reducible assumption) | exact allLt_ne12 (by with_reducible assumption) | exact tail_ne (by with_reducible assumption) (fresh_ne (by with_reducible assumption) (by k_mem)) (by k_all) | fail "k_all"
  k_with "k_updF" => first | (refine' UpT.head ?ua9 ?ub9; (case ub9 => k_all); (case ua9 => k_updF)) | (refine' UpT.tail ?ua9 ?ub9; (case ua9 => k_ne); (case ub9 => k_updF)) | (refine' TailOf.cons ?ua9; (case ua9 => k_updF)) | exact TailOf.nil | fail "updT"
  k_with "k_updF" => first | (refine' UpT2.one ?ua9 ?ub9; (case ua9 => k_all); (case ub9 => k_updF)) | (refine' UpT2.two ?ua9 ?ub9; (case ua9 => k_all); (case ub9 => k_updF)) | (refine' UpT2.tail ?ua9 ?ub9 ?uc9; (case ua9 => k_ne); (case ub9 => k_ne); (case uc9 => k_updF)) | fail "upd2"
  k_with "kaf_pre" => first | (refine' evI ?pe9 ?pN9 ?pm9 ?px9; (case pe9 => kaf_pre); (case pN9 => k_asm); (case pm9 => k_mem); (case px9 => rfl)) | (refine' evL ?pF9 ?pv9 ?pa9 ?pb9 ?pc9; (case pF9 => k_asm); (case pa9 => rfl); (case pb9 => rfl); (case pc9 => rfl); (case pv9 => rfl)) | (refine' evC ?pN9 ?pl9 ?pm9 ?pd9 ?pa9 ?pb9 ?pc9; (case pa9 => rfl); (case pb9 => rfl); (case pc9 => rfl); (case pN9 => k_asm); (case pl9 => rfl); (case pm9 => k_mem); (case pd9 => k_asm)) | (refine' evK ?pF9 ?pX9 ?pT9 ?pe9 ?pa9 ?pb9 ?pc9; (case pF9 => k_asm); (case pX9 => k_asm); (case pT9 => k_asm); (case pa9 => rfl); (case pb9 => rfl); (case pc9 => rfl); (case pe9 => k_is))
  k_with "kaf_suf" => first | exact evl0 | (refine' evlI ?sl9; (case sl9 => kaf_suf)) | (refine' evlS ?sl9; (case sl9 => kaf_suf)) | (refine' evlN ?se9 ?sl9 ?sn9; (case sn9 => rfl); (case se9 => kaf_pre); (case sl9 => kaf_suf)) | (refine' evlE ?se9 ?sl9 ?sn9; (case sn9 => rfl); (case se9 => kaf_pre); (case sl9 => kaf_suf))
  k_with "k_ne" => (refine neN ?_; (try dsimp only); first | with_reducible assumption | exact Ne.symm (by with_reducible assumption) | (refine Nat.ne_of_gt ((?_ : ChainTo _ _ _ _) (by with_reducible assumption)); intro hch; with_reducible (first | exact And.left hch | exact And.left (And.right hch) | exact And.left (And.right (And.right hch)) | exact And.left (And.right (And.right (And.right hch))) | exact And.left (And.right (And.right (And.right (And.right hch)))) | exact And.left (And.right (And.right (And.right (And.right (And.right hch))))) | exact And.left (And.right (And.right (And.right (And.right (And.right (And.right hch)))))) | exact And.left (And.right (And.right (And.right (And.right (And.right (And.right (And.right hch))))))) | exact And.left (And.right (And.right (And.right (And.right (And.right (And.right (And.right (And.right hch)))))))) | exact And.left (And.right (And.right (And.right (And.right (And.right (And.right (And.right (And.right (And.right hch))))))))) | exact And.left (And.right (And.right (And.right (And.right (And.right (And.right (And.right (And.right (And.right (And.right hch)))))))))) | exact And.left (And.right (And.right (And.right (And.right (And.right (And.right (And.right (And.right (And.right (And.right (And.right hch))))))))))) | exact And.left (And.right (And.right (And.right (And.right (And.right (And.right (And.right (And.right (And.right (And.right (And.right (And.right hch)))))))))))) | exact And.left (And.right (And.right (And.right (And.right (And.right (And.right (And.right (And.right (And.right (And.right (And.right (And.right (And.right hch))))))))))))))) | (refine Nat.ne_of_lt ((?_ : ChainTo _ _ _ _) (by with_reducible assumption)); intro hch; with_reducible (first | exact And.left hch | exact And.left (And.right hch) | exact And.left (And.right (And.right hch)) | exact And.left (And.right (And.right (And.right hch))) | exact And.left (And.right (And.right (And.right (And.right hch)))) | exact And.left (And.right (And.right (And.right (And.right (And.right hch))))) | exact And.left (And.right (And.right (And.right (And.right (And.right (And.right hch)))))) | exact And.left (And.right (And.right (And.right (And.right (And.right (And.right (And.right hch))))))) | exact And.left (And.right (And.right (And.right (And.right (And.right (And.right (And.right (And.right hch)))))))) | exact And.left (And.right (And.right (And.right (And.right (And.right (And.right (And.right (And.right (And.right hch))))))))) | exact And.left (And.right (And.right (And.right (And.right (And.right (And.right (And.right (And.right (And.right (And.right hch)))))))))) | exact And.left (And.right (And.right (And.right (And.right (And.right (And.right (And.right (And.right (And.right (And.right (And.right hch))))))))))) | exact And.left (And.right (And.right (And.right (And.right (And.right (And.right (And.right (And.right (And.right (And.right (And.right (And.right hch)))))))))))) | exact And.left (And.right (And.right (And.right (And.right (And.right (And.right (And.right (And.right (And.right (And.right (And.right (And.right (And.right hch))))))))))))))) | exact Nat.ne_of_gt (Nat.lt_succ_of_lt (And.left (by with_reducible assumption))) | exact Nat.ne_of_lt (Nat.lt_succ_of_lt (And.left (by with_reducible assumption))) | exact Nat.ne_of_gt (Nat.lt_succ_of_lt (And.left (And.right (by with_reducible assumption)))) | exact Nat.ne_of_lt (Nat.lt_succ_of_lt (And.left (And.right (by with_reducible assumption)))) | exact Nat.ne_of_gt (Nat.lt_succ_of_lt (And.left (And.right (And.right (by with_reducible assumption))))) | exact Nat.ne_of_lt (Nat.lt_succ_of_lt (And.left (And.right (And.right (by with_reducible assumption))))) | exact Nat.ne_of_gt (Nat.lt_succ_of_lt (Nat.lt_succ_of_lt (And.left (by with_reducible assumption)))) | exact Nat.ne_of_lt (Nat.lt_succ_of_lt (Nat.lt_succ_of_lt (And.left (by with_reducible assumption)))) | exact Nat.ne_of_gt (Nat.lt_succ_of_lt (Nat.lt_succ_of_lt (And.left (And.right (by with_reducible assumption))))) | exact Nat.ne_of_lt (Nat.lt_succ_of_lt (Nat.lt_succ_of_lt (And.left (And.right (by with_reducible assumption))))) | exact Nat.ne_of_gt (Nat.lt_succ_of_lt (Nat.lt_succ_of_lt (And.left (And.right (And.right (by with_reducible assumption)))))) | exact Nat.ne_of_lt (Nat.lt_succ_of_lt (Nat.lt_succ_of_lt (And.left (And.right (And.right (by with_reducible assumption)))))) | exact Nat.ne_of_gt (Nat.lt_succ_of_lt (Nat.lt_succ_of_lt (Nat.lt_succ_of_lt (And.left (by with_reducible assumption))))) | exact Nat.ne_of_lt (Nat.lt_succ_of_lt (Nat.lt_succ_of_lt (Nat.lt_succ_of_lt (And.left (by with_reducible assumption))))) | exact Nat.ne_of_gt (Nat.lt_succ_of_lt (Nat.lt_succ_of_lt (Nat.lt_succ_of_lt (And.left (And.right (by with_reducible assumption)))))) | exact Nat.ne_of_lt (Nat.lt_succ_of_lt (Nat.lt_succ_of_lt (Nat.lt_succ_of_lt (And.left (And.right (by with_reducible assumption)))))) | exact Nat.ne_of_gt (Nat.lt_succ_of_lt (Nat.lt_succ_of_lt (Nat.lt_succ_of_lt (And.left (And.right (And.right (by with_reducible assumption))))))) | exact Nat.ne_of_lt (Nat.lt_succ_of_lt (Nat.lt_succ_of_lt (Nat.lt_succ_of_lt (And.left (And.right (And.right (by with_reducible assumption))))))) | exact Nat.ne_of_gt (Nat.lt_succ_self _) | exact Nat.ne_of_lt (Nat.lt_succ_self _) | exact Nat.ne_of_gt (Nat.lt_succ_of_lt (Nat.lt_succ_self _)) | exact Nat.ne_of_lt (Nat.lt_succ_of_lt (Nat.lt_succ_self _)) | exact ((And.left (And.left (by with_reducible assumption))) : @Ne Nat _ _) | exact Ne.symm ((And.left (And.left (by with_reducible assumption))) : @Ne Nat _ _) | exact ((And.left (And.right (And.left (by with_reducible assumption)))) : @Ne Nat _ _) | exact Ne.symm ((And.left (And.right (And.left (by with_reducible assumption)))) : @Ne Nat _ _) | exact ((And.right (And.right (And.left (by with_reducible assumption)))) : @Ne Nat _ _) | exact Ne.symm ((And.right (And.right (And.left (by with_reducible assumption)))) : @Ne Nat _ _) | exact ((And.left (And.left (And.right (by with_reducible assumption)))) : @Ne Nat _ _) | exact Ne.symm ((And.left (And.left (And.right (by with_reducible assumption)))) : @Ne Nat _ _) | exact ((And.left (And.right (And.left (And.right (by with_reducible assumption))))) : @Ne Nat _ _) | exact Ne.symm ((And.left (And.right (And.left (And.right (by with_reducible assumption))))) : @Ne Nat _ _) | exact ((And.right (And.right (And.left (And.right (by with_reducible assumption))))) : @Ne Nat _ _) | exact Ne.symm ((And.right (And.right (And.left (And.right (by with_reducible assumption))))) : @Ne Nat _ _) | exact ((And.left (And.left (And.right (And.right (by with_reducible assumption))))) : @Ne Nat _ _) | exact Ne.symm ((And.left (And.left (And.right (And.right (by with_reducible assumption))))) : @Ne Nat _ _) | exact ((And.left (And.right (And.left (And.right (And.right (by with_reducible assumption)))))) : @Ne Nat _ _) | exact Ne.symm ((And.left (And.right (And.left (And.right (And.right (by with_reducible assumption)))))) : @Ne Nat _ _) | exact ((And.right (And.right (And.left (And.right (And.right (by with_reducible assumption)))))) : @Ne Nat _ _) | exact Ne.symm ((And.right (And.right (And.left (And.right (And.right (by with_reducible assumption)))))) : @Ne Nat _ _) | exact ((And.left (And.left (And.right (And.right (And.right (by with_reducible assumption)))))) : @Ne Nat _ _) | exact Ne.symm ((And.left (And.left (And.right (And.right (And.right (by with_reducible assumption)))))) : @Ne Nat _ _) | exact ((And.left (And.right (And.left (And.right (And.right (And.right (by with_reducible assumption))))))) : @Ne Nat _ _) | exact Ne.symm ((And.left (And.right (And.left (And.right (And.right (And.right (by with_reducible assumption))))))) : @Ne Nat _ _) | exact ((And.right (And.right (And.left (And.right (And.right (And.right (by with_reducible assumption))))))) : @Ne Nat _ _) | exact Ne.symm ((And.right (And.right (And.left (And.right (And.right (And.right (by with_reducible assumption))))))) : @Ne Nat _ _) | exact ((And.left (And.left (And.right (And.right (And.right (And.right (by with_reducible assumption))))))) : @Ne Nat _ _) | exact Ne.symm ((And.left (And.left (And.right (And.right (And.right (And.right (by with_reducible assumption))))))) : @Ne Nat _ _) | exact ((And.left (And.right (And.left (And.right (And.right (And.right (And.right (by with_reducible assumption)))))))) : @Ne Nat _ _) | exact Ne.symm ((And.left (And.right (And.left (And.right (And.right (And.right (And.right (by with_reducible assumption)))))))) : @Ne Nat _ _) | exact ((And.right (And.right (And.left (And.right (And.right (And.right (And.right (by with_reducible assumption)))))))) : @Ne Nat _ _) | exact Ne.symm ((And.right (And.right (And.left (And.right (And.right (And.right (And.right (by with_reducible assumption)))))))) : @Ne Nat _ _) | exact ((And.left (And.left (And.right (And.right (And.right (And.right (And.right (by with_reducible assumption)))))))) : @Ne Nat _ _) | exact Ne.symm ((And.left (And.left (And.right (And.right (And.right (And.right (And.right (by with_reducible assumption)))))))) : @Ne Nat _ _) | exact ((And.left (And.right (And.left (And.right (And.right (And.right (And.right (And.right (by with_reducible assumption))))))))) : @Ne Nat _ _) | exact Ne.symm ((And.left (And.right (And.left (And.right (And.right (And.right (And.right (And.right (by with_reducible assumption))))))))) : @Ne Nat _ _) | exact ((And.right (And.right (And.left (And.right (And.right (And.right (And.right (And.right (by with_reducible assumption))))))))) : @Ne Nat _ _) | exact Ne.symm ((And.right (And.right (And.left (And.right (And.right (And.right (And.right (And.right (by with_reducible assumption))))))))) : @Ne Nat _ _) | exact ((And.left (And.left (And.right (And.right (And.right (And.right (And.right (And.right (by with_reducible assumption))))))))) : @Ne Nat _ _) | exact Ne.symm ((And.left (And.left (And.right (And.right (And.right (And.right (And.right (And.right (by with_reducible assumption))))))))) : @Ne Nat _ _) | exact ((And.left (And.right (And.left (And.right (And.right (And.right (And.right (And.right (And.right (by with_reducible assumption)))))))))) : @Ne Nat _ _) | exact Ne.symm ((And.left (And.right (And.left (And.right (And.right (And.right (And.right (And.right (And.right (by with_reducible assumption)))))))))) : @Ne Nat _ _) | exact ((And.right (And.right (And.left (And.right (And.right (And.right (And.right (And.right (And.right (by with_reducible assumption)))))))))) : @Ne Nat _ _) | exact Ne.symm ((And.right (And.right (And.left (And.right (And.right (And.right (And.right (And.right (And.right (by with_reducible assumption)))))))))) : @Ne Nat _ _) | omega)
  k_with "ktr_room" => ((try simp only [depth_under_make, depth_under_kw, depth_in1, depth_deeper, depth_caller]); (try dsimp only [ktrTop]); first | exact Nat.lt_of_le_of_lt (Nat.le_add_right _ _) (by with_reducible assumption) | exact roomStep (by with_reducible assumption) (by first | exact Nat.le_refl _ | decide | exact r2 _ | omega) | fail "room")
  k_with "ktr_units" => ((try simp only [units_in1, units_deeper, Around.mark_units, units_caller]); (try dsimp only [ktrTop]); first | exact unitStep (by with_reducible assumption) (by first | exact Nat.le_refl _ | decide | exact u20 _ | exact u40 _ | omega) | fail "units")
  k_with "k_mem" => first | exact tail_mem (by assumption) (by k_mem) | fail "k_mem"
  k_with "k_mem" => assumption
  k_with "k_mem" => first | exact List.mem_cons_of_mem _ (by assumption) | fail "k_mem"
  k_with "size_fits" => (simp only [List.size_toArray, Array.size_push, List.length_append, List.length_cons, List.length_nil, PySem.sizeLine_eq] <;> omega)
  k_with "exec If" => (k_here; k_fold)
  k_with "exec Assign" => (k_here; k_fold)
  k_with "exec Expr" => (k_here; k_fold)
  k_with "exec Return some" => (k_here; k_fold)
  k_with "execs cons" => (k_here; first | k_fold | ((with_reducible refine execsG ?_); intro t9; (try dsimp only)))
  k_with "execs nil" => (k_here; (with_reducible refine wpAny_execs_nil ?_); (try dsimp only))
  k_with "call builtin:len" => (k_here; (with_reducible show wpAny _ _ (call (Value.builtin _) [Value.ref _]) _ _ _); k_dflt (first | (refine' lenLit (k := 2) ?N ?m ?e ?z ?_; (case N => k_asm); (case m => k_mem); (case e => rfl); (case z => decide)) | (refine' lenLit (k := 3) ?N ?m ?e ?z ?_; (case N => k_asm); (case m => k_mem); (case e => rfl); (case z => decide))); intro t t')
  k_with "ite" => (k_here; first | (refine ite_pos (by first | omega | (simp only [beq_iff_eq, bne_iff_ne, decide_eq_true_eq]; omega)) ?_) | (refine ite_neg (by first | omega | (simp only [beq_iff_eq, bne_iff_ne, decide_eq_true_eq]; omega)) ?_))
  k_with "exec For Tuple Subscript cons nil" => k_extra "exec For Tuple"
  k_with "subscriptTail" => (k_here; (with_reducible show wpAny _ _ (subscriptTail _ _ (Value.ref _) (Value.int _ _)) _ _ _); (with_unfolding_all refine' litItem ?N ?m ?a ?b ?c ?_ ?d; (case N => k_asm); (case m => k_mem); (case a => decide); (case b => decide); (case c => rfl); (case d => with_unfolding_all rfl); k_whole))
  k_with "call builtin:list.index" => (k_here; (with_reducible show wpAny _ _ (call (Value.builtin _) [Value.ref _, Value.str _ _]) _ _ _); k_dflt (refine' kindIndex ?k0 ?N ?m ?_; (case k0 => with_reducible assumption); (case N => k_asm); (case m => k_mem)); dsimp only [Wh.ixI])
  k_with "exec If" => (k_here; k_dflt (first | ((with_reducible refine' ifT ?xe9 ?xb9 ?_); (case xe9 => kaf_pre); (case xb9 => decide); k_whole) | ((with_reducible refine' ifF ?xe9 ?xb9 ?_); (case xe9 => kaf_pre); (case xb9 => decide); k_whole)))
  k_with "isTrue Compare" => (k_here; k_dflt (first | ((with_reducible refine' isT ?xe9 ?xb9 ?_); (case xe9 => kaf_pre); (case xb9 => decide); k_whole) | ((with_reducible refine' isF ?xe9 ?xb9 ?_); (case xe9 => kaf_pre); (case xb9 => decide); k_whole) | ((with_reducible refine' isI ?xe9 ?_); (case xe9 => kaf_pre); k_whole) | ((with_reducible refine' isIl ?xe9 ?_); (case xe9 => kaf_pre); k_whole) | ((with_reducible refine' isIg ?xe9 ?_); (case xe9 => kaf_pre); k_whole)))
  k_with "eval Subscript" => (k_here; k_dflt ((with_reducible refine' Ev.go ?xe9 ?_); (case xe9 => kaf_pre); k_whole))
  k_with "spliced" => (k_here; k_dflt ((with_reducible refine' EvL.go ?xe9 ?_); (case xe9 => kaf_suf); k_whole); (try dsimp only [List.nil_append, List.cons_append]))
  k_with "eval Call" => (k_here; (with_reducible show wpAny _ _ (eval (Expr.Call (Expr.Name _ _) (_ :: _) [] _) _) _ _ _); k_dflt (refine' evCall ?xF9 ?xX9 ?xT9 ?xe9 ?xk9 ?xl9 ?_ ?xs9 ?xa9 ?xb9 ?xc9; (case xF9 => k_asm); (case xX9 => k_asm); (case xT9 => k_asm); (case xa9 => rfl); (case xb9 => rfl); (case xc9 => rfl); (case xe9 => k_is); (case xk9 => k_is); (case xl9 => kaf_suf); (case xs9 => rfl); k_whole))
  k_with "call ref" => (k_here; (with_reducible show wpAny _ _ (call (Value.ref 117) [_, _, _]) _ _ _); k_dflt (refine' labelUse ?kU ?ks ?kx ?kn ?kl ?k1 ?k2 ?k3 ?k4 ?k5 ?kK ?kd ?ku ?_; (case k1 => k_asm); (case k2 => k_asm); (case k3 => k_asm); (case k4 => k_asm); (case k5 => k_asm); (case kU => k_updF); (case ks => assumption); (case kx => first | assumption | exact TIn.mono (by assumption) (by assumption) | exact TIn.mono (by assumption) (fun p hp => tail_mem (by assumption) (tail_mem (by assumption) hp)) | exact TIn.mono (by assumption) (fun p hp => tail_mem (by assumption) (tail_mem (by assumption) (tail_mem (by assumption) hp)))); (case kn => exact hlc); (case kl => omega); (case kK => first | exact rfl | assumption); (case kd => ktr_room); (case ku => ktr_units)); intro t tn kl kc vs N R' h tk e9 F9 N9 hr9 hf9 hl9 hs9 hz9)
  k_with "exec For Tuple" => (k_here; (rename Fr _ _ _ _ => lF'); (with_unfolding_all refine' For_turns lF' ?_; k_whole))
  k_with "pyIter ref" => (k_here; (with_reducible show wpAny _ _ (pyIter (Value.ref _)) (fun it s₂ => TurnsAt _ _ _ _ _ _ _ _ _ it s₂) _ _); (rename Fr _ _ _ _ => lF'); (rename News _ _ _ _ => lN'); (first | (with_unfolding_all refine' iter_listTurns (vs := [_, _]) (by rfl) lF' lN' (by k_mem) (by rfl) (by rfl) ?_) | (with_unfolding_all refine' iter_listTurns (vs := [_]) (by rfl) lF' lN' (by k_mem) (by rfl) (by rfl) ?_)  | (with_unfolding_all refine' iter_listTurns (vs := []) (by rfl) lF' lN' (by k_mem) (by rfl) (by rfl) ?_)); clear lF'; intro i' l1; (try k_lt l1); dsimp only [List.map])
  k_with "UnrEnd" => ((rename Fr _ _ _ _ => kF); (rename News _ _ _ _ => kN); k_dflt (refine' unrSwap kF kN ?koff ?_; (case koff => k_all)))
  k_with "UnrEndW" => ((rename Fr _ _ _ _ => kF); (rename News _ _ _ _ => kN); k_dflt (first
    | (refine' unrW1 kF kN ?koff ⟨⟨?kmm, trivial⟩, ?_⟩; (case koff => k_all); (case kmm => k_mem))
    | (refine' unrW2 kF kN ?koff ⟨⟨?kmm, trivial⟩, ?_⟩; (case koff => k_all); (case kmm => k_mem))))
  k_with "eval ListComp" => (k_here; k_dflt (refine LCg.ListComp_U (F₀ := by k_asm) (by rfl) (by decide) (by rfl) (by decide) (by rfl) ?_))
  k_with "CompEnd" => ((rename Fr _ _ _ _ => kF); (rename News _ _ _ _ => kN); (rename _ ∧ _ ∧ _ ∧ _ ∧ _ ∧ _ ∧ LCg.Off3 _ _ _ _ => hoff); k_dflt (refine' LCg.CompEnd.intro kF kN (_ :: _ :: _ :: _ :: _ :: _ :: _) (fun p hp => hp) ⟨hoff.1, hoff.2.1, hoff.2.2.1, hoff.2.2.2.1, hoff.2.2.2.2.1, hoff.2.2.2.2.2.1, off3_tail (by assumption) (by assumption) (.head _) (.tail _ (.head _)) (.tail _ (.tail _ (.head _))) hoff.2.2.2.2.2.2⟩ ?kss ?_; (case kss => exact Or.inr ⟨_, by k_mem, rfl, _, rfl⟩)))
  refine TIn.tb0_elim (P := fun v => Ctr w mean mg mb 122 _ _ _ (v :: _) _) hx ?_
  clear hx
  intros
  unfold Ctr
  intro dp un gd cn cs a ccd cl outer A₀ base h₀ L m s Q E B F X N T hk hd hu hret
  refine wpAny_call ?_
  k_dflt (refine' code_defC ?k1 ?k2 ?k3 ?k4 ?k5 ?kA ?kF ?kK ?k6 ?k7 ?k8 ?k9 ?kB ?kD ?_ ?c2 ?c3 ?c4; (case kA => exact rfl); (case kF => exact rfl); (case kK => assumption); (case k1 => k_asm); (case k2 => k_asm); (case k3 => k_asm); (case k4 => k_asm); (case k5 => k_asm); (case k6 => k_is); (case k7 => k_is); (case k8 => ktr_room); (case k9 => exact BindsTo.of_eq rfl); (case kB => exact rfl); (case kD => decide +kernel); (case c2 => exact rfl); (case c3 => exact rfl); (case c4 => exact rfl); k_whole; intro g' L' h' tk' cells' FG' F' N' Y' B' X' T' l1; (try k_lt l1); k_cells Y'; (try simp only [List.cons_append, List.nil_append] at N'); (try dsimp only); (try k_lift B'); (try k_fold)); (refine letE ?_); intro e9; (refine letA ?_); intro A9; (rename Fr _ _ _ _ => F8); (refine letM F8 ?_); clear F8; intro m9 F9
  k_steps
  (rename News _ _ _ _ => kN)
  (simp only [List.push_toArray] at kN)
  refine' rowsEnd (top := [(_, tupO [.str (Str.ofString (sname false)) _, .ref _, .int _ _]), (_, tupO [])]) hret ?kF kN ?kB ?kL ?kC ?kR ?k2 ?kM ?kI ?kS rfl
  case kF => assumption
  case kB => k_mem
  case kL => k_mem
  case kC => k_mem
  case kS => assumption
  case kR => (intro p hp; simp only [List.mem_cons, hp, or_true])
  case k2 => repeat' (first | exact List.forall_mem_nil _ | (refine List.forall_mem_cons.mpr ⟨⟨by k_mem, ⟨by k_ne, by k_ne, by k_ne⟩, by k_all⟩, ?_⟩))
  case kM => repeat' (first | exact Ext3.nil | (refine' Ext3.step ?_ ?y ?z ?u ?v1 ?v2 ?v3; (case y => assumption); (case z => assumption); (case u => assumption); (case v1 => k_mem); (case v2 => k_mem); (case v3 => k_mem)))
  case kI => exact bin1 hbs (fun p hp => List.mem_append_right _ (tail_mem (by assumption) hp)) (.tb0 (.head _) (.tail _ (.head _)))
set_option maxRecDepth 100000 in
set_option maxHeartbeats 8000000 in
theorem rows_tb1f (w : World) (mean : ExcName → Option Value) (mg mb : Str → Option Value) (bl la c : Addr) (n : Int) (tn : Tok) (bs : List Value) (is : List Ins) (vs : List Value) (ls : List (Int × T)) (kb kl kc : Nat) (tv : Value) (x1 x2 : T) (R : Led)
    (hbs : BIn R bs is) (hls : LIn R vs ls) (hx : TIn R tv (.tb1 false x1 x2)) (hbl : @Ne Nat bl la) (hbc : @Ne Nat bl c) (hlc : @Ne Nat la c) (h1 : ∀ p ∈ R, p.1 ≠ bl) (h2 : ∀ p ∈ R, p.1 ≠ la) (h3 : ∀ p ∈ R, p.1 ≠ c) (hb1 : bs.length ≤ 1000) (hl1 : vs.length ≤ 990) :
    Ctr w mean mg mb 122 4 40 ((bl, listOf bs.toArray kb) :: (la, listOf vs.toArray kl) :: (c, cnt1 n tn kc) :: R) [tv, .ref bl, .ref la, .ref c] (RowsPost bl la c n is ls (.tb1 false x1 x2) R) := by
  k_with_none
  k_with "k_all" => first | with_reducible assumption | (refine' List.forall_mem_cons.mpr ⟨?qa9, ?qb9⟩; (case qa9 => k_ne); (case qb9 => k_all)) | exact allLt_ne (by with_reducible assumption) | exact off1_ne4 (by with_reducible assumption) | exact allLt_ne1 (by with_reducible assumption) | exact allLt_ne2 (by with_reducible assumption) | exact allLt_ne3 (by with_reducible assumption) | exact allLt_ne4 (by with_reducible assumption) | exact allLt_ne5 (by with_reducible assumption) | exact allLt_ne6 (by with_reducible assumption) | exact allLt_ne7 (by with_reducible assumption) | exact allLt_ne8 (by with_reducible assumption) | exact allLt_ne9 (by with_reducible assumption) | exact allLt_ne10 (by with_reducible assumption) | exact allLt_ne11 (by with_reducible assumption) | exact allLt_ne12 (by with_reducible assumption) | exact tail_ne (by with_reducible assumption) (fresh_ne (by with_reducible assumption) (by k_mem)) (by k_all) | fail "k_all"
  k_with "k_updF" => first | (refine' UpT.head ?ua9 ?ub9; (case ub9 => k_all); (case ua9 => k_updF)) | (refine' UpT.tail ?ua9 ?ub9; (case ua9 => k_ne); (case ub9 => k_updF)) | (refine' TailOf.cons ?ua9; (case ua9 => k_updF)) | exact TailOf.nil | fail "updT"
  k_with "k_updF" => first | (refine' UpT2.one ?ua9 ?ub9; (case ua9 => k_all); (case ub9 => k_updF)) | (refine' UpT2.two ?ua9 ?ub9; (case ua9 => k_all); (case ub9 => k_updF)) | (refine' UpT2.tail ?ua9 ?ub9 ?uc9; (case ua9 => k_ne); (case ub9 => k_ne); (case uc9 => k_updF)) | fail "upd2"
  k_with "kaf_pre" => first | (refine' evI ?pe9 ?pN9 ?pm9 ?px9; (case pe9 => kaf_pre); (case pN9 => k_asm); (case pm9 => k_mem); (case px9 => rfl)) | (refine' evL ?pF9 ?pv9 ?pa9 ?pb9 ?pc9; (case pF9 => k_asm); (case pa9 => rfl); (case pb9 => rfl); (case pc9 => rfl); (case pv9 => rfl)) | (refine' evC ?pN9 ?pl9 ?pm9 ?pd9 ?pa9 ?pb9 ?pc9; (case pa9 => rfl); (case pb9 => rfl); (case pc9 => rfl); (case pN9 => k_asm); (case pl9 => rfl); (case pm9 => k_mem); (case pd9 => k_asm)) | (refine' evK ?pF9 ?pX9 ?pT9 ?pe9 ?pa9 ?pb9 ?pc9; (case pF9 => k_asm); (case pX9 => k_asm); (case pT9 => k_asm); (case pa9 => rfl); (case pb9 => rfl); (case pc9 => rfl); (case pe9 => k_is))
  k_with "kaf_suf" => first | exact evl0 | (refine' evlI ?sl9; (case sl9 => kaf_suf)) | (refine' evlS ?sl9; (case sl9 => kaf_suf)) | (refine' evlN ?se9 ?sl9 ?sn9; (case sn9 => rfl); (case se9 => kaf_pre); (case sl9 => kaf_suf)) | (refine' evlE ?se9 ?sl9 ?sn9; (case sn9 => rfl); (case se9 => kaf_pre); (case sl9 => kaf_suf))
  k_with "k_ne" => (refine neN ?_; (try dsimp only); first | with_reducible assumption | exact Ne.symm (by with_reducible assumption) | (refine Nat.ne_of_gt ((?_ : ChainTo _ _ _ _) (by with_reducible assumption)); intro hch; with_reducible (first | exact And.left hch | exact And.left (And.right hch) | exact And.left (And.right (And.right hch)) | exact And.left (And.right (And.right (And.right hch))) | exact And.left (And.right (And.right (And.right (And.right hch)))) | exact And.left (And.right (And.right (And.right (And.right (And.right hch))))) | exact And.left (And.right (And.right (And.right (And.right (And.right (And.right hch)))))) | exact And.left (And.right (And.right (And.right (And.right (And.right (And.right (And.right hch))))))) | exact And.left (And.right (And.right (And.right (And.right (And.right (And.right (And.right (And.right hch)))))))) | exact And.left (And.right (And.right (And.right (And.right (And.right (And.right (And.right (And.right (And.right hch))))))))) | exact And.left (And.right (And.right (And.right (And.right (And.right (And.right (And.right (And.right (And.right (And.right hch)))))))))) | exact And.left (And.right (And.right (And.right (And.right (And.right (And.right (And.right (And.right (And.right (And.right (And.right hch))))))))))) | exact And.left (And.right (And.right (And.right (And.right (And.right (And.right (And.right (And.right (And.right (And.right (And.right (And.right hch)))))))))))) | exact And.left (And.right (And.right (And.right (And.right (And.right (And.right (And.right (And.right (And.right (And.right (And.right (And.right (And.right hch))))))))))))))) | (refine Nat.ne_of_lt ((?_ : ChainTo _ _ _ _) (by with_reducible assumption)); intro hch; with_reducible (first | exact And.left hch | exact And.left (And.right hch) | exact And.left (And.right (And.right hch)) | exact And.left (And.right (And.right (And.right hch))) | exact And.left (And.right (And.right (And.right (And.right hch)))) | exact And.left (And.right (And.right (And.right (And.right (And.right hch))))) | exact And.left (And.right (And.right (And.right (And.right (And.right (And.right hch)))))) | exact And.left (And.right (And.right (And.right (And.right (And.right (And.right (And.right hch))))))) | exact And.left (And.right (And.right (And.right (And.right (And.right (And.right (And.right (And.right hch)))))))) | exact And.left (And.right (And.right (And.right (And.right (And.right (And.right (And.right (And.right (And.right hch))))))))) | exact And.left (And.right (And.right (And.right (And.right (And.right (And.right (And.right (And.right (And.right (And.right hch)))))))))) | exact And.left (And.right (And.right (And.right (And.right (And.right (And.right (And.right (And.right (And.right (And.right (And.right hch))))))))))) | exact And.left (And.right (And.right (And.right (And.right (And.right (And.right (And.right (And.right (And.right (And.right (And.right (And.right hch)))))))))))) | exact And.left (And.right (And.right (And.right (And.right (And.right (And.right (And.right (And.right (And.right (And.right (And.right (And.right (And.right hch))))))))))))))) | exact Nat.ne_of_gt (Nat.lt_succ_of_lt (And.left (by with_reducible assumption))) | exact Nat.ne_of_lt (Nat.lt_succ_of_lt (And.left (by with_reducible assumption))) | exact Nat.ne_of_gt (Nat.lt_succ_of_lt (And.left (And.right (by with_reducible assumption)))) | exact Nat.ne_of_lt (Nat.lt_succ_of_lt (And.left (And.right (by with_reducible assumption)))) | exact Nat.ne_of_gt (Nat.lt_succ_of_lt (And.left (And.right (And.right (by with_reducible assumption))))) | exact Nat.ne_of_lt (Nat.lt_succ_of_lt (And.left (And.right (And.right (by with_reducible assumption))))) | exact Nat.ne_of_gt (Nat.lt_succ_of_lt (Nat.lt_succ_of_lt (And.left (by with_reducible assumption)))) | exact Nat.ne_of_lt (Nat.lt_succ_of_lt (Nat.lt_succ_of_lt (And.left (by with_reducible assumption)))) | exact Nat.ne_of_gt (Nat.lt_succ_of_lt (Nat.lt_succ_of_lt (And.left (And.right (by with_reducible assumption))))) | exact Nat.ne_of_lt (Nat.lt_succ_of_lt (Nat.lt_succ_of_lt (And.left (And.right (by with_reducible assumption))))) | exact Nat.ne_of_gt (Nat.lt_succ_of_lt (Nat.lt_succ_of_lt (And.left (And.right (And.right (by with_reducible assumption)))))) | exact Nat.ne_of_lt (Nat.lt_succ_of_lt (Nat.lt_succ_of_lt (And.left (And.right (And.right (by with_reducible assumption)))))) | exact Nat.ne_of_gt (Nat.lt_succ_of_lt (Nat.lt_succ_of_lt (Nat.lt_succ_of_lt (And.left (by with_reducible assumption))))) | exact Nat.ne_of_lt (Nat.lt_succ_of_lt (Nat.lt_succ_of_lt (Nat.lt_succ_of_lt (And.left (by with_reducible assumption))))) | exact Nat.ne_of_gt (Nat.lt_succ_of_lt (Nat.lt_succ_of_lt (Nat.lt_succ_of_lt (And.left (And.right (by with_reducible assumption)))))) | exact Nat.ne_of_lt (Nat.lt_succ_of_lt (Nat.lt_succ_of_lt (Nat.lt_succ_of_lt (And.left (And.right (by with_reducible assumption)))))) | exact Nat.ne_of_gt (Nat.lt_succ_of_lt (Nat.lt_succ_of_lt (Nat.lt_succ_of_lt (And.left (And.right (And.right (by with_reducible assumption))))))) | exact Nat.ne_of_lt (Nat.lt_succ_of_lt (Nat.lt_succ_of_lt (Nat.lt_succ_of_lt (And.left (And.right (And.right (by with_reducible assumption))))))) | exact Nat.ne_of_gt (Nat.lt_succ_self _) | exact Nat.ne_of_lt (Nat.lt_succ_self _) | exact Nat.ne_of_gt (Nat.lt_succ_of_lt (Nat.lt_succ_self _)) | exact Nat.ne_of_lt (Nat.lt_succ_of_lt (Nat.lt_succ_self _)) | exact ((And.left (And.left (by with_reducible assumption))) : @Ne Nat _ _) | exact Ne.symm ((And.left (And.left (by with_reducible assumption))) : @Ne Nat _ _) | exact ((And.left (And.right (And.left (by with_reducible assumption)))) : @Ne Nat _ _) | exact Ne.symm ((And.left (And.right (And.left (by with_reducible assumption)))) : @Ne Nat _ _) | exact ((And.right (And.right (And.left (by with_reducible assumption)))) : @Ne Nat _ _) | exact Ne.symm ((And.right (And.right (And.left (by with_reducible assumption)))) : @Ne Nat _ _) | exact ((And.left (And.left (And.right (by with_reducible assumption)))) : @Ne Nat _ _) | exact Ne.symm ((And.left (And.left (And.right (by with_reducible assumption)))) : @Ne Nat _ _) | exact ((And.left (And.right (And.left (And.right (by with_reducible assumption))))) : @Ne Nat _ _) | exact Ne.symm ((And.left (And.right (And.left (And.right (by with_reducible assumption))))) : @Ne Nat _ _) | exact ((And.right (And.right (And.left (And.right (by with_reducible assumption))))) : @Ne Nat _ _) | exact Ne.symm ((And.right (And.right (And.left (And.right (by with_reducible assumption))))) : @Ne Nat _ _) | exact ((And.left (And.left (And.right (And.right (by with_reducible assumption))))) : @Ne Nat _ _) | exact Ne.symm ((And.left (And.left (And.right (And.right (by with_reducible assumption))))) : @Ne Nat _ _) | exact ((And.left (And.right (And.left (And.right (And.right (by with_reducible assumption)))))) : @Ne Nat _ _) | exact Ne.symm ((And.left (And.right (And.left (And.right (And.right (by with_reducible assumption)))))) : @Ne Nat _ _) | exact ((And.right (And.right (And.left (And.right (And.right (by with_reducible assumption)))))) : @Ne Nat _ _) | exact Ne.symm ((And.right (And.right (And.left (And.right (And.right (by with_reducible assumption)))))) : @Ne Nat _ _) | exact ((And.left (And.left (And.right (And.right (And.right (by with_reducible assumption)))))) : @Ne Nat _ _) | exact Ne.symm ((And.left (And.left (And.right (And.right (And.right (by with_reducible assumption)))))) : @Ne Nat _ _) | exact ((And.left (And.right (And.left (And.right (And.right (And.right (by with_reducible assumption))))))) : @Ne Nat _ _) | exact Ne.symm ((And.left (And.right (And.left (And.right (And.right (And.right (by with_reducible assumption))))))) : @Ne Nat _ _) | exact ((And.right (And.right (And.left (And.right (And.right (And.right (by with_reducible assumption))))))) : @Ne Nat _ _) | exact Ne.symm ((And.right (And.right (And.left (And.right (And.right (And.right (by with_reducible assumption))))))) : @Ne Nat _ _) | exact ((And.left (And.left (And.right (And.right (And.right (And.right (by with_reducible assumption))))))) : @Ne Nat _ _) | exact Ne.symm ((And.left (And.left (And.right (And.right (And.right (And.right (by with_reducible assumption))))))) : @Ne Nat _ _) | exact ((And.left (And.right (And.left (And.right (And.right (And.right (And.right (by with_reducible assumption)))))))) : @Ne Nat _ _) | exact Ne.symm ((And.left (And.right (And.left (And.right (And.right (And.right (And.right (by with_reducible assumption)))))))) : @Ne Nat _ _) | exact ((And.right (And.right (And.left (And.right (And.right (And.right (And.right (by with_reducible assumption)))))))) : @Ne Nat _ _) | exact Ne.symm ((And.right (And.right (And.left (And.right (And.right (And.right (And.right (by with_reducible assumption)))))))) : @Ne Nat _ _) | exact ((And.left (And.left (And.right (And.right (And.right (And.right (And.right (by with_reducible assumption)))))))) : @Ne Nat _ _) | exact Ne.symm ((And.left (And.left (And.right (And.right (And.right (And.right (And.right (by with_reducible assumption)))))))) : @Ne Nat _ _) | exact ((And.left (And.right (And.left (And.right (And.right (And.right (And.right (And.right (by with_reducible assumption))))))))) : @Ne Nat _ _) | exact Ne.symm ((And.left (And.right (And.left (And.right (And.right (And.right (And.right (And.right (by with_reducible assumption))))))))) : @Ne Nat _ _) | exact ((And.right (And.right (And.left (And.right (And.right (And.right (And.right (And.right (by with_reducible assumption))))))))) : @Ne Nat _ _) | exact Ne.symm ((And.right (And.right (And.left (And.right (And.right (And.right (And.right (And.right (by with_reducible assumption))))))))) : @Ne Nat _ _) | exact ((And.left (And.left (And.right (And.right (And.right (And.right (And.right (And.right (by with_reducible assumption))))))))) : @Ne Nat _ _) | exact Ne.symm ((And.left (And.left (And.right (And.right (And.right (And.right (And.right (And.right (by with_reducible assumption))))))))) : @Ne Nat _ _) | exact ((And.left (And.right (And.left (And.right (And.right (And.right (And.right (And.right (And.right (by with_reducible assumption)))))))))) : @Ne Nat _ _) | exact Ne.symm ((And.left (And.right (And.left (And.right (And.right (And.right (And.right (And.right (And.right (by with_reducible assumption)))))))))) : @Ne Nat _ _) | exact ((And.right (And.right (And.left (And.right (And.right (And.right (And.right (And.right (And.right (by with_reducible assumption)))))))))) : @Ne Nat _ _) | exact Ne.symm ((And.right (And.right (And.left (And.right (And.right (And.right (And.right (And.right (And.right (by with_reducible assumption)))))))))) : @Ne Nat _ _) | omega)
  k_with "ktr_room" => ((try simp only [depth_under_make, depth_under_kw, depth_in1, depth_deeper, depth_caller]); (try dsimp only [ktrTop]); first | exact Nat.lt_of_le_of_lt (Nat.le_add_right _ _) (by with_reducible assumption) | exact roomStep (by with_reducible assumption) (by first | exact Nat.le_refl _ | decide | exact r2 _ | omega) | fail "room")
  k_with "ktr_units" => ((try simp only [units_in1, units_deeper, Around.mark_units, units_caller]); (try dsimp only [ktrTop]); first | exact unitStep (by with_reducible assumption) (by first | exact Nat.le_refl _ | decide | exact u20 _ | exact u40 _ | omega) | fail "units")
  k_with "k_mem" => first | exact tail_mem (by assumption) (by k_mem) | fail "k_mem"
  k_with "k_mem" => assumption
  k_with "k_mem" => first | exact List.mem_cons_of_mem _ (by assumption) | fail "k_mem"
  k_with "size_fits" => (simp only [List.size_toArray, Array.size_push, List.length_append, List.length_cons, List.length_nil, PySem.sizeLine_eq] <;> omega)
  k_with "exec If" => (k_here; k_fold)
  k_with "exec Assign" => (k_here; k_fold)
  k_with "exec Expr" => (k_here; k_fold)
  k_with "exec Return some" => (k_here; k_fold)
  k_with "execs cons" => (k_here; first | k_fold | ((with_reducible refine execsG ?_); intro t9; (try dsimp only)))
  k_with "execs nil" => (k_here; (with_reducible refine wpAny_execs_nil ?_); (try dsimp only))
  k_with "call builtin:len" => (k_here; (with_reducible show wpAny _ _ (call (Value.builtin _) [Value.ref _]) _ _ _); k_dflt (first | (refine' lenLit (k := 2) ?N ?m ?e ?z ?_; (case N => k_asm); (case m => k_mem); (case e => rfl); (case z => decide)) | (refine' lenLit (k := 3) ?N ?m ?e ?z ?_; (case N => k_asm); (case m => k_mem); (case e => rfl); (case z => decide))); intro t t')
  k_with "ite" => (k_here; first | (refine ite_pos (by first | omega | (simp only [beq_iff_eq, bne_iff_ne, decide_eq_true_eq]; omega)) ?_) | (refine ite_neg (by first | omega | (simp only [beq_iff_eq, bne_iff_ne, decide_eq_true_eq]; omega)) ?_))
  k_with "exec For Tuple Subscript cons nil" => k_extra "exec For Tuple"
  k_with "subscriptTail" => (k_here; (with_reducible show wpAny _ _ (subscriptTail _ _ (Value.ref _) (Value.int _ _)) _ _ _); (with_unfolding_all refine' litItem ?N ?m ?a ?b ?c ?_ ?d; (case N => k_asm); (case m => k_mem); (case a => decide); (case b => decide); (case c => rfl); (case d => with_unfolding_all rfl); k_whole))
  k_with "call builtin:list.index" => (k_here; (with_reducible show wpAny _ _ (call (Value.builtin _) [Value.ref _, Value.str _ _]) _ _ _); k_dflt (refine' kindIndex ?k0 ?N ?m ?_; (case k0 => with_reducible assumption); (case N => k_asm); (case m => k_mem)); dsimp only [Wh.ixI])
  k_with "exec If" => (k_here; k_dflt (first | ((with_reducible refine' ifT ?xe9 ?xb9 ?_); (case xe9 => kaf_pre); (case xb9 => decide); k_whole) | ((with_reducible refine' ifF ?xe9 ?xb9 ?_); (case xe9 => kaf_pre); (case xb9 => decide); k_whole)))
  k_with "isTrue Compare" => (k_here; k_dflt (first | ((with_reducible refine' isT ?xe9 ?xb9 ?_); (case xe9 => kaf_pre); (case xb9 => decide); k_whole) | ((with_reducible refine' isF ?xe9 ?xb9 ?_); (case xe9 => kaf_pre); (case xb9 => decide); k_whole) | ((with_reducible refine' isI ?xe9 ?_); (case xe9 => kaf_pre); k_whole) | ((with_reducible refine' isIl ?xe9 ?_); (case xe9 => kaf_pre); k_whole) | ((with_reducible refine' isIg ?xe9 ?_); (case xe9 => kaf_pre); k_whole)))
  k_with "eval Subscript" => (k_here; k_dflt ((with_reducible refine' Ev.go ?xe9 ?_); (case xe9 => kaf_pre); k_whole))
  k_with "spliced" => (k_here; k_dflt ((with_reducible refine' EvL.go ?xe9 ?_); (case xe9 => kaf_suf); k_whole); (try dsimp only [List.nil_append, List.cons_append]))
  k_with "eval Call" => (k_here; (with_reducible show wpAny _ _ (eval (Expr.Call (Expr.Name _ _) (_ :: _) [] _) _) _ _ _); k_dflt (refine' evCall ?xF9 ?xX9 ?xT9 ?xe9 ?xk9 ?xl9 ?_ ?xs9 ?xa9 ?xb9 ?xc9; (case xF9 => k_asm); (case xX9 => k_asm); (case xT9 => k_asm); (case xa9 => rfl); (case xb9 => rfl); (case xc9 => rfl); (case xe9 => k_is); (case xk9 => k_is); (case xl9 => kaf_suf); (case xs9 => rfl); k_whole))
  k_with "call ref" => (k_here; (with_reducible show wpAny _ _ (call (Value.ref 117) [_, _, _]) _ _ _); k_dflt (refine' labelUse ?kU ?ks ?kx ?kn ?kl ?k1 ?k2 ?k3 ?k4 ?k5 ?kK ?kd ?ku ?_; (case k1 => k_asm); (case k2 => k_asm); (case k3 => k_asm); (case k4 => k_asm); (case k5 => k_asm); (case kU => k_updF); (case ks => assumption); (case kx => first | assumption | exact TIn.mono (by assumption) (by assumption) | exact TIn.mono (by assumption) (fun p hp => tail_mem (by assumption) (tail_mem (by assumption) hp)) | exact TIn.mono (by assumption) (fun p hp => tail_mem (by assumption) (tail_mem (by assumption) (tail_mem (by assumption) hp)))); (case kn => exact hlc); (case kl => omega); (case kK => first | exact rfl | assumption); (case kd => ktr_room); (case ku => ktr_units)); intro t tn kl kc vs N R' h tk e9 F9 N9 hr9 hf9 hl9 hs9 hz9)
  k_with "exec For Tuple" => (k_here; (rename Fr _ _ _ _ => lF'); (with_unfolding_all refine' For_turns lF' ?_; k_whole))
  k_with "pyIter ref" => (k_here; (with_reducible show wpAny _ _ (pyIter (Value.ref _)) (fun it s₂ => TurnsAt _ _ _ _ _ _ _ _ _ it s₂) _ _); (rename Fr _ _ _ _ => lF'); (rename News _ _ _ _ => lN'); (first | (with_unfolding_all refine' iter_listTurns (vs := [_, _]) (by rfl) lF' lN' (by k_mem) (by rfl) (by rfl) ?_) | (with_unfolding_all refine' iter_listTurns (vs := [_]) (by rfl) lF' lN' (by k_mem) (by rfl) (by rfl) ?_)  | (with_unfolding_all refine' iter_listTurns (vs := []) (by rfl) lF' lN' (by k_mem) (by rfl) (by rfl) ?_)); clear lF'; intro i' l1; (try k_lt l1); dsimp only [List.map])
  k_with "UnrEnd" => ((rename Fr _ _ _ _ => kF); (rename News _ _ _ _ => kN); k_dflt (refine' unrSwap kF kN ?koff ?_; (case koff => k_all)))
  k_with "UnrEndW" => ((rename Fr _ _ _ _ => kF); (rename News _ _ _ _ => kN); k_dflt (first
    | (refine' unrW1 kF kN ?koff ⟨⟨?kmm, trivial⟩, ?_⟩; (case koff => k_all); (case kmm => k_mem))
    | (refine' unrW2 kF kN ?koff ⟨⟨?kmm, trivial⟩, ?_⟩; (case koff => k_all); (case kmm => k_mem))))
  k_with "eval ListComp" => (k_here; k_dflt (refine LCg.ListComp_U (F₀ := by k_asm) (by rfl) (by decide) (by rfl) (by decide) (by rfl) ?_))
  k_with "CompEnd" => ((rename Fr _ _ _ _ => kF); (rename News _ _ _ _ => kN); (rename _ ∧ _ ∧ _ ∧ _ ∧ _ ∧ _ ∧ LCg.Off3 _ _ _ _ => hoff); k_dflt (refine' LCg.CompEnd.intro kF kN (_ :: _ :: _ :: _ :: _ :: _ :: _) (fun p hp => hp) ⟨hoff.1, hoff.2.1, hoff.2.2.1, hoff.2.2.2.1, hoff.2.2.2.2.1, hoff.2.2.2.2.2.1, off3_tail (by assumption) (by assumption) (.head _) (.tail _ (.head _)) (.tail _ (.tail _ (.head _))) hoff.2.2.2.2.2.2⟩ ?kss ?_; (case kss => exact Or.inr ⟨_, by k_mem, rfl, _, rfl⟩)))
  refine TIn.tb1_elim (P := fun v => Ctr w mean mg mb 122 _ _ _ (v :: _) _) hx ?_
  clear hx
  intros
  unfold Ctr
  intro dp un gd cn cs a ccd cl outer A₀ base h₀ L m s Q E B F X N T hk hd hu hret
  refine wpAny_call ?_
  k_dflt (refine' code_defC ?k1 ?k2 ?k3 ?k4 ?k5 ?kA ?kF ?kK ?k6 ?k7 ?k8 ?k9 ?kB ?kD ?_ ?c2 ?c3 ?c4; (case kA => exact rfl); (case kF => exact rfl); (case kK => assumption); (case k1 => k_asm); (case k2 => k_asm); (case k3 => k_asm); (case k4 => k_asm); (case k5 => k_asm); (case k6 => k_is); (case k7 => k_is); (case k8 => ktr_room); (case k9 => exact BindsTo.of_eq rfl); (case kB => exact rfl); (case kD => decide +kernel); (case c2 => exact rfl); (case c3 => exact rfl); (case c4 => exact rfl); k_whole; intro g' L' h' tk' cells' FG' F' N' Y' B' X' T' l1; (try k_lt l1); k_cells Y'; (try simp only [List.cons_append, List.nil_append] at N'); (try dsimp only); (try k_lift B'); (try k_fold)); (refine letE ?_); intro e9; (refine letA ?_); intro A9; (rename Fr _ _ _ _ => F8); (refine letM F8 ?_); clear F8; intro m9 F9
  k_steps
  (rename News _ _ _ _ => kN)
  (simp only [List.push_toArray] at kN)
  refine' rowsEnd (top := [(_, tupO [.str (Str.ofString (sname false)) _, .ref _, .int _ _]), (_, tupO [.ref _]), (_, tupO [.ref _, .int _ _]), (_, tupO [.int 4 _, .int 3 _])]) hret ?kF kN ?kB ?kL ?kC ?kR ?k2 ?kM ?kI ?kS rfl
  case kF => assumption
  case kB => k_mem
  case kL => k_mem
  case kC => k_mem
  case kS => assumption
  case kR => (intro p hp; simp only [List.mem_cons, hp, or_true])
  case k2 => repeat' (first | exact List.forall_mem_nil _ | (refine List.forall_mem_cons.mpr ⟨⟨by k_mem, ⟨by k_ne, by k_ne, by k_ne⟩, by k_all⟩, ?_⟩))
  case kM => repeat' (first | exact Ext3.nil | (refine' Ext3.step ?_ ?y ?z ?u ?v1 ?v2 ?v3; (case y => assumption); (case z => assumption); (case u => assumption); (case v1 => k_mem); (case v2 => k_mem); (case v3 => k_mem)))
  case kI => exact bin1 hbs (fun p hp => List.mem_append_right _ (tail_mem (by assumption) (tail_mem (by assumption) hp))) (.tb1 (.head _) (.tail _ (.head _)) (.tail _ (.tail _ (.head _))) (.con (.tail _ (.tail _ (.tail _ (.head _))))))
set_option maxRecDepth 100000 in
set_option maxHeartbeats 8000000 in
theorem rows_tb2f (w : World) (mean : ExcName → Option Value) (mg mb : Str → Option Value) (bl la c : Addr) (n : Int) (tn : Tok) (bs : List Value) (is : List Ins) (vs : List Value) (ls : List (Int × T)) (kb kl kc : Nat) (tv : Value) (x1 x2 x3 : T) (R : Led)
    (hbs : BIn R bs is) (hls : LIn R vs ls) (hx : TIn R tv (.tb2 false x1 x2 x3)) (hbl : @Ne Nat bl la) (hbc : @Ne Nat bl c) (hlc : @Ne Nat la c) (h1 : ∀ p ∈ R, p.1 ≠ bl) (h2 : ∀ p ∈ R, p.1 ≠ la) (h3 : ∀ p ∈ R, p.1 ≠ c) (hb1 : bs.length ≤ 1000) (hl1 : vs.length ≤ 990) :
    Ctr w mean mg mb 122 4 40 ((bl, listOf bs.toArray kb) :: (la, listOf vs.toArray kl) :: (c, cnt1 n tn kc) :: R) [tv, .ref bl, .ref la, .ref c] (RowsPost bl la c n is ls (.tb2 false x1 x2 x3) R) := by
  k_with_none
  k_with "k_all" => first | with_reducible assumption | (refine' List.forall_mem_cons.mpr ⟨?qa9, ?qb9⟩; (case qa9 => k_ne); (case qb9 => k_all)) | exact allLt_ne (by with_reducible assumption) | exact off1_ne4 (by with_reducible assumption) | exact allLt_ne1 (by with_reducible assumption) | exact allLt_ne2 (by with_reducible assumption) | exact allLt_ne3 (by with_reducible assumption) | exact allLt_ne4 (by with_reducible assumption) | exact allLt_ne5 (by with_reducible assumption) | exact allLt_ne6 (by with_reducible assumption) | exact allLt_ne7 (by with_reducible assumption) | exact allLt_ne8 (by with_reducible assumption) | exact allLt_ne9 (by with_reducible assumption) | exact allLt_ne10 (by with_reducible assumption) | exact allLt_ne11 (by with_reducible assumption) | exact allLt_ne12 (by with_reducible assumption) | exact tail_ne (by with_reducible assumption) (fresh_ne (by with_reducible assumption) (by k_mem)) (by k_all) | fail "k_all"
  k_with "k_updF" => first | (refine' UpT.head ?ua9 ?ub9; (case ub9 => k_all); (case ua9 => k_updF)) | (refine' UpT.tail ?ua9 ?ub9; (case ua9 => k_ne); (case ub9 => k_updF)) | (refine' TailOf.cons ?ua9; (case ua9 => k_updF)) | exact TailOf.nil | fail "updT"
  k_with "k_updF" => first | (refine' UpT2.one ?ua9 ?ub9; (case ua9 => k_all); (case ub9 => k_updF)) | (refine' UpT2.two ?ua9 ?ub9; (case ua9 => k_all); (case ub9 => k_updF)) | (refine' UpT2.tail ?ua9 ?ub9 ?uc9; (case ua9 => k_ne); (case ub9 => k_ne); (case uc9 => k_updF)) | fail "upd2"
  k_with "kaf_pre" => first | (refine' evI ?pe9 ?pN9 ?pm9 ?px9; (case pe9 => kaf_pre); (case pN9 => k_asm); (case pm9 => k_mem); (case px9 => rfl)) | (refine' evL ?pF9 ?pv9 ?pa9 ?pb9 ?pc9; (case pF9 => k_asm); (case pa9 => rfl); (case pb9 => rfl); (case pc9 => rfl); (case pv9 => rfl)) | (refine' evC ?pN9 ?pl9 ?pm9 ?pd9 ?pa9 ?pb9 ?pc9; (case pa9 => rfl); (case pb9 => rfl); (case pc9 => rfl); (case pN9 => k_asm); (case pl9 => rfl); (case pm9 => k_mem); (case pd9 => k_asm)) | (refine' evK ?pF9 ?pX9 ?pT9 ?pe9 ?pa9 ?pb9 ?pc9; (case pF9 => k_asm); (case pX9 => k_asm); (case pT9 => k_asm); (case pa9 => rfl); (case pb9 => rfl); (case pc9 => rfl); (case pe9 => k_is))
  k_with "kaf_suf" => first | exact evl0 | (refine' evlI ?sl9; (case sl9 => kaf_suf)) | (refine' evlS ?sl9; (case sl9 => kaf_suf)) | (refine' evlN ?se9 ?sl9 ?sn9; (case sn9 => rfl); (case se9 => kaf_pre); (case sl9 => kaf_suf)) | (refine' evlE ?se9 ?sl9 ?sn9; (case sn9 => rfl); (case se9 => kaf_pre); (case sl9 => kaf_suf))
  k_with "k_ne" => (refine neN ?_; (try dsimp only); first | with_reducible assumption | exact Ne.symm (by with_reducible assumption) | (refine Nat.ne_of_gt ((?_ : ChainTo _ _ _ _) (by with_reducible assumption)); intro hch; with_reducible (first | exact And.left hch | exact And.left (And.right hch) | exact And.left (And.right (And.right hch)) | exact And.left (And.right (And.right (And.right hch))) | exact And.left (And.right (And.right (And.right (And.right hch)))) | exact And.left (And.right (And.right (And.right (And.right (And.right hch))))) | exact And.left (And.right (And.right (And.right (And.right (And.right (And.right hch)))))) | exact And.left (And.right (And.right (And.right (And.right (And.right (And.right (And.right hch))))))) | exact And.left (And.right (And.right (And.right (And.right (And.right (And.right (And.right (And.right hch)))))))) | exact And.left (And.right (And.right (And.right (And.right (And.right (And.right (And.right (And.right (And.right hch))))))))) | exact And.left (And.right (And.right (And.right (And.right (And.right (And.right (And.right (And.right (And.right (And.right hch)))))))))) | exact And.left (And.right (And.right (And.right (And.right (And.right (And.right (And.right (And.right (And.right (And.right (And.right hch))))))))))) | exact And.left (And.right (And.right (And.right (And.right (And.right (And.right (And.right (And.right (And.right (And.right (And.right (And.right hch)))))))))))) | exact And.left (And.right (And.right (And.right (And.right (And.right (And.right (And.right (And.right (And.right (And.right (And.right (And.right (And.right hch))))))))))))))) | (refine Nat.ne_of_lt ((?_ : ChainTo _ _ _ _) (by with_reducible assumption)); intro hch; with_reducible (first | exact And.left hch | exact And.left (And.right hch) | exact And.left (And.right (And.right hch)) | exact And.left (And.right (And.right (And.right hch))) | exact And.left (And.right (And.right (And.right (And.right hch)))) | exact And.left (And.right (And.right (And.right (And.right (And.right hch))))) | exact And.left (And.right (And.right (And.right (And.right (And.right (And.right hch)))))) | exact And.left (And.right (And.right (And.right (And.right (And.right (And.right (And.right hch))))))) | exact And.left (And.right (And.right (And.right (And.right (And.right (And.right (And.right (And.right hch)))))))) | exact And.left (And.right (And.right (And.right (And.right (And.right (And.right (And.right (And.right (And.right hch))))))))) | exact And.left (And.right (And.right (And.right (And.right (And.right (And.right (And.right (And.right (And.right (And.right hch)))))))))) | exact And.left (And.right (And.right (And.right (And.right (And.right (And.right (And.right (And.right (And.right (And.right (And.right hch))))))))))) | exact And.left (And.right (And.right (And.right (And.right (And.right (And.right (And.right (And.right (And.right (And.right (And.right (And.right hch)))))))))))) | exact And.left (And.right (And.right (And.right (And.right (And.right (And.right (And.right (And.right (And.right (And.right (And.right (And.right (And.right hch))))))))))))))) | exact Nat.ne_of_gt (Nat.lt_succ_of_lt (And.left (by with_reducible assumption))) | exact Nat.ne_of_lt (Nat.lt_succ_of_lt (And.left (by with_reducible assumption))) | exact Nat.ne_of_gt (Nat.lt_succ_of_lt (And.left (And.right (by with_reducible assumption)))) | exact Nat.ne_of_lt (Nat.lt_succ_of_lt (And.left (And.right (by with_reducible assumption)))) | exact Nat.ne_of_gt (Nat.lt_succ_of_lt (And.left (And.right (And.right (by with_reducible assumption))))) | exact Nat.ne_of_lt (Nat.lt_succ_of_lt (And.left (And.right (And.right (by with_reducible assumption))))) | exact Nat.ne_of_gt (Nat.lt_succ_of_lt (Nat.lt_succ_of_lt (And.left (by with_reducible assumption)))) | exact Nat.ne_of_lt (Nat.lt_succ_of_lt (Nat.lt_succ_of_lt (And.left (by with_reducible assumption)))) | exact Nat.ne_of_gt (Nat.lt_succ_of_lt (Nat.lt_succ_of_lt (And.left (And.right (by with_reducible assumption))))) | exact Nat.ne_of_lt (Nat.lt_succ_of_lt (Nat.lt_succ_of_lt (And.left (And.right (by with_reducible assumption))))) | exact Nat.ne_of_gt (Nat.lt_succ_of_lt (Nat.lt_succ_of_lt (And.left (And.right (And.right (by with_reducible assumption)))))) | exact Nat.ne_of_lt (Nat.lt_succ_of_lt (Nat.lt_succ_of_lt (And.left (And.right (And.right (by with_reducible assumption)))))) | exact Nat.ne_of_gt (Nat.lt_succ_of_lt (Nat.lt_succ_of_lt (Nat.lt_succ_of_lt (And.left (by with_reducible assumption))))) | exact Nat.ne_of_lt (Nat.lt_succ_of_lt (Nat.lt_succ_of_lt (Nat.lt_succ_of_lt (And.left (by with_reducible assumption))))) | exact Nat.ne_of_gt (Nat.lt_succ_of_lt (Nat.lt_succ_of_lt (Nat.lt_succ_of_lt (And.left (And.right (by with_reducible assumption)))))) | exact Nat.ne_of_lt (Nat.lt_succ_of_lt (Nat.lt_succ_of_lt (Nat.lt_succ_of_lt (And.left (And.right (by with_reducible assumption)))))) | exact Nat.ne_of_gt (Nat.lt_succ_of_lt (Nat.lt_succ_of_lt (Nat.lt_succ_of_lt (And.left (And.right (And.right (by with_reducible assumption))))))) | exact Nat.ne_of_lt (Nat.lt_succ_of_lt (Nat.lt_succ_of_lt (Nat.lt_succ_of_lt (And.left (And.right (And.right (by with_reducible assumption))))))) | exact Nat.ne_of_gt (Nat.lt_succ_self _) | exact Nat.ne_of_lt (Nat.lt_succ_self _) | exact Nat.ne_of_gt (Nat.lt_succ_of_lt (Nat.lt_succ_self _)) | exact Nat.ne_of_lt (Nat.lt_succ_of_lt (Nat.lt_succ_self _)) | exact ((And.left (And.left (by with_reducible assumption))) : @Ne Nat _ _) | exact Ne.symm ((And.left (And.left (by with_reducible assumption))) : @Ne Nat _ _) | exact ((And.left (And.right (And.left (by with_reducible assumption)))) : @Ne Nat _ _) | exact Ne.symm ((And.left (And.right (And.left (by with_reducible assumption)))) : @Ne Nat _ _) | exact ((And.right (And.right (And.left (by with_reducible assumption)))) : @Ne Nat _ _) | exact Ne.symm ((And.right (And.right (And.left (by with_reducible assumption)))) : @Ne Nat _ _) | exact ((And.left (And.left (And.right (by with_reducible assumption)))) : @Ne Nat _ _) | exact Ne.symm ((And.left (And.left (And.right (by with_reducible assumption)))) : @Ne Nat _ _) | exact ((And.left (And.right (And.left (And.right (by with_reducible assumption))))) : @Ne Nat _ _) | exact Ne.symm ((And.left (And.right (And.left (And.right (by with_reducible assumption))))) : @Ne Nat _ _) | exact ((And.right (And.right (And.left (And.right (by with_reducible assumption))))) : @Ne Nat _ _) | exact Ne.symm ((And.right (And.right (And.left (And.right (by with_reducible assumption))))) : @Ne Nat _ _) | exact ((And.left (And.left (And.right (And.right (by with_reducible assumption))))) : @Ne Nat _ _) | exact Ne.symm ((And.left (And.left (And.right (And.right (by with_reducible assumption))))) : @Ne Nat _ _) | exact ((And.left (And.right (And.left (And.right (And.right (by with_reducible assumption)))))) : @Ne Nat _ _) | exact Ne.symm ((And.left (And.right (And.left (And.right (And.right (by with_reducible assumption)))))) : @Ne Nat _ _) | exact ((And.right (And.right (And.left (And.right (And.right (by with_reducible assumption)))))) : @Ne Nat _ _) | exact Ne.symm ((And.right (And.right (And.left (And.right (And.right (by with_reducible assumption)))))) : @Ne Nat _ _) | exact ((And.left (And.left (And.right (And.right (And.right (by with_reducible assumption)))))) : @Ne Nat _ _) | exact Ne.symm ((And.left (And.left (And.right (And.right (And.right (by with_reducible assumption)))))) : @Ne Nat _ _) | exact ((And.left (And.right (And.left (And.right (And.right (And.right (by with_reducible assumption))))))) : @Ne Nat _ _) | exact Ne.symm ((And.left (And.right (And.left (And.right (And.right (And.right (by with_reducible assumption))))))) : @Ne Nat _ _) | exact ((And.right (And.right (And.left (And.right (And.right (And.right (by with_reducible assumption))))))) : @Ne Nat _ _) | exact Ne.symm ((And.right (And.right (And.left (And.right (And.right (And.right (by with_reducible assumption))))))) : @Ne Nat _ _) | exact ((And.left (And.left (And.right (And.right (And.right (And.right (by with_reducible assumption))))))) : @Ne Nat _ _) | exact Ne.symm ((And.left (And.left (And.right (And.right (And.right (And.right (by with_reducible assumption))))))) : @Ne Nat _ _) | exact ((And.left (And.right (And.left (And.right (And.right (And.right (And.right (by with_reducible assumption)))))))) : @Ne Nat _ _) | exact Ne.symm ((And.left (And.right (And.left (And.right (And.right (And.right (And.right (by with_reducible assumption)))))))) : @Ne Nat _ _) | exact ((And.right (And.right (And.left (And.right (And.right (And.right (And.right (by with_reducible assumption)))))))) : @Ne Nat _ _) | exact Ne.symm ((And.right (And.right (And.left (And.right (And.right (And.right (And.right (by with_reducible assumption)))))))) : @Ne Nat _ _) | exact ((And.left (And.left (And.right (And.right (And.right (And.right (And.right (by with_reducible assumption)))))))) : @Ne Nat _ _) | exact Ne.symm ((And.left (And.left (And.right (And.right (And.right (And.right (And.right (by with_reducible assumption)))))))) : @Ne Nat _ _) | exact ((And.left (And.right (And.left (And.right (And.right (And.right (And.right (And.right (by with_reducible assumption))))))))) : @Ne Nat _ _) | exact Ne.symm ((And.left (And.right (And.left (And.right (And.right (And.right (And.right (And.right (by with_reducible assumption))))))))) : @Ne Nat _ _) | exact ((And.right (And.right (And.left (And.right (And.right (And.right (And.right (And.right (by with_reducible assumption))))))))) : @Ne Nat _ _) | exact Ne.symm ((And.right (And.right (And.left (And.right (And.right (And.right (And.right (And.right (by with_reducible assumption))))))))) : @Ne Nat _ _) | exact ((And.left (And.left (And.right (And.right (And.right (And.right (And.right (And.right (by with_reducible assumption))))))))) : @Ne Nat _ _) | exact Ne.symm ((And.left (And.left (And.right (And.right (And.right (And.right (And.right (And.right (by with_reducible assumption))))))))) : @Ne Nat _ _) | exact ((And.left (And.right (And.left (And.right (And.right (And.right (And.right (And.right (And.right (by with_reducible assumption)))))))))) : @Ne Nat _ _) | exact Ne.symm ((And.left (And.right (And.left (And.right (And.right (And.right (And.right (And.right (And.right (by with_reducible assumption)))))))))) : @Ne Nat _ _) | exact ((And.right (And.right (And.left (And.right (And.right (And.right (And.right (And.right (And.right (by with_reducible assumption)))))))))) : @Ne Nat _ _) | exact Ne.symm ((And.right (And.right (And.left (And.right (And.right (And.right (And.right (And.right (And.right (by with_reducible assumption)))))))))) : @Ne Nat _ _) | omega)
  k_with "ktr_room" => ((try simp only [depth_under_make, depth_under_kw, depth_in1, depth_deeper, depth_caller]); (try dsimp only [ktrTop]); first | exact Nat.lt_of_le_of_lt (Nat.le_add_right _ _) (by with_reducible assumption) | exact roomStep (by with_reducible assumption) (by first | exact Nat.le_refl _ | decide | exact r2 _ | omega) | fail "room")
  k_with "ktr_units" => ((try simp only [units_in1, units_deeper, Around.mark_units, units_caller]); (try dsimp only [ktrTop]); first | exact unitStep (by with_reducible assumption) (by first | exact Nat.le_refl _ | decide | exact u20 _ | exact u40 _ | omega) | fail "units")
  k_with "k_mem" => first | exact tail_mem (by assumption) (by k_mem) | fail "k_mem"
  k_with "k_mem" => assumption
  k_with "k_mem" => first | exact List.mem_cons_of_mem _ (by assumption) | fail "k_mem"
  k_with "size_fits" => (simp only [List.size_toArray, Array.size_push, List.length_append, List.length_cons, List.length_nil, PySem.sizeLine_eq] <;> omega)
  k_with "exec If" => (k_here; k_fold)
  k_with "exec Assign" => (k_here; k_fold)
  k_with "exec Expr" => (k_here; k_fold)
  k_with "exec Return some" => (k_here; k_fold)
  k_with "execs cons" => (k_here; first | k_fold | ((with_reducible refine execsG ?_); intro t9; (try dsimp only)))
  k_with "execs nil" => (k_here; (with_reducible refine wpAny_execs_nil ?_); (try dsimp only))
  k_with "call builtin:len" => (k_here; (with_reducible show wpAny _ _ (call (Value.builtin _) [Value.ref _]) _ _ _); k_dflt (first | (refine' lenLit (k := 2) ?N ?m ?e ?z ?_; (case N => k_asm); (case m => k_mem); (case e => rfl); (case z => decide)) | (refine' lenLit (k := 3) ?N ?m ?e ?z ?_; (case N => k_asm); (case m => k_mem); (case e => rfl); (case z => decide))); intro t t')
  k_with "ite" => (k_here; first | (refine ite_pos (by first | omega | (simp only [beq_iff_eq, bne_iff_ne, decide_eq_true_eq]; omega)) ?_) | (refine ite_neg (by first | omega | (simp only [beq_iff_eq, bne_iff_ne, decide_eq_true_eq]; omega)) ?_))
  k_with "exec For Tuple Subscript cons nil" => k_extra "exec For Tuple"
  k_with "subscriptTail" => (k_here; (with_reducible show wpAny _ _ (subscriptTail _ _ (Value.ref _) (Value.int _ _)) _ _ _); (with_unfolding_all refine' litItem ?N ?m ?a ?b ?c ?_ ?d; (case N => k_asm); (case m => k_mem); (case a => decide); (case b => decide); (case c => rfl); (case d => with_unfolding_all rfl); k_whole))
  k_with "call builtin:list.index" => (k_here; (with_reducible show wpAny _ _ (call (Value.builtin _) [Value.ref _, Value.str _ _]) _ _ _); k_dflt (refine' kindIndex ?k0 ?N ?m ?_; (case k0 => with_reducible assumption); (case N => k_asm); (case m => k_mem)); dsimp only [Wh.ixI])
  k_with "exec If" => (k_here; k_dflt (first | ((with_reducible refine' ifT ?xe9 ?xb9 ?_); (case xe9 => kaf_pre); (case xb9 => decide); k_whole) | ((with_reducible refine' ifF ?xe9 ?xb9 ?_); (case xe9 => kaf_pre); (case xb9 => decide); k_whole)))
  k_with "isTrue Compare" => (k_here; k_dflt (first | ((with_reducible refine' isT ?xe9 ?xb9 ?_); (case xe9 => kaf_pre); (case xb9 => decide); k_whole) | ((with_reducible refine' isF ?xe9 ?xb9 ?_); (case xe9 => kaf_pre); (case xb9 => decide); k_whole) | ((with_reducible refine' isI ?xe9 ?_); (case xe9 => kaf_pre); k_whole) | ((with_reducible refine' isIl ?xe9 ?_); (case xe9 => kaf_pre); k_whole) | ((with_reducible refine' isIg ?xe9 ?_); (case xe9 => kaf_pre); k_whole)))
  k_with "eval Subscript" => (k_here; k_dflt ((with_reducible refine' Ev.go ?xe9 ?_); (case xe9 => kaf_pre); k_whole))
  k_with "spliced" => (k_here; k_dflt ((with_reducible refine' EvL.go ?xe9 ?_); (case xe9 => kaf_suf); k_whole); (try dsimp only [List.nil_append, List.cons_append]))
  k_with "eval Call" => (k_here; (with_reducible show wpAny _ _ (eval (Expr.Call (Expr.Name _ _) (_ :: _) [] _) _) _ _ _); k_dflt (refine' evCall ?xF9 ?xX9 ?xT9 ?xe9 ?xk9 ?xl9 ?_ ?xs9 ?xa9 ?xb9 ?xc9; (case xF9 => k_asm); (case xX9 => k_asm); (case xT9 => k_asm); (case xa9 => rfl); (case xb9 => rfl); (case xc9 => rfl); (case xe9 => k_is); (case xk9 => k_is); (case xl9 => kaf_suf); (case xs9 => rfl); k_whole))
  k_with "call ref" => (k_here; (with_reducible show wpAny _ _ (call (Value.ref 117) [_, _, _]) _ _ _); k_dflt (refine' labelUse ?kU ?ks ?kx ?kn ?kl ?k1 ?k2 ?k3 ?k4 ?k5 ?kK ?kd ?ku ?_; (case k1 => k_asm); (case k2 => k_asm); (case k3 => k_asm); (case k4 => k_asm); (case k5 => k_asm); (case kU => k_updF); (case ks => assumption); (case kx => first | assumption | exact TIn.mono (by assumption) (by assumption) | exact TIn.mono (by assumption) (fun p hp => tail_mem (by assumption) (tail_mem (by assumption) hp)) | exact TIn.mono (by assumption) (fun p hp => tail_mem (by assumption) (tail_mem (by assumption) (tail_mem (by assumption) hp)))); (case kn => exact hlc); (case kl => omega); (case kK => first | exact rfl | assumption); (case kd => ktr_room); (case ku => ktr_units)); intro t tn kl kc vs N R' h tk e9 F9 N9 hr9 hf9 hl9 hs9 hz9)
  k_with "exec For Tuple" => (k_here; (rename Fr _ _ _ _ => lF'); (with_unfolding_all refine' For_turns lF' ?_; k_whole))
  k_with "pyIter ref" => (k_here; (with_reducible show wpAny _ _ (pyIter (Value.ref _)) (fun it s₂ => TurnsAt _ _ _ _ _ _ _ _ _ it s₂) _ _); (rename Fr _ _ _ _ => lF'); (rename News _ _ _ _ => lN'); (first | (with_unfolding_all refine' iter_listTurns (vs := [_, _]) (by rfl) lF' lN' (by k_mem) (by rfl) (by rfl) ?_) | (with_unfolding_all refine' iter_listTurns (vs := [_]) (by rfl) lF' lN' (by k_mem) (by rfl) (by rfl) ?_)  | (with_unfolding_all refine' iter_listTurns (vs := []) (by rfl) lF' lN' (by k_mem) (by rfl) (by rfl) ?_)); clear lF'; intro i' l1; (try k_lt l1); dsimp only [List.map])
  k_with "UnrEnd" => ((rename Fr _ _ _ _ => kF); (rename News _ _ _ _ => kN); k_dflt (refine' unrSwap kF kN ?koff ?_; (case koff => k_all)))
  k_with "UnrEndW" => ((rename Fr _ _ _ _ => kF); (rename News _ _ _ _ => kN); k_dflt (first
    | (refine' unrW1 kF kN ?koff ⟨⟨?kmm, trivial⟩, ?_⟩; (case koff => k_all); (case kmm => k_mem))
    | (refine' unrW2 kF kN ?koff ⟨⟨?kmm, trivial⟩, ?_⟩; (case koff => k_all); (case kmm => k_mem))))
  k_with "eval ListComp" => (k_here; k_dflt (refine LCg.ListComp_U (F₀ := by k_asm) (by rfl) (by decide) (by rfl) (by decide) (by rfl) ?_))
  k_with "CompEnd" => ((rename Fr _ _ _ _ => kF); (rename News _ _ _ _ => kN); (rename _ ∧ _ ∧ _ ∧ _ ∧ _ ∧ _ ∧ LCg.Off3 _ _ _ _ => hoff); k_dflt (refine' LCg.CompEnd.intro kF kN (_ :: _ :: _ :: _ :: _ :: _ :: _) (fun p hp => hp) ⟨hoff.1, hoff.2.1, hoff.2.2.1, hoff.2.2.2.1, hoff.2.2.2.2.1, hoff.2.2.2.2.2.1, off3_tail (by assumption) (by assumption) (.head _) (.tail _ (.head _)) (.tail _ (.tail _ (.head _))) hoff.2.2.2.2.2.2⟩ ?kss ?_; (case kss => exact Or.inr ⟨_, by k_mem, rfl, _, rfl⟩)))
  refine TIn.tb2_elim (P := fun v => Ctr w mean mg mb 122 _ _ _ (v :: _) _) hx ?_
  clear hx
  intros
  unfold Ctr
  intro dp un gd cn cs a ccd cl outer A₀ base h₀ L m s Q E B F X N T hk hd hu hret
  refine wpAny_call ?_
  k_dflt (refine' code_defC ?k1 ?k2 ?k3 ?k4 ?k5 ?kA ?kF ?kK ?k6 ?k7 ?k8 ?k9 ?kB ?kD ?_ ?c2 ?c3 ?c4; (case kA => exact rfl); (case kF => exact rfl); (case kK => assumption); (case k1 => k_asm); (case k2 => k_asm); (case k3 => k_asm); (case k4 => k_asm); (case k5 => k_asm); (case k6 => k_is); (case k7 => k_is); (case k8 => ktr_room); (case k9 => exact BindsTo.of_eq rfl); (case kB => exact rfl); (case kD => decide +kernel); (case c2 => exact rfl); (case c3 => exact rfl); (case c4 => exact rfl); k_whole; intro g' L' h' tk' cells' FG' F' N' Y' B' X' T' l1; (try k_lt l1); k_cells Y'; (try simp only [List.cons_append, List.nil_append] at N'); (try dsimp only); (try k_lift B'); (try k_fold)); (refine letE ?_); intro e9; (refine letA ?_); intro A9; (rename Fr _ _ _ _ => F8); (refine letM F8 ?_); clear F8; intro m9 F9
  k_steps
  (rename News _ _ _ _ => kN)
  (simp only [List.push_toArray] at kN)
  refine' rowsEnd (top := [(_, tupO [.str (Str.ofString (sname false)) _, .ref _, .int _ _]), (_, tupO [.ref ?P1, .ref ?P2]), (?P1, tupO [.ref ?K1, .int _ _]), (?P2, tupO [.ref ?K2, .int _ _]), (?K1, tupO [.int 4 _, .int 3 _]), (?K2, tupO [.int 4 _, .int 5 _])]) hret ?kF kN ?kB ?kL ?kC ?kR ?k2 ?kM ?kI ?kS rfl
  case kF => assumption
  case kB => k_mem
  case kL => k_mem
  case kC => k_mem
  case kS => assumption
  case kR => (intro p hp; simp only [List.mem_cons, hp, or_true])
  case k2 => repeat' (first | exact List.forall_mem_nil _ | (refine List.forall_mem_cons.mpr ⟨⟨by k_mem, ⟨by k_ne, by k_ne, by k_ne⟩, by k_all⟩, ?_⟩))
  case kM => repeat' (first | exact Ext3.nil | (refine' Ext3.step ?_ ?y ?z ?u ?v1 ?v2 ?v3; (case y => assumption); (case z => assumption); (case u => assumption); (case v1 => k_mem); (case v2 => k_mem); (case v3 => k_mem)))
  case kI => exact bin1 hbs (fun p hp => List.mem_append_right _ (tail_mem (by assumption) (tail_mem (by assumption) (tail_mem (by assumption) hp)))) (.tb2 (.head _) (.tail _ (.head _)) (.tail _ (.tail _ (.head _))) (.con (.tail _ (.tail _ (.tail _ (.tail _ (.head _)))))) (.tail _ (.tail _ (.tail _ (.head _)))) (.con (.tail _ (.tail _ (.tail _ (.tail _ (.tail _ (.head _))))))))
set_option maxRecDepth 100000 in
set_option maxHeartbeats 8000000 in
theorem rows_tb0t (w : World) (mean : ExcName → Option Value) (mg mb : Str → Option Value) (bl la c : Addr) (n : Int) (tn : Tok) (bs : List Value) (is : List Ins) (vs : List Value) (ls : List (Int × T)) (kb kl kc : Nat) (tv : Value) (x1 : T) (R : Led)
    (hbs : BIn R bs is) (hls : LIn R vs ls) (hx : TIn R tv (.tb0 true x1)) (hbl : @Ne Nat bl la) (hbc : @Ne Nat bl c) (hlc : @Ne Nat la c) (h1 : ∀ p ∈ R, p.1 ≠ bl) (h2 : ∀ p ∈ R, p.1 ≠ la) (h3 : ∀ p ∈ R, p.1 ≠ c) (hb1 : bs.length ≤ 1000) (hl1 : vs.length ≤ 990) :
    Ctr w mean mg mb 122 4 40 ((bl, listOf bs.toArray kb) :: (la, listOf vs.toArray kl) :: (c, cnt1 n tn kc) :: R) [tv, .ref bl, .ref la, .ref c] (RowsPost bl la c n is ls (.tb0 true x1) R) := by
  k_with_none
  k_with "k_all" => first | with_reducible assumption | (refine' List.forall_mem_cons.mpr ⟨?qa9, ?qb9⟩; (case qa9 => k_ne); (case qb9 => k_all)) | exact allLt_ne (by with_reducible assumption) | exact off1_ne4 (by with_reducible assumption) | exact allLt_ne1 (by with_reducible assumption) | exact allLt_ne2 (by with_reducible assumption) | exact allLt_ne3 (by with_reducible assumption) | exact allLt_ne4 (by with_reducible assumption) | exact allLt_ne5 (by with_reducible assumption) | exact allLt_ne6 (by with_reducible assumption) | exact allLt_ne7 (by with_reducible assumption) | exact allLt_ne8 (by with_reducible assumption) | exact allLt_ne9 (by with_reducible assumption) | exact allLt_ne10 (by with_reducible assumption) | exact allLt_ne11 (by with_reducible assumption) | exact allLt_ne12 (by with_reducible assumption) | exact tail_ne (by with_reducible assumption) (fresh_ne (by with_reducible assumption) (by k_mem)) (by k_all) | fail "k_all"
  k_with "k_updF" => first | (refine' UpT.head ?ua9 ?ub9; (case ub9 => k_all); (case ua9 => k_updF)) | (refine' UpT.tail ?ua9 ?ub9; (case ua9 => k_ne); (case ub9 => k_updF)) | (refine' TailOf.cons ?ua9; (case ua9 => k_updF)) | exact TailOf.nil | fail "updT"
  k_with "k_updF" => first | (refine' UpT2.one ?ua9 ?ub9; (case ua9 => k_all); (case ub9 => k_updF)) | (refine' UpT2.two ?ua9 ?ub9; (case ua9 => k_all); (case ub9 => k_updF)) | (refine' UpT2.tail ?ua9 ?ub9 ?uc9; (case ua9 => k_ne); (case ub9 => k_ne); (case uc9 => k_updF)) | fail "upd2"
  k_with "kaf_pre" => first | (refine' evI ?pe9 ?pN9 ?pm9 ?px9; (case pe9 => kaf_pre); (case pN9 => k_asm); (case pm9 => k_mem); (case px9 => rfl)) | (refine' evL ?pF9 ?pv9 ?pa9 ?pb9 ?pc9; (case pF9 => k_asm); (case pa9 => rfl); (case pb9 => rfl); (case pc9 => rfl); (case pv9 => rfl)) | (refine' evC ?pN9 ?pl9 ?pm9 ?pd9 ?pa9 ?pb9 ?pc9; (case pa9 => rfl); (case pb9 => rfl); (case pc9 => rfl); (case pN9 => k_asm); (case pl9 => rfl); (case pm9 => k_mem); (case pd9 => k_asm)) | (refine' evK ?pF9 ?pX9 ?pT9 ?pe9 ?pa9 ?pb9 ?pc9; (case pF9 => k_asm); (case pX9 => k_asm); (case pT9 => k_asm); (case pa9 => rfl); (case pb9 => rfl); (case pc9 => rfl); (case pe9 => k_is))
  k_with "kaf_suf" => first | exact evl0 | (refine' evlI ?sl9; (case sl9 => kaf_suf)) | (refine' evlS ?sl9; (case sl9 => kaf_suf)) | (refine' evlN ?se9 ?sl9 ?sn9; (case sn9 => rfl); (case se9 => kaf_pre); (case sl9 => kaf_suf)) | (refine' evlE ?se9 ?sl9 ?sn9; (case sn9 => rfl); (case se9 => kaf_pre); (case sl9 => kaf_suf))
  k_with "k_ne" => (refine neN ?_; (try dsimp only); first | with_reducible assumption | exact Ne.symm (by with_reducible assumption) | (refine Nat.ne_of_gt ((?_ : ChainTo _ _ _ _) (by with_reducible assumption)); intro hch; with_reducible (first | exact And.left hch | exact And.left (And.right hch) | exact And.left (And.right (And.right hch)) | exact And.left (And.right (And.right (And.right hch))) | exact And.left (And.right (And.right (And.right (And.right hch)))) | exact And.left (And.right (And.right (And.right (And.right (And.right hch))))) | exact And.left (And.right (And.right (And.right (And.right (And.right (And.right hch)))))) | exact And.left (And.right (And.right (And.right (And.right (And.right (And.right (And.right hch))))))) | exact And.left (And.right (And.right (And.right (And.right (And.right (And.right (And.right (And.right hch)))))))) | exact And.left (And.right (And.right (And.right (And.right (And.right (And.right (And.right (And.right (And.right hch))))))))) | exact And.left (And.right (And.right (And.right (And.right (And.right (And.right (And.right (And.right (And.right (And.right hch)))))))))) | exact And.left (And.right (And.right (And.right (And.right (And.right (And.right (And.right (And.right (And.right (And.right (And.right hch))))))))))) | exact And.left (And.right (And.right (And.right (And.right (And.right (And.right (And.right (And.right (And.right (And.right (And.right (And.right hch)))))))))))) | exact And.left (And.right (And.right (And.right (And.right (And.right (And.right (And.right (And.right (And.right (And.right (And.right (And.right (And.right hch))))))))))))))) | (refine Nat.ne_of_lt ((?_ : ChainTo _ _ _ _) (by with_reducible assumption)); intro hch; with_reducible (first | exact And.left hch | exact And.left (And.right hch) | exact And.left (And.right (And.right hch)) | exact And.left (And.right (And.right (And.right hch))) | exact And.left (And.right (And.right (And.right (And.right hch)))) | exact And.left (And.right (And.right (And.right (And.right (And.right hch))))) | exact And.left (And.right (And.right (And.right (And.right (And.right (And.right hch)))))) | exact And.left (And.right (And.right (And.right (And.right (And.right (And.right (And.right hch))))))) | exact And.left (And.right (And.right (And.right (And.right (And.right (And.right (And.right (And.right hch)))))))) | exact And.left (And.right (And.right (And.right (And.right (And.right (And.right (And.right (And.right (And.right hch))))))))) | exact And.left (And.right (And.right (And.right (And.right (And.right (And.right (And.right (And.right (And.right (And.right hch)))))))))) | exact And.left (And.right (And.right (And.right (And.right (And.right (And.right (And.right (And.right (And.right (And.right (And.right hch))))))))))) | exact And.left (And.right (And.right (And.right (And.right (And.right (And.right (And.right (And.right (And.right (And.right (And.right (And.right hch)))))))))))) | exact And.left (And.right (And.right (And.right (And.right (And.right (And.right (And.right (And.right (And.right (And.right (And.right (And.right (And.right hch))))))))))))))) | exact Nat.ne_of_gt (Nat.lt_succ_of_lt (And.left (by with_reducible assumption))) | exact Nat.ne_of_lt (Nat.lt_succ_of_lt (And.left (by with_reducible assumption))) | exact Nat.ne_of_gt (Nat.lt_succ_of_lt (And.left (And.right (by with_reducible assumption)))) | exact Nat.ne_of_lt (Nat.lt_succ_of_lt (And.left (And.right (by with_reducible assumption)))) | exact Nat.ne_of_gt (Nat.lt_succ_of_lt (And.left (And.right (And.right (by with_reducible assumption))))) | exact Nat.ne_of_lt (Nat.lt_succ_of_lt (And.left (And.right (And.right (by with_reducible assumption))))) | exact Nat.ne_of_gt (Nat.lt_succ_of_lt (Nat.lt_succ_of_lt (And.left (by with_reducible assumption)))) | exact Nat.ne_of_lt (Nat.lt_succ_of_lt (Nat.lt_succ_of_lt (And.left (by with_reducible assumption)))) | exact Nat.ne_of_gt (Nat.lt_succ_of_lt (Nat.lt_succ_of_lt (And.left (And.right (by with_reducible assumption))))) | exact Nat.ne_of_lt (Nat.lt_succ_of_lt (Nat.lt_succ_of_lt (And.left (And.right (by with_reducible assumption))))) | exact Nat.ne_of_gt (Nat.lt_succ_of_lt (Nat.lt_succ_of_lt (And.left (And.right (And.right (by with_reducible assumption)))))) | exact Nat.ne_of_lt (Nat.lt_succ_of_lt (Nat.lt_succ_of_lt (And.left (And.right (And.right (by with_reducible assumption)))))) | exact Nat.ne_of_gt (Nat.lt_succ_of_lt (Nat.lt_succ_of_lt (Nat.lt_succ_of_lt (And.left (by with_reducible assumption))))) | exact Nat.ne_of_lt (Nat.lt_succ_of_lt (Nat.lt_succ_of_lt (Nat.lt_succ_of_lt (And.left (by with_reducible assumption))))) | exact Nat.ne_of_gt (Nat.lt_succ_of_lt (Nat.lt_succ_of_lt (Nat.lt_succ_of_lt (And.left (And.right (by with_reducible assumption)))))) | exact Nat.ne_of_lt (Nat.lt_succ_of_lt (Nat.lt_succ_of_lt (Nat.lt_succ_of_lt (And.left (And.right (by with_reducible assumption)))))) | exact Nat.ne_of_gt (Nat.lt_succ_of_lt (Nat.lt_succ_of_lt (Nat.lt_succ_of_lt (And.left (And.right (And.right (by with_reducible assumption))))))) | exact Nat.ne_of_lt (Nat.lt_succ_of_lt (Nat.lt_succ_of_lt (Nat.lt_succ_of_lt (And.left (And.right (And.right (by with_reducible assumption))))))) | exact Nat.ne_of_gt (Nat.lt_succ_self _) | exact Nat.ne_of_lt (Nat.lt_succ_self _) | exact Nat.ne_of_gt (Nat.lt_succ_of_lt (Nat.lt_succ_self _)) | exact Nat.ne_of_lt (Nat.lt_succ_of_lt (Nat.lt_succ_self _)) | exact ((And.left (And.left (by with_reducible assumption))) : @Ne Nat _ _) | exact Ne.symm ((And.left (And.left (by with_reducible assumption))) : @Ne Nat _ _) | exact ((And.left (And.right (And.left (by with_reducible assumption)))) : @Ne Nat _ _) | exact Ne.symm ((And.left (And.right (And.left (by with_reducible assumption)))) : @Ne Nat _ _) | exact ((And.right (And.right (And.left (by with_reducible assumption)))) : @Ne Nat _ _) | exact Ne.symm ((And.right (And.right (And.left (by with_reducible assumption)))) : @Ne Nat _ _) | exact ((And.left (And.left (And.right (by with_reducible assumption)))) : @Ne Nat _ _) | exact Ne.symm ((And.left (And.left (And.right (by with_reducible assumption)))) : @Ne Nat _ _) | exact ((And.left (And.right (And.left (And.right (by with_reducible assumption))))) : @Ne Nat _ _) | exact Ne.symm ((And.left (And.right (And.left (And.right (by with_reducible assumption))))) : @Ne Nat _ _) | exact ((And.right (And.right (And.left (And.right (by with_reducible assumption))))) : @Ne Nat _ _) | exact Ne.symm ((And.right (And.right (And.left (And.right (by with_reducible assumption))))) : @Ne Nat _ _) | exact ((And.left (And.left (And.right (And.right (by with_reducible assumption))))) : @Ne Nat _ _) | exact Ne.symm ((And.left (And.left (And.right (And.right (by with_reducible assumption))))) : @Ne Nat _ _) | exact ((And.left (And.right (And.left (And.right (And.right (by with_reducible assumption)))))) : @Ne Nat _ _) | exact Ne.symm ((And.left (And.right (And.left (And.right (And.right (by with_reducible assumption)))))) : @Ne Nat _ _) | exact ((And.right (And.right (And.left (And.right (And.right (by with_reducible assumption)))))) : @Ne Nat _ _) | exact Ne.symm ((And.right (And.right (And.left (And.right (And.right (by with_reducible assumption)))))) : @Ne Nat _ _) | exact ((And.left (And.left (And.right (And.right (And.right (by with_reducible assumption)))))) : @Ne Nat _ _) | exact Ne.symm ((And.left (And.left (And.right (And.right (And.right (by with_reducible assumption)))))) : @Ne Nat _ _) | exact ((And.left (And.right (And.left (And.right (And.right (And.right (by with_reducible assumption))))))) : @Ne Nat _ _) | exact Ne.symm ((And.left (And.right (And.left (And.right (And.right (And.right (by with_reducible assumption))))))) : @Ne Nat _ _) | exact ((And.right (And.right (And.left (And.right (And.right (And.right (by with_reducible assumption))))))) : @Ne Nat _ _) | exact Ne.symm ((And.right (And.right (And.left (And.right (And.right (And.right (by with_reducible assumption))))))) : @Ne Nat _ _) | exact ((And.left (And.left (And.right (And.right (And.right (And.right (by with_reducible assumption))))))) : @Ne Nat _ _) | exact Ne.symm ((And.left (And.left (And.right (And.right (And.right (And.right (by with_reducible assumption))))))) : @Ne Nat _ _) | exact ((And.left (And.right (And.left (And.right (And.right (And.right (And.right (by with_reducible assumption)))))))) : @Ne Nat _ _) | exact Ne.symm ((And.left (And.right (And.left (And.right (And.right (And.right (And.right (by with_reducible assumption)))))))) : @Ne Nat _ _) | exact ((And.right (And.right (And.left (And.right (And.right (And.right (And.right (by with_reducible assumption)))))))) : @Ne Nat _ _) | exact Ne.symm ((And.right (And.right (And.left (And.right (And.right (And.right (And.right (by with_reducible assumption)))))))) : @Ne Nat _ _) | exact ((And.left (And.left (And.right (And.right (And.right (And.right (And.right (by with_reducible assumption)))))))) : @Ne Nat _ _) | exact Ne.symm ((And.left (And.left (And.right (And.right (And.right (And.right (And.right (by with_reducible assumption)))))))) : @Ne Nat _ _) | exact ((And.left (And.right (And.left (And.right (And.right (And.right (And.right (And.right (by with_reducible assumption))))))))) : @Ne Nat _ _) | exact Ne.symm ((And.left (And.right (And.left (And.right (And.right (And.right (And.right (And.right (by with_reducible assumption))))))))) : @Ne Nat _ _) | exact ((And.right (And.right (And.left (And.right (And.right (And.right (And.right (And.right (by with_reducible assumption))))))))) : @Ne Nat _ _) | exact Ne.symm ((And.right (And.right (And.left (And.right (And.right (And.right (And.right (And.right (by with_reducible assumption))))))))) : @Ne Nat _ _) | exact ((And.left (And.left (And.right (And.right (And.right (And.right (And.right (And.right (by with_reducible assumption))))))))) : @Ne Nat _ _) | exact Ne.symm ((And.left (And.left (And.right (And.right (And.right (And.right (And.right (And.right (by with_reducible assumption))))))))) : @Ne Nat _ _) | exact ((And.left (And.right (And.left (And.right (And.right (And.right (And.right (And.right (And.right (by with_reducible assumption)))))))))) : @Ne Nat _ _) | exact Ne.symm ((And.left (And.right (And.left (And.right (And.right (And.right (And.right (And.right (And.right (by with_reducible assumption)))))))))) : @Ne Nat _ _) | exact ((And.right (And.right (And.left (And.right (And.right (And.right (And.right (And.right (And.right (by with_reducible assumption)))))))))) : @Ne Nat _ _) | exact Ne.symm ((And.right (And.right (And.left (And.right (And.right (And.right (And.right (And.right (And.right (by with_reducible assumption)))))))))) : @Ne Nat _ _) | omega)
  k_with "ktr_room" => ((try simp only [depth_under_make, depth_under_kw, depth_in1, depth_deeper, depth_caller]); (try dsimp only [ktrTop]); first | exact Nat.lt_of_le_of_lt (Nat.le_add_right _ _) (by with_reducible assumption) | exact roomStep (by with_reducible assumption) (by first | exact Nat.le_refl _ | decide | exact r2 _ | omega) | fail "room")
  k_with "ktr_units" => ((try simp only [units_in1, units_deeper, Around.mark_units, units_caller]); (try dsimp only [ktrTop]); first | exact unitStep (by with_reducible assumption) (by first | exact Nat.le_refl _ | decide | exact u20 _ | exact u40 _ | omega) | fail "units")
  k_with "k_mem" => first | exact tail_mem (by assumption) (by k_mem) | fail "k_mem"
  k_with "k_mem" => assumption
  k_with "k_mem" => first | exact List.mem_cons_of_mem _ (by assumption) | fail "k_mem"
  k_with "size_fits" => (simp only [List.size_toArray, Array.size_push, List.length_append, List.length_cons, List.length_nil, PySem.sizeLine_eq] <;> omega)
  k_with "exec If" => (k_here; k_fold)
  k_with "exec Assign" => (k_here; k_fold)
  k_with "exec Expr" => (k_here; k_fold)
  k_with "exec Return some" => (k_here; k_fold)
  k_with "execs cons" => (k_here; first | k_fold | ((with_reducible refine execsG ?_); intro t9; (try dsimp only)))
  k_with "execs nil" => (k_here; (with_reducible refine wpAny_execs_nil ?_); (try dsimp only))
  k_with "call builtin:len" => (k_here; (with_reducible show wpAny _ _ (call (Value.builtin _) [Value.ref _]) _ _ _); k_dflt (first | (refine' lenLit (k := 2) ?N ?m ?e ?z ?_; (case N => k_asm); (case m => k_mem); (case e => rfl); (case z => decide)) | (refine' lenLit (k := 3) ?N ?m ?e ?z ?_; (case N => k_asm); (case m => k_mem); (case e => rfl); (case z => decide))); intro t t')
  k_with "ite" => (k_here; first | (refine ite_pos (by first | omega | (simp only [beq_iff_eq, bne_iff_ne, decide_eq_true_eq]; omega)) ?_) | (refine ite_neg (by first | omega | (simp only [beq_iff_eq, bne_iff_ne, decide_eq_true_eq]; omega)) ?_))
  k_with "exec For Tuple Subscript cons nil" => k_extra "exec For Tuple"
  k_with "subscriptTail" => (k_here; (with_reducible show wpAny _ _ (subscriptTail _ _ (Value.ref _) (Value.int _ _)) _ _ _); (with_unfolding_all refine' litItem ?N ?m ?a ?b ?c ?_ ?d; (case N => k_asm); (case m => k_mem); (case a => decide); (case b => decide); (case c => rfl); (case d => with_unfolding_all rfl); k_whole))
  k_with "call builtin:list.index" => (k_here; (with_reducible show wpAny _ _ (call (Value.builtin _) [Value.ref _, Value.str _ _]) _ _ _); k_dflt (refine' kindIndex ?k0 ?N ?m ?_; (case k0 => with_reducible assumption); (case N => k_asm); (case m => k_mem)); dsimp only [Wh.ixI])
  k_with "exec If" => (k_here; k_dflt (first | ((with_reducible refine' ifT ?xe9 ?xb9 ?_); (case xe9 => kaf_pre); (case xb9 => decide); k_whole) | ((with_reducible refine' ifF ?xe9 ?xb9 ?_); (case xe9 => kaf_pre); (case xb9 => decide); k_whole)))
  k_with "isTrue Compare" => (k_here; k_dflt (first | ((with_reducible refine' isT ?xe9 ?xb9 ?_); (case xe9 => kaf_pre); (case xb9 => decide); k_whole) | ((with_reducible refine' isF ?xe9 ?xb9 ?_); (case xe9 => kaf_pre); (case xb9 => decide); k_whole) | ((with_reducible refine' isI ?xe9 ?_); (case xe9 => kaf_pre); k_whole) | ((with_reducible refine' isIl ?xe9 ?_); (case xe9 => kaf_pre); k_whole) | ((with_reducible refine' isIg ?xe9 ?_); (case xe9 => kaf_pre); k_whole)))
  k_with "eval Subscript" => (k_here; k_dflt ((with_reducible refine' Ev.go ?xe9 ?_); (case xe9 => kaf_pre); k_whole))
  k_with "spliced" => (k_here; k_dflt ((with_reducible refine' EvL.go ?xe9 ?_); (case xe9 => kaf_suf); k_whole); (try dsimp only [List.nil_append, List.cons_append]))
  k_with "eval Call" => (k_here; (with_reducible show wpAny _ _ (eval (Expr.Call (Expr.Name _ _) (_ :: _) [] _) _) _ _ _); k_dflt (refine' evCall ?xF9 ?xX9 ?xT9 ?xe9 ?xk9 ?xl9 ?_ ?xs9 ?xa9 ?xb9 ?xc9; (case xF9 => k_asm); (case xX9 => k_asm); (case xT9 => k_asm); (case xa9 => rfl); (case xb9 => rfl); (case xc9 => rfl); (case xe9 => k_is); (case xk9 => k_is); (case xl9 => kaf_suf); (case xs9 => rfl); k_whole))
  k_with "call ref" => (k_here; (with_reducible show wpAny _ _ (call (Value.ref 117) [_, _, _]) _ _ _); k_dflt (refine' labelUse ?kU ?ks ?kx ?kn ?kl ?k1 ?k2 ?k3 ?k4 ?k5 ?kK ?kd ?ku ?_; (case k1 => k_asm); (case k2 => k_asm); (case k3 => k_asm); (case k4 => k_asm); (case k5 => k_asm); (case kU => k_updF); (case ks => assumption); (case kx => first | assumption | exact TIn.mono (by assumption) (by assumption) | exact TIn.mono (by assumption) (fun p hp => tail_mem (by assumption) (tail_mem (by assumption) hp)) | exact TIn.mono (by assumption) (fun p hp => tail_mem (by assumption) (tail_mem (by assumption) (tail_mem (by assumption) hp)))); (case kn => exact hlc); (case kl => omega); (case kK => first | exact rfl | assumption); (case kd => ktr_room); (case ku => ktr_units)); intro t tn kl kc vs N R' h tk e9 F9 N9 hr9 hf9 hl9 hs9 hz9)
  k_with "exec For Tuple" => (k_here; (rename Fr _ _ _ _ => lF'); (with_unfolding_all refine' For_turns lF' ?_; k_whole))
  k_with "pyIter ref" => (k_here; (with_reducible show wpAny _ _ (pyIter (Value.ref _)) (fun it s₂ => TurnsAt _ _ _ _ _ _ _ _ _ it s₂) _ _); (rename Fr _ _ _ _ => lF'); (rename News _ _ _ _ => lN'); (first | (with_unfolding_all refine' iter_listTurns (vs := [_, _]) (by rfl) lF' lN' (by k_mem) (by rfl) (by rfl) ?_) | (with_unfolding_all refine' iter_listTurns (vs := [_]) (by rfl) lF' lN' (by k_mem) (by rfl) (by rfl) ?_)  | (with_unfolding_all refine' iter_listTurns (vs := []) (by rfl) lF' lN' (by k_mem) (by rfl) (by rfl) ?_)); clear lF'; intro i' l1; (try k_lt l1); dsimp only [List.map])
  k_with "UnrEnd" => ((rename Fr _ _ _ _ => kF); (rename News _ _ _ _ => kN); k_dflt (refine' unrSwap kF kN ?koff ?_; (case koff => k_all)))
  k_with "UnrEndW" => ((rename Fr _ _ _ _ => kF); (rename News _ _ _ _ => kN); k_dflt (first
    | (refine' unrW1 kF kN ?koff ⟨⟨?kmm, trivial⟩, ?_⟩; (case koff => k_all); (case kmm => k_mem))
    | (refine' unrW2 kF kN ?koff ⟨⟨?kmm, trivial⟩, ?_⟩; (case koff => k_all); (case kmm => k_mem))))
  k_with "eval ListComp" => (k_here; k_dflt (refine LCg.ListComp_U (F₀ := by k_asm) (by rfl) (by decide) (by rfl) (by decide) (by rfl) ?_))
  k_with "CompEnd" => ((rename Fr _ _ _ _ => kF); (rename News _ _ _ _ => kN); (rename _ ∧ _ ∧ _ ∧ _ ∧ _ ∧ _ ∧ LCg.Off3 _ _ _ _ => hoff); k_dflt (refine' LCg.CompEnd.intro kF kN (_ :: _ :: _ :: _ :: _ :: _ :: _) (fun p hp => hp) ⟨hoff.1, hoff.2.1, hoff.2.2.1, hoff.2.2.2.1, hoff.2.2.2.2.1, hoff.2.2.2.2.2.1, off3_tail (by assumption) (by assumption) (.head _) (.tail _ (.head _)) (.tail _ (.tail _ (.head _))) hoff.2.2.2.2.2.2⟩ ?kss ?_; (case kss => exact Or.inr ⟨_, by k_mem, rfl, _, rfl⟩)))
  refine TIn.tb0_elim (P := fun v => Ctr w mean mg mb 122 _ _ _ (v :: _) _) hx ?_
  clear hx
  intros
  unfold Ctr
  intro dp un gd cn cs a ccd cl outer A₀ base h₀ L m s Q E B F X N T hk hd hu hret
  refine wpAny_call ?_
  k_dflt (refine' code_defC ?k1 ?k2 ?k3 ?k4 ?k5 ?kA ?kF ?kK ?k6 ?k7 ?k8 ?k9 ?kB ?kD ?_ ?c2 ?c3 ?c4; (case kA => exact rfl); (case kF => exact rfl); (case kK => assumption); (case k1 => k_asm); (case k2 => k_asm); (case k3 => k_asm); (case k4 => k_asm); (case k5 => k_asm); (case k6 => k_is); (case k7 => k_is); (case k8 => ktr_room); (case k9 => exact BindsTo.of_eq rfl); (case kB => exact rfl); (case kD => decide +kernel); (case c2 => exact rfl); (case c3 => exact rfl); (case c4 => exact rfl); k_whole; intro g' L' h' tk' cells' FG' F' N' Y' B' X' T' l1; (try k_lt l1); k_cells Y'; (try simp only [List.cons_append, List.nil_append] at N'); (try dsimp only); (try k_lift B'); (try k_fold)); (refine letE ?_); intro e9; (refine letA ?_); intro A9; (rename Fr _ _ _ _ => F8); (refine letM F8 ?_); clear F8; intro m9 F9
  k_steps
  (rename News _ _ _ _ => kN)
  (simp only [List.push_toArray] at kN)
  refine' rowsEnd (top := [(_, tupO [.str (Str.ofString (sname true)) _, .ref _, .int _ _]), (_, tupO [])]) hret ?kF kN ?kB ?kL ?kC ?kR ?k2 ?kM ?kI ?kS rfl
  case kF => assumption
  case kB => k_mem
  case kL => k_mem
  case kC => k_mem
  case kS => assumption
  case kR => (intro p hp; simp only [List.mem_cons, hp, or_true])
  case k2 => repeat' (first | exact List.forall_mem_nil _ | (refine List.forall_mem_cons.mpr ⟨⟨by k_mem, ⟨by k_ne, by k_ne, by k_ne⟩, by k_all⟩, ?_⟩))
  case kM => repeat' (first | exact Ext3.nil | (refine' Ext3.step ?_ ?y ?z ?u ?v1 ?v2 ?v3; (case y => assumption); (case z => assumption); (case u => assumption); (case v1 => k_mem); (case v2 => k_mem); (case v3 => k_mem)))
  case kI => exact bin1 hbs (fun p hp => List.mem_append_right _ (tail_mem (by assumption) hp)) (.tb0 (.head _) (.tail _ (.head _)))
set_option maxRecDepth 100000 in
set_option maxHeartbeats 8000000 in
theorem rows_tb1t (w : World) (mean : ExcName → Option Value) (mg mb : Str → Option Value) (bl la c : Addr) (n : Int) (tn : Tok) (bs : List Value) (is : List Ins) (vs : List Value) (ls : List (Int × T)) (kb kl kc : Nat) (tv : Value) (x1 x2 : T) (R : Led)
    (hbs : BIn R bs is) (hls : LIn R vs ls) (hx : TIn R tv (.tb1 true x1 x2)) (hbl : @Ne Nat bl la) (hbc : @Ne Nat bl c) (hlc : @Ne Nat la c) (h1 : ∀ p ∈ R, p.1 ≠ bl) (h2 : ∀ p ∈ R, p.1 ≠ la) (h3 : ∀ p ∈ R, p.1 ≠ c) (hb1 : bs.length ≤ 1000) (hl1 : vs.length ≤ 990) :
    Ctr w mean mg mb 122 4 40 ((bl, listOf bs.toArray kb) :: (la, listOf vs.toArray kl) :: (c, cnt1 n tn kc) :: R) [tv, .ref bl, .ref la, .ref c] (RowsPost bl la c n is ls (.tb1 true x1 x2) R) := by
  k_with_none
  k_with "k_all" => first | with_reducible assumption | (refine' List.forall_mem_cons.mpr ⟨?qa9, ?qb9⟩; (case qa9 => k_ne); (case qb9 => k_all)) | exact allLt_ne (by with_reducible assumption) | exact off1_ne4 (by with_reducible assumption) | exact allLt_ne1 (by with_reducible assumption) | exact allLt_ne2 (by with_reducible assumption) | exact allLt_ne3 (by with_reducible assumption) | exact allLt_ne4 (by with_reducible assumption) | exact allLt_ne5 (by with_reducible assumption) | exact allLt_ne6 (by with_reducible assumption) | exact allLt_ne7 (by with_reducible assumption) | exact allLt_ne8 (by with_reducible assumption) | exact allLt_ne9 (by with_reducible assumption) | exact allLt_ne10 (by with_reducible assumption) | exact allLt_ne11 (by with_reducible assumption) | exact allLt_ne12 (by with_reducible assumption) | exact tail_ne (by with_reducible assumption) (fresh_ne (by with_reducible assumption) (by k_mem)) (by k_all) | fail "k_all"
  k_with "k_updF" => first | (refine' UpT.head ?ua9 ?ub9; (case ub9 => k_all); (case ua9 => k_updF)) | (refine' UpT.tail ?ua9 ?ub9; (case ua9 => k_ne); (case ub9 => k_updF)) | (refine' TailOf.cons ?ua9; (case ua9 => k_updF)) | exact TailOf.nil | fail "updT"
  k_with "k_updF" => first | (refine' UpT2.one ?ua9 ?ub9; (case ua9 => k_all); (case ub9 => k_updF)) | (refine' UpT2.two ?ua9 ?ub9; (case ua9 => k_all); (case ub9 => k_updF)) | (refine' UpT2.tail ?ua9 ?ub9 ?uc9; (case ua9 => k_ne); (case ub9 => k_ne); (case uc9 => k_updF)) | fail "upd2"
  k_with "kaf_pre" => first | (refine' evI ?pe9 ?pN9 ?pm9 ?px9; (case pe9 => kaf_pre); (case pN9 => k_asm); (case pm9 => k_mem); (case px9 => rfl)) | (refine' evL ?pF9 ?pv9 ?pa9 ?pb9 ?pc9; (case pF9 => k_asm); (case pa9 => rfl); (case pb9 => rfl); (case pc9 => rfl); (case pv9 => rfl)) | (refine' evC ?pN9 ?pl9 ?pm9 ?pd9 ?pa9 ?pb9 ?pc9; (case pa9 => rfl); (case pb9 => rfl); (case pc9 => rfl); (case pN9 => k_asm); (case pl9 => rfl); (case pm9 => k_mem); (case pd9 => k_asm)) | (refine' evK ?pF9 ?pX9 ?pT9 ?pe9 ?pa9 ?pb9 ?pc9; (case pF9 => k_asm); (case pX9 => k_asm); (case pT9 => k_asm); (case pa9 => rfl); (case pb9 => rfl); (case pc9 => rfl); (case pe9 => k_is))
  k_with "kaf_suf" => first | exact evl0 | (refine' evlI ?sl9; (case sl9 => kaf_suf)) | (refine' evlS ?sl9; (case sl9 => kaf_suf)) | (refine' evlN ?se9 ?sl9 ?sn9; (case sn9 => rfl); (case se9 => kaf_pre); (case sl9 => kaf_suf)) | (refine' evlE ?se9 ?sl9 ?sn9; (case sn9 => rfl); (case se9 => kaf_pre); (case sl9 => kaf_suf))
  k_with "k_ne" => (refine neN ?_; (try dsimp only); first | with_reducible assumption | exact Ne.symm (by with_reducible assumption) | (refine Nat.ne_of_gt ((?_ : ChainTo _ _ _ _) (by with_reducible assumption)); intro hch; with_reducible (first | exact And.left hch | exact And.left (And.right hch) | exact And.left (And.right (And.right hch)) | exact And.left (And.right (And.right (And.right hch))) | exact And.left (And.right (And.right (And.right (And.right hch)))) | exact And.left (And.right (And.right (And.right (And.right (And.right hch))))) | exact And.left (And.right (And.right (And.right (And.right (And.right (And.right hch)))))) | exact And.left (And.right (And.right (And.right (And.right (And.right (And.right (And.right hch))))))) | exact And.left (And.right (And.right (And.right (And.right (And.right (And.right (And.right (And.right hch)))))))) | exact And.left (And.right (And.right (And.right (And.right (And.right (And.right (And.right (And.right (And.right hch))))))))) | exact And.left (And.right (And.right (And.right (And.right (And.right (And.right (And.right (And.right (And.right (And.right hch)))))))))) | exact And.left (And.right (And.right (And.right (And.right (And.right (And.right (And.right (And.right (And.right (And.right (And.right hch))))))))))) | exact And.left (And.right (And.right (And.right (And.right (And.right (And.right (And.right (And.right (And.right (And.right (And.right (And.right hch)))))))))))) | exact And.left (And.right (And.right (And.right (And.right (And.right (And.right (And.right (And.right (And.right (And.right (And.right (And.right (And.right hch))))))))))))))) | (refine Nat.ne_of_lt ((?_ : ChainTo _ _ _ _) (by with_reducible assumption)); intro hch; with_reducible (first | exact And.left hch | exact And.left (And.right hch) | exact And.left (And.right (And.right hch)) | exact And.left (And.right (And.right (And.right hch))) | exact And.left (And.right (And.right (And.right (And.right hch)))) | exact And.left (And.right (And.right (And.right (And.right (And.right hch))))) | exact And.left (And.right (And.right (And.right (And.right (And.right (And.right hch)))))) | exact And.left (And.right (And.right (And.right (And.right (And.right (And.right (And.right hch))))))) | exact And.left (And.right (And.right (And.right (And.right (And.right (And.right (And.right (And.right hch)))))))) | exact And.left (And.right (And.right (And.right (And.right (And.right (And.right (And.right (And.right (And.right hch))))))))) | exact And.left (And.right (And.right (And.right (And.right (And.right (And.right (And.right (And.right (And.right (And.right hch)))))))))) | exact And.left (And.right (And.right (And.right (And.right (And.right (And.right (And.right (And.right (And.right (And.right (And.right hch))))))))))) | exact And.left (And.right (And.right (And.right (And.right (And.right (And.right (And.right (And.right (And.right (And.right (And.right (And.right hch)))))))))))) | exact And.left (And.right (And.right (And.right (And.right (And.right (And.right (And.right (And.right (And.right (And.right (And.right (And.right (And.right hch))))))))))))))) | exact Nat.ne_of_gt (Nat.lt_succ_of_lt (And.left (by with_reducible assumption))) | exact Nat.ne_of_lt (Nat.lt_succ_of_lt (And.left (by with_reducible assumption))) | exact Nat.ne_of_gt (Nat.lt_succ_of_lt (And.left (And.right (by with_reducible assumption)))) | exact Nat.ne_of_lt (Nat.lt_succ_of_lt (And.left (And.right (by with_reducible assumption)))) | exact Nat.ne_of_gt (Nat.lt_succ_of_lt (And.left (And.right (And.right (by with_reducible assumption))))) | exact Nat.ne_of_lt (Nat.lt_succ_of_lt (And.left (And.right (And.right (by with_reducible assumption))))) | exact Nat.ne_of_gt (Nat.lt_succ_of_lt (Nat.lt_succ_of_lt (And.left (by with_reducible assumption)))) | exact Nat.ne_of_lt (Nat.lt_succ_of_lt (Nat.lt_succ_of_lt (And.left (by with_reducible assumption)))) | exact Nat.ne_of_gt (Nat.lt_succ_of_lt (Nat.lt_succ_of_lt (And.left (And.right (by with_reducible assumption))))) | exact Nat.ne_of_lt (Nat.lt_succ_of_lt (Nat.lt_succ_of_lt (And.left (And.right (by with_reducible assumption))))) | exact Nat.ne_of_gt (Nat.lt_succ_of_lt (Nat.lt_succ_of_lt (And.left (And.right (And.right (by with_reducible assumption)))))) | exact Nat.ne_of_lt (Nat.lt_succ_of_lt (Nat.lt_succ_of_lt (And.left (And.right (And.right (by with_reducible assumption)))))) | exact Nat.ne_of_gt (Nat.lt_succ_of_lt (Nat.lt_succ_of_lt (Nat.lt_succ_of_lt (And.left (by with_reducible assumption))))) | exact Nat.ne_of_lt (Nat.lt_succ_of_lt (Nat.lt_succ_of_lt (Nat.lt_succ_of_lt (And.left (by with_reducible assumption))))) | exact Nat.ne_of_gt (Nat.lt_succ_of_lt (Nat.lt_succ_of_lt (Nat.lt_succ_of_lt (And.left (And.right (by with_reducible assumption)))))) | exact Nat.ne_of_lt (Nat.lt_succ_of_lt (Nat.lt_succ_of_lt (Nat.lt_succ_of_lt (And.left (And.right (by with_reducible assumption)))))) | exact Nat.ne_of_gt (Nat.lt_succ_of_lt (Nat.lt_succ_of_lt (Nat.lt_succ_of_lt (And.left (And.right (And.right (by with_reducible assumption))))))) | exact Nat.ne_of_lt (Nat.lt_succ_of_lt (Nat.lt_succ_of_lt (Nat.lt_succ_of_lt (And.left (And.right (And.right (by with_reducible assumption))))))) | exact Nat.ne_of_gt (Nat.lt_succ_self _) | exact Nat.ne_of_lt (Nat.lt_succ_self _) | exact Nat.ne_of_gt (Nat.lt_succ_of_lt (Nat.lt_succ_self _)) | exact Nat.ne_of_lt (Nat.lt_succ_of_lt (Nat.lt_succ_self _)) | exact ((And.left (And.left (by with_reducible assumption))) : @Ne Nat _ _) | exact Ne.symm ((And.left (And.left (by with_reducible assumption))) : @Ne Nat _ _) | exact ((And.left (And.right (And.left (by with_reducible assumption)))) : @Ne Nat _ _) | exact Ne.symm ((And.left (And.right (And.left (by with_reducible assumption)))) : @Ne Nat _ _) | exact ((And.right (And.right (And.left (by with_reducible assumption)))) : @Ne Nat _ _) | exact Ne.symm ((And.right (And.right (And.left (by with_reducible assumption)))) : @Ne Nat _ _) | exact ((And.left (And.left (And.right (by with_reducible assumption)))) : @Ne Nat _ _) | exact Ne.symm ((And.left (And.left (And.right (by with_reducible assumption)))) : @Ne Nat _ _) | exact ((And.left (And.right (And.left (And.right (by with_reducible assumption))))) : @Ne Nat _ _) | exact Ne.symm ((And.left (And.right (And.left (And.right (by with_reducible assumption))))) : @Ne Nat _ _) | exact ((And.right (And.right (And.left (And.right (by with_reducible assumption))))) : @Ne Nat _ _) | exact Ne.symm ((And.right (And.right (And.left (And.right (by with_reducible assumption))))) : @Ne Nat _ _) | exact ((And.left (And.left (And.right (And.right (by with_reducible assumption))))) : @Ne Nat _ _) | exact Ne.symm ((And.left (And.left (And.right (And.right (by with_reducible assumption))))) : @Ne Nat _ _) | exact ((And.left (And.right (And.left (And.right (And.right (by with_reducible assumption)))))) : @Ne Nat _ _) | exact Ne.symm ((And.left (And.right (And.left (And.right (And.right (by with_reducible assumption)))))) : @Ne Nat _ _) | exact ((And.right (And.right (And.left (And.right (And.right (by with_reducible assumption)))))) : @Ne Nat _ _) | exact Ne.symm ((And.right (And.right (And.left (And.right (And.right (by with_reducible assumption)))))) : @Ne Nat _ _) | exact ((And.left (And.left (And.right (And.right (And.right (by with_reducible assumption)))))) : @Ne Nat _ _) | exact Ne.symm ((And.left (And.left (And.right (And.right (And.right (by with_reducible assumption)))))) : @Ne Nat _ _) | exact ((And.left (And.right (And.left (And.right (And.right (And.right (by with_reducible assumption))))))) : @Ne Nat _ _) | exact Ne.symm ((And.left (And.right (And.left (And.right (And.right (And.right (by with_reducible assumption))))))) : @Ne Nat _ _) | exact ((And.right (And.right (And.left (And.right (And.right (And.right (by with_reducible assumption))))))) : @Ne Nat _ _) | exact Ne.symm ((And.right (And.right (And.left (And.right (And.right (And.right (by with_reducible assumption))))))) : @Ne Nat _ _) | exact ((And.left (And.left (And.right (And.right (And.right (And.right (by with_reducible assumption))))))) : @Ne Nat _ _) | exact Ne.symm ((And.left (And.left (And.right (And.right (And.right (And.right (by with_reducible assumption))))))) : @Ne Nat _ _) | exact ((And.left (And.right (And.left (And.right (And.right (And.right (And.right (by with_reducible assumption)))))))) : @Ne Nat _ _) | exact Ne.symm ((And.left (And.right (And.left (And.right (And.right (And.right (And.right (by with_reducible assumption)))))))) : @Ne Nat _ _) | exact ((And.right (And.right (And.left (And.right (And.right (And.right (And.right (by with_reducible assumption)))))))) : @Ne Nat _ _) | exact Ne.symm ((And.right (And.right (And.left (And.right (And.right (And.right (And.right (by with_reducible assumption)))))))) : @Ne Nat _ _) | exact ((And.left (And.left (And.right (And.right (And.right (And.right (And.right (by with_reducible assumption)))))))) : @Ne Nat _ _) | exact Ne.symm ((And.left (And.left (And.right (And.right (And.right (And.right (And.right (by with_reducible assumption)))))))) : @Ne Nat _ _) | exact ((And.left (And.right (And.left (And.right (And.right (And.right (And.right (And.right (by with_reducible assumption))))))))) : @Ne Nat _ _) | exact Ne.symm ((And.left (And.right (And.left (And.right (And.right (And.right (And.right (And.right (by with_reducible assumption))))))))) : @Ne Nat _ _) | exact ((And.right (And.right (And.left (And.right (And.right (And.right (And.right (And.right (by with_reducible assumption))))))))) : @Ne Nat _ _) | exact Ne.symm ((And.right (And.right (And.left (And.right (And.right (And.right (And.right (And.right (by with_reducible assumption))))))))) : @Ne Nat _ _) | exact ((And.left (And.left (And.right (And.right (And.right (And.right (And.right (And.right (by with_reducible assumption))))))))) : @Ne Nat _ _) | exact Ne.symm ((And.left (And.left (And.right (And.right (And.right (And.right (And.right (And.right (by with_reducible assumption))))))))) : @Ne Nat _ _) | exact ((And.left (And.right (And.left (And.right (And.right (And.right (And.right (And.right (And.right (by with_reducible assumption)))))))))) : @Ne Nat _ _) | exact Ne.symm ((And.left (And.right (And.left (And.right (And.right (And.right (And.right (And.right (And.right (by with_reducible assumption)))))))))) : @Ne Nat _ _) | exact ((And.right (And.right (And.left (And.right (And.right (And.right (And.right (And.right (And.right (by with_reducible assumption)))))))))) : @Ne Nat _ _) | exact Ne.symm ((And.right (And.right (And.left (And.right (And.right (And.right (And.right (And.right (And.right (by with_reducible assumption)))))))))) : @Ne Nat _ _) | omega)
  k_with "ktr_room" => ((try simp only [depth_under_make, depth_under_kw, depth_in1, depth_deeper, depth_caller]); (try dsimp only [ktrTop]); first | exact Nat.lt_of_le_of_lt (Nat.le_add_right _ _) (by with_reducible assumption) | exact roomStep (by with_reducible assumption) (by first | exact Nat.le_refl _ | decide | exact r2 _ | omega) | fail "room")
  k_with "ktr_units" => ((try simp only [units_in1, units_deeper, Around.mark_units, units_caller]); (try dsimp only [ktrTop]); first | exact unitStep (by with_reducible assumption) (by first | exact Nat.le_refl _ | decide | exact u20 _ | exact u40 _ | omega) | fail "units")
  k_with "k_mem" => first | exact tail_mem (by assumption) (by k_mem) | fail "k_mem"
  k_with "k_mem" => assumption
  k_with "k_mem" => first | exact List.mem_cons_of_mem _ (by assumption) | fail "k_mem"
  k_with "size_fits" => (simp only [List.size_toArray, Array.size_push, List.length_append, List.length_cons, List.length_nil, PySem.sizeLine_eq] <;> omega)
  k_with "exec If" => (k_here; k_fold)
  k_with "exec Assign" => (k_here; k_fold)
  k_with "exec Expr" => (k_here; k_fold)
  k_with "exec Return some" => (k_here; k_fold)
  k_with "execs cons" => (k_here; first | k_fold | ((with_reducible refine execsG ?_); intro t9; (try dsimp only)))
  k_with "execs nil" => (k_here; (with_reducible refine wpAny_execs_nil ?_); (try dsimp only))
  k_with "call builtin:len" => (k_here; (with_reducible show wpAny _ _ (call (Value.builtin _) [Value.ref _]) _ _ _); k_dflt (first | (refine' lenLit (k := 2) ?N ?m ?e ?z ?_; (case N => k_asm); (case m => k_mem); (case e => rfl); (case z => decide)) | (refine' lenLit (k := 3) ?N ?m ?e ?z ?_; (case N => k_asm); (case m => k_mem); (case e => rfl); (case z => decide))); intro t t')
  k_with "ite" => (k_here; first | (refine ite_pos (by first | omega | (simp only [beq_iff_eq, bne_iff_ne, decide_eq_true_eq]; omega)) ?_) | (refine ite_neg (by first | omega | (simp only [beq_iff_eq, bne_iff_ne, decide_eq_true_eq]; omega)) ?_))
  k_with "exec For Tuple Subscript cons nil" => k_extra "exec For Tuple"
  k_with "subscriptTail" => (k_here; (with_reducible show wpAny _ _ (subscriptTail _ _ (Value.ref _) (Value.int _ _)) _ _ _); (with_unfolding_all refine' litItem ?N ?m ?a ?b ?c ?_ ?d; (case N => k_asm); (case m => k_mem); (case a => decide); (case b => decide); (case c => rfl); (case d => with_unfolding_all rfl); k_whole))
  k_with "call builtin:list.index" => (k_here; (with_reducible show wpAny _ _ (call (Value.builtin _) [Value.ref _, Value.str _ _]) _ _ _); k_dflt (refine' kindIndex ?k0 ?N ?m ?_; (case k0 => with_reducible assumption); (case N => k_asm); (case m => k_mem)); dsimp only [Wh.ixI])
  k_with "exec If" => (k_here; k_dflt (first | ((with_reducible refine' ifT ?xe9 ?xb9 ?_); (case xe9 => kaf_pre); (case xb9 => decide); k_whole) | ((with_reducible refine' ifF ?xe9 ?xb9 ?_); (case xe9 => kaf_pre); (case xb9 => decide); k_whole)))
  k_with "isTrue Compare" => (k_here; k_dflt (first | ((with_reducible refine' isT ?xe9 ?xb9 ?_); (case xe9 => kaf_pre); (case xb9 => decide); k_whole) | ((with_reducible refine' isF ?xe9 ?xb9 ?_); (case xe9 => kaf_pre); (case xb9 => decide); k_whole) | ((with_reducible refine' isI ?xe9 ?_); (case xe9 => kaf_pre); k_whole) | ((with_reducible refine' isIl ?xe9 ?_); (case xe9 => kaf_pre); k_whole) | ((with_reducible refine' isIg ?xe9 ?_); (case xe9 => kaf_pre); k_whole)))
  k_with "eval Subscript" => (k_here; k_dflt ((with_reducible refine' Ev.go ?xe9 ?_); (case xe9 => kaf_pre); k_whole))
  k_with "spliced" => (k_here; k_dflt ((with_reducible refine' EvL.go ?xe9 ?_); (case xe9 => kaf_suf); k_whole); (try dsimp only [List.nil_append, List.cons_append]))
  k_with "eval Call" => (k_here; (with_reducible show wpAny _ _ (eval (Expr.Call (Expr.Name _ _) (_ :: _) [] _) _) _ _ _); k_dflt (refine' evCall ?xF9 ?xX9 ?xT9 ?xe9 ?xk9 ?xl9 ?_ ?xs9 ?xa9 ?xb9 ?xc9; (case xF9 => k_asm); (case xX9 => k_asm); (case xT9 => k_asm); (case xa9 => rfl); (case xb9 => rfl); (case xc9 => rfl); (case xe9 => k_is); (case xk9 => k_is); (case xl9 => kaf_suf); (case xs9 => rfl); k_whole))
  k_with "call ref" => (k_here; (with_reducible show wpAny _ _ (call (Value.ref 117) [_, _, _]) _ _ _); k_dflt (refine' labelUse ?kU ?ks ?kx ?kn ?kl ?k1 ?k2 ?k3 ?k4 ?k5 ?kK ?kd ?ku ?_; (case k1 => k_asm); (case k2 => k_asm); (case k3 => k_asm); (case k4 => k_asm); (case k5 => k_asm); (case kU => k_updF); (case ks => assumption); (case kx => first | assumption | exact TIn.mono (by assumption) (by assumption) | exact TIn.mono (by assumption) (fun p hp => tail_mem (by assumption) (tail_mem (by assumption) hp)) | exact TIn.mono (by assumption) (fun p hp => tail_mem (by assumption) (tail_mem (by assumption) (tail_mem (by assumption) hp)))); (case kn => exact hlc); (case kl => omega); (case kK => first | exact rfl | assumption); (case kd => ktr_room); (case ku => ktr_units)); intro t tn kl kc vs N R' h tk e9 F9 N9 hr9 hf9 hl9 hs9 hz9)
  k_with "exec For Tuple" => (k_here; (rename Fr _ _ _ _ => lF'); (with_unfolding_all refine' For_turns lF' ?_; k_whole))
  k_with "pyIter ref" => (k_here; (with_reducible show wpAny _ _ (pyIter (Value.ref _)) (fun it s₂ => TurnsAt _ _ _ _ _ _ _ _ _ it s₂) _ _); (rename Fr _ _ _ _ => lF'); (rename News _ _ _ _ => lN'); (first | (with_unfolding_all refine' iter_listTurns (vs := [_, _]) (by rfl) lF' lN' (by k_mem) (by rfl) (by rfl) ?_) | (with_unfolding_all refine' iter_listTurns (vs := [_]) (by rfl) lF' lN' (by k_mem) (by rfl) (by rfl) ?_)  | (with_unfolding_all refine' iter_listTurns (vs := []) (by rfl) lF' lN' (by k_mem) (by rfl) (by rfl) ?_)); clear lF'; intro i' l1; (try k_lt l1); dsimp only [List.map])
  k_with "UnrEnd" => ((rename Fr _ _ _ _ => kF); (rename News _ _ _ _ => kN); k_dflt (refine' unrSwap kF kN ?koff ?_; (case koff => k_all)))
  k_with "UnrEndW" => ((rename Fr _ _ _ _ => kF); (rename News _ _ _ _ => kN); k_dflt (first
    | (refine' unrW1 kF kN ?koff ⟨⟨?kmm, trivial⟩, ?_⟩; (case koff => k_all); (case kmm => k_mem))
    | (refine' unrW2 kF kN ?koff ⟨⟨?kmm, trivial⟩, ?_⟩; (case koff => k_all); (case kmm => k_mem))))
  k_with "eval ListComp" => (k_here; k_dflt (refine LCg.ListComp_U (F₀ := by k_asm) (by rfl) (by decide) (by rfl) (by decide) (by rfl) ?_))
  k_with "CompEnd" => ((rename Fr _ _ _ _ => kF); (rename News _ _ _ _ => kN); (rename _ ∧ _ ∧ _ ∧ _ ∧ _ ∧ _ ∧ LCg.Off3 _ _ _ _ => hoff); k_dflt (refine' LCg.CompEnd.intro kF kN (_ :: _ :: _ :: _ :: _ :: _ :: _) (fun p hp => hp) ⟨hoff.1, hoff.2.1, hoff.2.2.1, hoff.2.2.2.1, hoff.2.2.2.2.1, hoff.2.2.2.2.2.1, off3_tail (by assumption) (by assumption) (.head _) (.tail _ (.head _)) (.tail _ (.tail _ (.head _))) hoff.2.2.2.2.2.2⟩ ?kss ?_; (case kss => exact Or.inr ⟨_, by k_mem, rfl, _, rfl⟩)))
  refine TIn.tb1_elim (P := fun v => Ctr w mean mg mb 122 _ _ _ (v :: _) _) hx ?_
  clear hx
  intros
  unfold Ctr
  intro dp un gd cn cs a ccd cl outer A₀ base h₀ L m s Q E B F X N T hk hd hu hret
  refine wpAny_call ?_
  k_dflt (refine' code_defC ?k1 ?k2 ?k3 ?k4 ?k5 ?kA ?kF ?kK ?k6 ?k7 ?k8 ?k9 ?kB ?kD ?_ ?c2 ?c3 ?c4; (case kA => exact rfl); (case kF => exact rfl); (case kK => assumption); (case k1 => k_asm); (case k2 => k_asm); (case k3 => k_asm); (case k4 => k_asm); (case k5 => k_asm); (case k6 => k_is); (case k7 => k_is); (case k8 => ktr_room); (case k9 => exact BindsTo.of_eq rfl); (case kB => exact rfl); (case kD => decide +kernel); (case c2 => exact rfl); (case c3 => exact rfl); (case c4 => exact rfl); k_whole; intro g' L' h' tk' cells' FG' F' N' Y' B' X' T' l1; (try k_lt l1); k_cells Y'; (try simp only [List.cons_append, List.nil_append] at N'); (try dsimp only); (try k_lift B'); (try k_fold)); (refine letE ?_); intro e9; (refine letA ?_); intro A9; (rename Fr _ _ _ _ => F8); (refine letM F8 ?_); clear F8; intro m9 F9
  k_steps
  (rename News _ _ _ _ => kN)
  (simp only [List.push_toArray] at kN)
  refine' rowsEnd (top := [(_, tupO [.str (Str.ofString (sname true)) _, .ref _, .int _ _]), (_, tupO [.ref _]), (_, tupO [.int 3 _, .int _ _])]) hret ?kF kN ?kB ?kL ?kC ?kR ?k2 ?kM ?kI ?kS rfl
  case kF => assumption
  case kB => k_mem
  case kL => k_mem
  case kC => k_mem
  case kS => assumption
  case kR => (intro p hp; simp only [List.mem_cons, hp, or_true])
  case k2 => repeat' (first | exact List.forall_mem_nil _ | (refine List.forall_mem_cons.mpr ⟨⟨by k_mem, ⟨by k_ne, by k_ne, by k_ne⟩, by k_all⟩, ?_⟩))
  case kM => repeat' (first | exact Ext3.nil | (refine' Ext3.step ?_ ?y ?z ?u ?v1 ?v2 ?v3; (case y => assumption); (case z => assumption); (case u => assumption); (case v1 => k_mem); (case v2 => k_mem); (case v3 => k_mem)))
  case kI => exact bin1 hbs (fun p hp => List.mem_append_right _ (tail_mem (by assumption) (tail_mem (by assumption) hp))) (.tb1 (.head _) (.tail _ (.head _)) (.tail _ (.tail _ (.head _))) .str)
set_option maxRecDepth 100000 in
set_option maxHeartbeats 8000000 in
theorem rows_tb2t (w : World) (mean : ExcName → Option Value) (mg mb : Str → Option Value) (bl la c : Addr) (n : Int) (tn : Tok) (bs : List Value) (is : List Ins) (vs : List Value) (ls : List (Int × T)) (kb kl kc : Nat) (tv : Value) (x1 x2 x3 : T) (R : Led)
    (hbs : BIn R bs is) (hls : LIn R vs ls) (hx : TIn R tv (.tb2 true x1 x2 x3)) (hbl : @Ne Nat bl la) (hbc : @Ne Nat bl c) (hlc : @Ne Nat la c) (h1 : ∀ p ∈ R, p.1 ≠ bl) (h2 : ∀ p ∈ R, p.1 ≠ la) (h3 : ∀ p ∈ R, p.1 ≠ c) (hb1 : bs.length ≤ 1000) (hl1 : vs.length ≤ 990) :
    Ctr w mean mg mb 122 4 40 ((bl, listOf bs.toArray kb) :: (la, listOf vs.toArray kl) :: (c, cnt1 n tn kc) :: R) [tv, .ref bl, .ref la, .ref c] (RowsPost bl la c n is ls (.tb2 true x1 x2 x3) R) := by
  k_with_none
  k_with "k_all" => first | with_reducible assumption | (refine' List.forall_mem_cons.mpr ⟨?qa9, ?qb9⟩; (case qa9 => k_ne); (case qb9 => k_all)) | exact allLt_ne (by with_reducible assumption) | exact off1_ne4 (by with_reducible assumption) | exact allLt_ne1 (by with_reducible assumption) | exact allLt_ne2 (by with_reducible assumption) | exact allLt_ne3 (by with_reducible assumption) | exact allLt_ne4 (by with_reducible assumption) | exact allLt_ne5 (by with_reducible assumption) | exact allLt_ne6 (by with_reducible assumption) | exact allLt_ne7 (by with_reducible assumption) | exact allLt_ne8 (by with_reducible assumption) | exact allLt_ne9 (by with_reducible assumption) | exact allLt_ne10 (by with_reducible assumption) | exact allLt_ne11 (by with_reducible assumption) | exact allLt_ne12 (by with_reducible assumption) | exact tail_ne (by with_reducible assumption) (fresh_ne (by with_reducible assumption) (by k_mem)) (by k_all) | fail "k_all"
  k_with "k_updF" => first | (refine' UpT.head ?ua9 ?ub9; (case ub9 => k_all); (case ua9 => k_updF)) | (refine' UpT.tail ?ua9 ?ub9; (case ua9 => k_ne); (case ub9 => k_updF)) | (refine' TailOf.cons ?ua9; (case ua9 => k_updF)) | exact TailOf.nil | fail "updT"
  k_with "k_updF" => first | (refine' UpT2.one ?ua9 ?ub9; (case ua9 => k_all); (case ub9 => k_updF)) | (refine' UpT2.two ?ua9 ?ub9; (case ua9 => k_all); (case ub9 => k_updF)) | (refine' UpT2.tail ?ua9 ?ub9 ?uc9; (case ua9 => k_ne); (case ub9 => k_ne); (case uc9 => k_updF)) | fail "upd2"
  k_with "kaf_pre" => first | (refine' evI ?pe9 ?pN9 ?pm9 ?px9; (case pe9 => kaf_pre); (case pN9 => k_asm); (case pm9 => k_mem); (case px9 => rfl)) | (refine' evL ?pF9 ?pv9 ?pa9 ?pb9 ?pc9; (case pF9 => k_asm); (case pa9 => rfl); (case pb9 => rfl); (case pc9 => rfl); (case pv9 => rfl)) | (refine' evC ?pN9 ?pl9 ?pm9 ?pd9 ?pa9 ?pb9 ?pc9; (case pa9 => rfl); (case pb9 => rfl); (case pc9 => rfl); (case pN9 => k_asm); (case pl9 => rfl); (case pm9 => k_mem); (case pd9 => k_asm)) | (refine' evK ?pF9 ?pX9 ?pT9 ?pe9 ?pa9 ?pb9 ?pc9; (case pF9 => k_asm); (case pX9 => k_asm); (case pT9 => k_asm); (case pa9 => rfl); (case pb9 => rfl); (case pc9 => rfl); (case pe9 => k_is))
  k_with "kaf_suf" => first | exact evl0 | (refine' evlI ?sl9; (case sl9 => kaf_suf)) | (refine' evlS ?sl9; (case sl9 => kaf_suf)) | (refine' evlN ?se9 ?sl9 ?sn9; (case sn9 => rfl); (case se9 => kaf_pre); (case sl9 => kaf_suf)) | (refine' evlE ?se9 ?sl9 ?sn9; (case sn9 => rfl); (case se9 => kaf_pre); (case sl9 => kaf_suf))
  k_with "k_ne" => (refine neN ?_; (try dsimp only); first | with_reducible assumption | exact Ne.symm (by with_reducible assumption) | (refine Nat.ne_of_gt ((?_ : ChainTo _ _ _ _) (by with_reducible assumption)); intro hch; with_reducible (first | exact And.left hch | exact And.left (And.right hch) | exact And.left (And.right (And.right hch)) | exact And.left (And.right (And.right (And.right hch))) | exact And.left (And.right (And.right (And.right (And.right hch)))) | exact And.left (And.right (And.right (And.right (And.right (And.right hch))))) | exact And.left (And.right (And.right (And.right (And.right (And.right (And.right hch)))))) | exact And.left (And.right (And.right (And.right (And.right (And.right (And.right (And.right hch))))))) | exact And.left (And.right (And.right (And.right (And.right (And.right (And.right (And.right (And.right hch)))))))) | exact And.left (And.right (And.right (And.right (And.right (And.right (And.right (And.right (And.right (And.right hch))))))))) | exact And.left (And.right (And.right (And.right (And.right (And.right (And.right (And.right (And.right (And.right (And.right hch)))))))))) | exact And.left (And.right (And.right (And.right (And.right (And.right (And.right (And.right (And.right (And.right (And.right (And.right hch))))))))))) | exact And.left (And.right (And.right (And.right (And.right (And.right (And.right (And.right (And.right (And.right (And.right (And.right (And.right hch)))))))))))) | exact And.left (And.right (And.right (And.right (And.right (And.right (And.right (And.right (And.right (And.right (And.right (And.right (And.right (And.right hch))))))))))))))) | (refine Nat.ne_of_lt ((?_ : ChainTo _ _ _ _) (by with_reducible assumption)); intro hch; with_reducible (first | exact And.left hch | exact And.left (And.right hch) | exact And.left (And.right (And.right hch)) | exact And.left (And.right (And.right (And.right hch))) | exact And.left (And.right (And.right (And.right (And.right hch)))) | exact And.left (And.right (And.right (And.right (And.right (And.right hch))))) | exact And.left (And.right (And.right (And.right (And.right (And.right (And.right hch)))))) | exact And.left (And.right (And.right (And.right (And.right (And.right (And.right (And.right hch))))))) | exact And.left (And.right (And.right (And.right (And.right (And.right (And.right (And.right (And.right hch)))))))) | exact And.left (And.right (And.right (And.right (And.right (And.right (And.right (And.right (And.right (And.right hch))))))))) | exact And.left (And.right (And.right (And.right (And.right (And.right (And.right (And.right (And.right (And.right (And.right hch)))))))))) | exact And.left (And.right (And.right (And.right (And.right (And.right (And.right (And.right (And.right (And.right (And.right (And.right hch))))))))))) | exact And.left (And.right (And.right (And.right (And.right (And.right (And.right (And.right (And.right (And.right (And.right (And.right (And.right hch)))))))))))) | exact And.left (And.right (And.right (And.right (And.right (And.right (And.right (And.right (And.right (And.right (And.right (And.right (And.right (And.right hch))))))))))))))) | exact Nat.ne_of_gt (Nat.lt_succ_of_lt (And.left (by with_reducible assumption))) | exact Nat.ne_of_lt (Nat.lt_succ_of_lt (And.left (by with_reducible assumption))) | exact Nat.ne_of_gt (Nat.lt_succ_of_lt (And.left (And.right (by with_reducible assumption)))) | exact Nat.ne_of_lt (Nat.lt_succ_of_lt (And.left (And.right (by with_reducible assumption)))) | exact Nat.ne_of_gt (Nat.lt_succ_of_lt (And.left (And.right (And.right (by with_reducible assumption))))) | exact Nat.ne_of_lt (Nat.lt_succ_of_lt (And.left (And.right (And.right (by with_reducible assumption))))) | exact Nat.ne_of_gt (Nat.lt_succ_of_lt (Nat.lt_succ_of_lt (And.left (by with_reducible assumption)))) | exact Nat.ne_of_lt (Nat.lt_succ_of_lt (Nat.lt_succ_of_lt (And.left (by with_reducible assumption)))) | exact Nat.ne_of_gt (Nat.lt_succ_of_lt (Nat.lt_succ_of_lt (And.left (And.right (by with_reducible assumption))))) | exact Nat.ne_of_lt (Nat.lt_succ_of_lt (Nat.lt_succ_of_lt (And.left (And.right (by with_reducible assumption))))) | exact Nat.ne_of_gt (Nat.lt_succ_of_lt (Nat.lt_succ_of_lt (And.left (And.right (And.right (by with_reducible assumption)))))) | exact Nat.ne_of_lt (Nat.lt_succ_of_lt (Nat.lt_succ_of_lt (And.left (And.right (And.right (by with_reducible assumption)))))) | exact Nat.ne_of_gt (Nat.lt_succ_of_lt (Nat.lt_succ_of_lt (Nat.lt_succ_of_lt (And.left (by with_reducible assumption))))) | exact Nat.ne_of_lt (Nat.lt_succ_of_lt (Nat.lt_succ_of_lt (Nat.lt_succ_of_lt (And.left (by with_reducible assumption))))) | exact Nat.ne_of_gt (Nat.lt_succ_of_lt (Nat.lt_succ_of_lt (Nat.lt_succ_of_lt (And.left (And.right (by with_reducible assumption)))))) | exact Nat.ne_of_lt (Nat.lt_succ_of_lt (Nat.lt_succ_of_lt (Nat.lt_succ_of_lt (And.left (And.right (by with_reducible assumption)))))) | exact Nat.ne_of_gt (Nat.lt_succ_of_lt (Nat.lt_succ_of_lt (Nat.lt_succ_of_lt (And.left (And.right (And.right (by with_reducible assumption))))))) | exact Nat.ne_of_lt (Nat.lt_succ_of_lt (Nat.lt_succ_of_lt (Nat.lt_succ_of_lt (And.left (And.right (And.right (by with_reducible assumption))))))) | exact Nat.ne_of_gt (Nat.lt_succ_self _) | exact Nat.ne_of_lt (Nat.lt_succ_self _) | exact Nat.ne_of_gt (Nat.lt_succ_of_lt (Nat.lt_succ_self _)) | exact Nat.ne_of_lt (Nat.lt_succ_of_lt (Nat.lt_succ_self _)) | exact ((And.left (And.left (by with_reducible assumption))) : @Ne Nat _ _) | exact Ne.symm ((And.left (And.left (by with_reducible assumption))) : @Ne Nat _ _) | exact ((And.left (And.right (And.left (by with_reducible assumption)))) : @Ne Nat _ _) | exact Ne.symm ((And.left (And.right (And.left (by with_reducible assumption)))) : @Ne Nat _ _) | exact ((And.right (And.right (And.left (by with_reducible assumption)))) : @Ne Nat _ _) | exact Ne.symm ((And.right (And.right (And.left (by with_reducible assumption)))) : @Ne Nat _ _) | exact ((And.left (And.left (And.right (by with_reducible assumption)))) : @Ne Nat _ _) | exact Ne.symm ((And.left (And.left (And.right (by with_reducible assumption)))) : @Ne Nat _ _) | exact ((And.left (And.right (And.left (And.right (by with_reducible assumption))))) : @Ne Nat _ _) | exact Ne.symm ((And.left (And.right (And.left (And.right (by with_reducible assumption))))) : @Ne Nat _ _) | exact ((And.right (And.right (And.left (And.right (by with_reducible assumption))))) : @Ne Nat _ _) | exact Ne.symm ((And.right (And.right (And.left (And.right (by with_reducible assumption))))) : @Ne Nat _ _) | exact ((And.left (And.left (And.right (And.right (by with_reducible assumption))))) : @Ne Nat _ _) | exact Ne.symm ((And.left (And.left (And.right (And.right (by with_reducible assumption))))) : @Ne Nat _ _) | exact ((And.left (And.right (And.left (And.right (And.right (by with_reducible assumption)))))) : @Ne Nat _ _) | exact Ne.symm ((And.left (And.right (And.left (And.right (And.right (by with_reducible assumption)))))) : @Ne Nat _ _) | exact ((And.right (And.right (And.left (And.right (And.right (by with_reducible assumption)))))) : @Ne Nat _ _) | exact Ne.symm ((And.right (And.right (And.left (And.right (And.right (by with_reducible assumption)))))) : @Ne Nat _ _) | exact ((And.left (And.left (And.right (And.right (And.right (by with_reducible assumption)))))) : @Ne Nat _ _) | exact Ne.symm ((And.left (And.left (And.right (And.right (And.right (by with_reducible assumption)))))) : @Ne Nat _ _) | exact ((And.left (And.right (And.left (And.right (And.right (And.right (by with_reducible assumption))))))) : @Ne Nat _ _) | exact Ne.symm ((And.left (And.right (And.left (And.right (And.right (And.right (by with_reducible assumption))))))) : @Ne Nat _ _) | exact ((And.right (And.right (And.left (And.right (And.right (And.right (by with_reducible assumption))))))) : @Ne Nat _ _) | exact Ne.symm ((And.right (And.right (And.left (And.right (And.right (And.right (by with_reducible assumption))))))) : @Ne Nat _ _) | exact ((And.left (And.left (And.right (And.right (And.right (And.right (by with_reducible assumption))))))) : @Ne Nat _ _) | exact Ne.symm ((And.left (And.left (And.right (And.right (And.right (And.right (by with_reducible assumption))))))) : @Ne Nat _ _) | exact ((And.left (And.right (And.left (And.right (And.right (And.right (And.right (by with_reducible assumption)))))))) : @Ne Nat _ _) | exact Ne.symm ((And.left (And.right (And.left (And.right (And.right (And.right (And.right (by with_reducible assumption)))))))) : @Ne Nat _ _) | exact ((And.right (And.right (And.left (And.right (And.right (And.right (And.right (by with_reducible assumption)))))))) : @Ne Nat _ _) | exact Ne.symm ((And.right (And.right (And.left (And.right (And.right (And.right (And.right (by with_reducible assumption)))))))) : @Ne Nat _ _) | exact ((And.left (And.left (And.right (And.right (And.right (And.right (And.right (by with_reducible assumption)))))))) : @Ne Nat _ _) | exact Ne.symm ((And.left (And.left (And.right (And.right (And.right (And.right (And.right (by with_reducible assumption)))))))) : @Ne Nat _ _) | exact ((And.left (And.right (And.left (And.right (And.right (And.right (And.right (And.right (by with_reducible assumption))))))))) : @Ne Nat _ _) | exact Ne.symm ((And.left (And.right (And.left (And.right (And.right (And.right (And.right (And.right (by with_reducible assumption))))))))) : @Ne Nat _ _) | exact ((And.right (And.right (And.left (And.right (And.right (And.right (And.right (And.right (by with_reducible assumption))))))))) : @Ne Nat _ _) | exact Ne.symm ((And.right (And.right (And.left (And.right (And.right (And.right (And.right (And.right (by with_reducible assumption))))))))) : @Ne Nat _ _) | exact ((And.left (And.left (And.right (And.right (And.right (And.right (And.right (And.right (by with_reducible assumption))))))))) : @Ne Nat _ _) | exact Ne.symm ((And.left (And.left (And.right (And.right (And.right (And.right (And.right (And.right (by with_reducible assumption))))))))) : @Ne Nat _ _) | exact ((And.left (And.right (And.left (And.right (And.right (And.right (And.right (And.right (And.right (by with_reducible assumption)))))))))) : @Ne Nat _ _) | exact Ne.symm ((And.left (And.right (And.left (And.right (And.right (And.right (And.right (And.right (And.right (by with_reducible assumption)))))))))) : @Ne Nat _ _) | exact ((And.right (And.right (And.left (And.right (And.right (And.right (And.right (And.right (And.right (by with_reducible assumption)))))))))) : @Ne Nat _ _) | exact Ne.symm ((And.right (And.right (And.left (And.right (And.right (And.right (And.right (And.right (And.right (by with_reducible assumption)))))))))) : @Ne Nat _ _) | omega)
  k_with "ktr_room" => ((try simp only [depth_under_make, depth_under_kw, depth_in1, depth_deeper, depth_caller]); (try dsimp only [ktrTop]); first | exact Nat.lt_of_le_of_lt (Nat.le_add_right _ _) (by with_reducible assumption) | exact roomStep (by with_reducible assumption) (by first | exact Nat.le_refl _ | decide | exact r2 _ | omega) | fail "room")
  k_with "ktr_units" => ((try simp only [units_in1, units_deeper, Around.mark_units, units_caller]); (try dsimp only [ktrTop]); first | exact unitStep (by with_reducible assumption) (by first | exact Nat.le_refl _ | decide | exact u20 _ | exact u40 _ | omega) | fail "units")
  k_with "k_mem" => first | exact tail_mem (by assumption) (by k_mem) | fail "k_mem"
  k_with "k_mem" => assumption
  k_with "k_mem" => first | exact List.mem_cons_of_mem _ (by assumption) | fail "k_mem"
  k_with "size_fits" => (simp only [List.size_toArray, Array.size_push, List.length_append, List.length_cons, List.length_nil, PySem.sizeLine_eq] <;> omega)
  k_with "exec If" => (k_here; k_fold)
  k_with "exec Assign" => (k_here; k_fold)
  k_with "exec Expr" => (k_here; k_fold)
  k_with "exec Return some" => (k_here; k_fold)
  k_with "execs cons" => (k_here; first | k_fold | ((with_reducible refine execsG ?_); intro t9; (try dsimp only)))
  k_with "execs nil" => (k_here; (with_reducible refine wpAny_execs_nil ?_); (try dsimp only))
  k_with "call builtin:len" => (k_here; (with_reducible show wpAny _ _ (call (Value.builtin _) [Value.ref _]) _ _ _); k_dflt (first | (refine' lenLit (k := 2) ?N ?m ?e ?z ?_; (case N => k_asm); (case m => k_mem); (case e => rfl); (case z => decide)) | (refine' lenLit (k := 3) ?N ?m ?e ?z ?_; (case N => k_asm); (case m => k_mem); (case e => rfl); (case z => decide))); intro t t')
  k_with "ite" => (k_here; first | (refine ite_pos (by first | omega | (simp only [beq_iff_eq, bne_iff_ne, decide_eq_true_eq]; omega)) ?_) | (refine ite_neg (by first | omega | (simp only [beq_iff_eq, bne_iff_ne, decide_eq_true_eq]; omega)) ?_))
  k_with "exec For Tuple Subscript cons nil" => k_extra "exec For Tuple"
  k_with "subscriptTail" => (k_here; (with_reducible show wpAny _ _ (subscriptTail _ _ (Value.ref _) (Value.int _ _)) _ _ _); (with_unfolding_all refine' litItem ?N ?m ?a ?b ?c ?_ ?d; (case N => k_asm); (case m => k_mem); (case a => decide); (case b => decide); (case c => rfl); (case d => with_unfolding_all rfl); k_whole))
  k_with "call builtin:list.index" => (k_here; (with_reducible show wpAny _ _ (call (Value.builtin _) [Value.ref _, Value.str _ _]) _ _ _); k_dflt (refine' kindIndex ?k0 ?N ?m ?_; (case k0 => with_reducible assumption); (case N => k_asm); (case m => k_mem)); dsimp only [Wh.ixI])
  k_with "exec If" => (k_here; k_dflt (first | ((with_reducible refine' ifT ?xe9 ?xb9 ?_); (case xe9 => kaf_pre); (case xb9 => decide); k_whole) | ((with_reducible refine' ifF ?xe9 ?xb9 ?_); (case xe9 => kaf_pre); (case xb9 => decide); k_whole)))
  k_with "isTrue Compare" => (k_here; k_dflt (first | ((with_reducible refine' isT ?xe9 ?xb9 ?_); (case xe9 => kaf_pre); (case xb9 => decide); k_whole) | ((with_reducible refine' isF ?xe9 ?xb9 ?_); (case xe9 => kaf_pre); (case xb9 => decide); k_whole) | ((with_reducible refine' isI ?xe9 ?_); (case xe9 => kaf_pre); k_whole) | ((with_reducible refine' isIl ?xe9 ?_); (case xe9 => kaf_pre); k_whole) | ((with_reducible refine' isIg ?xe9 ?_); (case xe9 => kaf_pre); k_whole)))
  k_with "eval Subscript" => (k_here; k_dflt ((with_reducible refine' Ev.go ?xe9 ?_); (case xe9 => kaf_pre); k_whole))
  k_with "spliced" => (k_here; k_dflt ((with_reducible refine' EvL.go ?xe9 ?_); (case xe9 => kaf_suf); k_whole); (try dsimp only [List.nil_append, List.cons_append]))
  k_with "eval Call" => (k_here; (with_reducible show wpAny _ _ (eval (Expr.Call (Expr.Name _ _) (_ :: _) [] _) _) _ _ _); k_dflt (refine' evCall ?xF9 ?xX9 ?xT9 ?xe9 ?xk9 ?xl9 ?_ ?xs9 ?xa9 ?xb9 ?xc9; (case xF9 => k_asm); (case xX9 => k_asm); (case xT9 => k_asm); (case xa9 => rfl); (case xb9 => rfl); (case xc9 => rfl); (case xe9 => k_is); (case xk9 => k_is); (case xl9 => kaf_suf); (case xs9 => rfl); k_whole))
  k_with "call ref" => (k_here; (with_reducible show wpAny _ _ (call (Value.ref 117) [_, _, _]) _ _ _); k_dflt (refine' labelUse ?kU ?ks ?kx ?kn ?kl ?k1 ?k2 ?k3 ?k4 ?k5 ?kK ?kd ?ku ?_; (case k1 => k_asm); (case k2 => k_asm); (case k3 => k_asm); (case k4 => k_asm); (case k5 => k_asm); (case kU => k_updF); (case ks => assumption); (case kx => first | assumption | exact TIn.mono (by assumption) (by assumption) | exact TIn.mono (by assumption) (fun p hp => tail_mem (by assumption) (tail_mem (by assumption) hp)) | exact TIn.mono (by assumption) (fun p hp => tail_mem (by assumption) (tail_mem (by assumption) (tail_mem (by assumption) hp)))); (case kn => exact hlc); (case kl => omega); (case kK => first | exact rfl | assumption); (case kd => ktr_room); (case ku => ktr_units)); intro t tn kl kc vs N R' h tk e9 F9 N9 hr9 hf9 hl9 hs9 hz9)
  k_with "exec For Tuple" => (k_here; (rename Fr _ _ _ _ => lF'); (with_unfolding_all refine' For_turns lF' ?_; k_whole))
  k_with "pyIter ref" => (k_here; (with_reducible show wpAny _ _ (pyIter (Value.ref _)) (fun it s₂ => TurnsAt _ _ _ _ _ _ _ _ _ it s₂) _ _); (rename Fr _ _ _ _ => lF'); (rename News _ _ _ _ => lN'); (first | (with_unfolding_all refine' iter_listTurns (vs := [_, _]) (by rfl) lF' lN' (by k_mem) (by rfl) (by rfl) ?_) | (with_unfolding_all refine' iter_listTurns (vs := [_]) (by rfl) lF' lN' (by k_mem) (by rfl) (by rfl) ?_)  | (with_unfolding_all refine' iter_listTurns (vs := []) (by rfl) lF' lN' (by k_mem) (by rfl) (by rfl) ?_)); clear lF'; intro i' l1; (try k_lt l1); dsimp only [List.map])
  k_with "UnrEnd" => ((rename Fr _ _ _ _ => kF); (rename News _ _ _ _ => kN); k_dflt (refine' unrSwap kF kN ?koff ?_; (case koff => k_all)))
  k_with "UnrEndW" => ((rename Fr _ _ _ _ => kF); (rename News _ _ _ _ => kN); k_dflt (first
    | (refine' unrW1 kF kN ?koff ⟨⟨?kmm, trivial⟩, ?_⟩; (case koff => k_all); (case kmm => k_mem))
    | (refine' unrW2 kF kN ?koff ⟨⟨?kmm, trivial⟩, ?_⟩; (case koff => k_all); (case kmm => k_mem))))
  k_with "eval ListComp" => (k_here; k_dflt (refine LCg.ListComp_U (F₀ := by k_asm) (by rfl) (by decide) (by rfl) (by decide) (by rfl) ?_))
  k_with "CompEnd" => ((rename Fr _ _ _ _ => kF); (rename News _ _ _ _ => kN); (rename _ ∧ _ ∧ _ ∧ _ ∧ _ ∧ _ ∧ LCg.Off3 _ _ _ _ => hoff); k_dflt (refine' LCg.CompEnd.intro kF kN (_ :: _ :: _ :: _ :: _ :: _ :: _) (fun p hp => hp) ⟨hoff.1, hoff.2.1, hoff.2.2.1, hoff.2.2.2.1, hoff.2.2.2.2.1, hoff.2.2.2.2.2.1, off3_tail (by assumption) (by assumption) (.head _) (.tail _ (.head _)) (.tail _ (.tail _ (.head _))) hoff.2.2.2.2.2.2⟩ ?kss ?_; (case kss => exact Or.inr ⟨_, by k_mem, rfl, _, rfl⟩)))
  refine TIn.tb2_elim (P := fun v => Ctr w mean mg mb 122 _ _ _ (v :: _) _) hx ?_
  clear hx
  intros
  unfold Ctr
  intro dp un gd cn cs a ccd cl outer A₀ base h₀ L m s Q E B F X N T hk hd hu hret
  refine wpAny_call ?_
  k_dflt (refine' code_defC ?k1 ?k2 ?k3 ?k4 ?k5 ?kA ?kF ?kK ?k6 ?k7 ?k8 ?k9 ?kB ?kD ?_ ?c2 ?c3 ?c4; (case kA => exact rfl); (case kF => exact rfl); (case kK => assumption); (case k1 => k_asm); (case k2 => k_asm); (case k3 => k_asm); (case k4 => k_asm); (case k5 => k_asm); (case k6 => k_is); (case k7 => k_is); (case k8 => ktr_room); (case k9 => exact BindsTo.of_eq rfl); (case kB => exact rfl); (case kD => decide +kernel); (case c2 => exact rfl); (case c3 => exact rfl); (case c4 => exact rfl); k_whole; intro g' L' h' tk' cells' FG' F' N' Y' B' X' T' l1; (try k_lt l1); k_cells Y'; (try simp only [List.cons_append, List.nil_append] at N'); (try dsimp only); (try k_lift B'); (try k_fold)); (refine letE ?_); intro e9; (refine letA ?_); intro A9; (rename Fr _ _ _ _ => F8); (refine letM F8 ?_); clear F8; intro m9 F9
  k_steps
  (rename News _ _ _ _ => kN)
  (simp only [List.push_toArray] at kN)
  refine' rowsEnd (top := [(_, tupO [.str (Str.ofString (sname true)) _, .ref _, .int _ _]), (_, tupO [.ref _, .ref _]), (_, tupO [.int 3 _, .int _ _]), (_, tupO [.int 5 _, .int _ _])]) hret ?kF kN ?kB ?kL ?kC ?kR ?k2 ?kM ?kI ?kS rfl
  case kF => assumption
  case kB => k_mem
  case kL => k_mem
  case kC => k_mem
  case kS => assumption
  case kR => (intro p hp; simp only [List.mem_cons, hp, or_true])
  case k2 => repeat' (first | exact List.forall_mem_nil _ | (refine List.forall_mem_cons.mpr ⟨⟨by k_mem, ⟨by k_ne, by k_ne, by k_ne⟩, by k_all⟩, ?_⟩))
  case kM => repeat' (first | exact Ext3.nil | (refine' Ext3.step ?_ ?y ?z ?u ?v1 ?v2 ?v3; (case y => assumption); (case z => assumption); (case u => assumption); (case v1 => k_mem); (case v2 => k_mem); (case v3 => k_mem)))
  case kI => exact bin1 hbs (fun p hp => List.mem_append_right _ (tail_mem (by assumption) (tail_mem (by assumption) (tail_mem (by assumption) hp)))) (.tb2 (.head _) (.tail _ (.head _)) (.tail _ (.tail _ (.head _))) .str (.tail _ (.tail _ (.tail _ (.head _)))) .str)
/-- how many parts with rows of their own -/
def T.inn : T → Nat
  | .cl _ => 0
  | .fail => 0
  | .ch2 a b => a.inn + b.inn + 1
  | .ch3 a b c => a.inn + b.inn + c.inn + 1
  | .sw a b c d => a.inn + b.inn + c.inn + d.inn + 1
  | .tb0 _ d => d.inn + 1
  | .tb1 _ a d => a.inn + d.inn + 1
  | .tb2 _ a b d => a.inn + b.inn + d.inn + 1
def bd : Nat → Nat
  | 0 => 1
  | d + 1 => 4 * bd d + 1
theorem bd_pos (d : Nat) : 1 ≤ bd d := by cases d <;> simp [bd]
theorem inn_le_cnt (x : T) : x.inn ≤ x.cnt := by
  induction x with
  | cl => exact Nat.zero_le _
  | fail => exact Nat.zero_le _
  | ch2 a b ia ib => exact Nat.succ_le_succ (Nat.add_le_add ia ib)
  | ch3 a b c ia ib ic => exact Nat.succ_le_succ (Nat.add_le_add (Nat.add_le_add ia ib) ic)
  | sw a b c d ia ib ic id => exact Nat.succ_le_succ (Nat.add_le_add (Nat.add_le_add (Nat.add_le_add ia ib) ic) id)
  | tb0 _ d id => exact Nat.succ_le_succ id
  | tb1 _ a d ia id => exact Nat.succ_le_succ (Nat.add_le_add ia id)
  | tb2 _ a b d ia ib id => exact Nat.succ_le_succ (Nat.add_le_add (Nat.add_le_add ia ib) id)
theorem bd1 {a m : Nat} (h : a ≤ m) : a + 1 ≤ 4 * m + 1 := by omega
theorem bd2 {a b m : Nat} (h : a ≤ m) (k : b ≤ m) : a + b + 1 ≤ 4 * m + 1 := by omega
theorem bd3 {a b c m : Nat} (h : a ≤ m) (k : b ≤ m) (l : c ≤ m) : a + b + c + 1 ≤ 4 * m + 1 := by omega
theorem bd4 {a b c d m : Nat} (h : a ≤ m) (k : b ≤ m) (l : c ≤ m) (n : d ≤ m) : a + b + c + d + 1 ≤ 4 * m + 1 := by omega
theorem wf_cnt {x : T} : ∀ {d : Nat} {w : Wh}, Wf d w x → x.cnt ≤ bd d := by
  induction x with
  | cl n => intro d w _; exact bd_pos d
  | fail => intro d w _; exact bd_pos d
  | ch2 a b ia ib =>
    intro d w h
    cases d with
    | zero => exact h.elim
    | succ d => exact bd2 (ia h.1) (ib h.2)
  | ch3 a b c ia ib ic =>
    intro d w h
    cases d with
    | zero => exact h.elim
    | succ d => exact bd3 (ia h.1) (ib h.2.1) (ic h.2.2)
  | sw a b c e ia ib ic ie =>
    intro d w h
    cases d with
    | zero => exact h.elim
    | succ d => exact bd4 (ia h.2.1) (ib h.2.2.1) (ic h.2.2.2.1) (ie h.2.2.2.2)
  | tb0 s a ia =>
    intro d w h
    cases d with
    | zero => exact h.elim
    | succ d => exact bd1 (ia h.2)
  | tb1 s a b ia ib =>
    intro d w h
    cases d with
    | zero => exact h.elim
    | succ d => exact bd2 (ia h.2.1) (ib h.2.2)
  | tb2 s a b c ia ib ic =>
    intro d w h
    cases d with
    | zero => exact h.elim
    | succ d => exact bd3 (ia h.2.1) (ib h.2.2.1) (ic h.2.2.2)
def wt : List (Int × T) → Nat
  | [] => 0
  | p :: r => p.2.inn + wt r
theorem wt_append (a b : List (Int × T)) : wt (a ++ b) = wt a + wt b := by
  induction a with
  | nil => simp [wt]
  | cons p r ih => simp only [List.cons_append, wt, ih]; omega
/-- what a label adds to what waits -/
def newT (x : T) (n : Int) : List (Int × T) :=
  match x with
  | .cl _ => []
  | .fail => []
  | t => [(n + 1, t)]
theorem labT_ls (x : T) (ls : List (Int × T)) (n : Int) : (labT x ls n).2.1 = ls ++ newT x n := by
  cases x <;> simp [labT, newT]
theorem newT_wt (x : T) (n : Int) : wt (newT x n) = x.inn := by
  cases x <;> simp [newT, wt, T.inn]
theorem newT_in (x : T) (n : Int) : ∀ p ∈ newT x n, 0 < p.2.inn := by
  cases x <;> simp [newT, T.inn]
def Adds (ls ls' : List (Int × T)) (k : Nat) : Prop := ∃ new, ls' = ls ++ new ∧ (∀ p ∈ new, 0 < p.2.inn) ∧ wt new = k
theorem Adds.lab (x : T) (ls : List (Int × T)) (n : Int) : Adds ls (labT x ls n).2.1 x.inn := ⟨_, labT_ls x ls n, newT_in x n, newT_wt x n⟩
theorem Adds.trans {a b c : List (Int × T)} {j k : Nat} (h : Adds a b j) (h' : Adds b c k) : Adds a c (j + k) := by
  obtain ⟨n1, rfl, h1, rfl⟩ := h
  obtain ⟨n2, rfl, h2, rfl⟩ := h'
  exact ⟨n1 ++ n2, List.append_assoc .., fun p hp => (List.mem_append.mp hp).elim (h1 p) (h2 p), wt_append ..⟩
theorem rows_new (x : T) (ls : List (Int × T)) (n : Int) (hx : 0 < x.inn) : ∃ new, (rowsT x ls n).2.1 = ls ++ new ∧ (∀ p ∈ new, 0 < p.2.inn) ∧ wt new + 1 = x.inn ∧ (rowsT x ls n).1.length ≤ 3 := by
  suffices h : Adds ls (rowsT x ls n).2.1 (x.inn - 1) ∧ (rowsT x ls n).1.length ≤ 3 by
    obtain ⟨⟨new, h1, h2, h3⟩, h4⟩ := h
    exact ⟨new, h1, h2, by omega, h4⟩
  cases x with
  | cl k => exact absurd hx (Nat.lt_irrefl 0)
  | fail => exact absurd hx (Nat.lt_irrefl 0)
  | ch2 a b => exact ⟨(Adds.lab a _ _).trans (Adds.lab b _ _), by simp [rowsT]⟩
  | ch3 a b c => exact ⟨((Adds.lab a _ _).trans (Adds.lab b _ _)).trans (Adds.lab c _ _), by simp [rowsT]⟩
  | sw a b c d => exact ⟨(((Adds.lab a _ _).trans (Adds.lab b _ _)).trans (Adds.lab c _ _)).trans (Adds.lab d _ _), by simp [rowsT]⟩
  | tb0 s d => exact ⟨Adds.lab d _ _, by simp [rowsT]⟩
  | tb1 s a d => exact ⟨(Adds.lab a _ _).trans (Adds.lab d _ _), by simp [rowsT]⟩
  | tb2 s a b d => exact ⟨((Adds.lab a _ _).trans (Adds.lab b _ _)).trans (Adds.lab d _ _), by simp [rowsT]⟩
/-- the block, part by part -/
def blkT : Nat → Nat → List Ins → List (Int × T) → Int → List Ins
  | 0, _, is, _, _ => is
  | f + 1, d, is, ls, n => match ls[d]? with
    | none => is
    | some (k, x) => blkT f (d + 1) (is ++ (.lab k :: (rowsT x ls n).1)) (rowsT x ls n).2.1 (rowsT x ls n).2.2
def tailI : List Ins := [.lab 0, .pro, .lab 1, .pro, .lab 2, .pro, .lab 3, .pro, .lab 4, .pro]
/-- the rows of a tree's block -/
def bodyT (x : T) : List Ins := blkT (wt (rowsT x [] 9).2.1) 0 (rowsT x [] 9).1 (rowsT x [] 9).2.1 (rowsT x [] 9).2.2
def blockT (x : T) : List Ins := bodyT x ++ tailI
/-- the state of _law_block's loop -/
structure BS where
  d : Nat
  td : Tok
  bs : List Value
  is : List Ins
  kb : Nat
  vs : List Value
  ls : List (Int × T)
  kl : Nat
  n : Int
  tn : Tok
  kc : Nat
  M : Led
  R' : Led
/-- what holds between its turns -/
structure BInv (bl la c : Addr) (R : Led) (B : List Ins) (z : BS) : Prop where
  hb : BIn z.R' z.bs z.is
  hl : LIn z.R' z.vs z.ls
  hi : ∀ p ∈ z.ls, 0 < p.2.inn
  hM : Ext3 bl la c R z.M z.R'
  h1 : z.is.length + 4 * wt (z.ls.drop z.d) ≤ 700
  h2 : z.d + wt (z.ls.drop z.d) ≤ 170
  h3 : z.d ≤ z.ls.length
  hB : blkT (wt (z.ls.drop z.d)) z.d z.is z.ls z.n = B
theorem wt_len {l : List (Int × T)} (h : ∀ p ∈ l, 0 < p.2.inn) : l.length ≤ wt l := by
  induction l with
  | nil => exact Nat.le_refl _
  | cons p r ih =>
    have h1 := h p (.head _)
    have h2 := ih fun q hq => h q (.tail _ hq)
    simp only [List.length_cons, wt]
    omega
section
variable {bl la c : Addr} {R : Led} {B : List Ins} {z : BS}
theorem BInv.vlen (h : BInv bl la c R B z) : z.vs.length = z.ls.length := h.hl.length
theorem BInv.vle (h : BInv bl la c R B z) : z.vs.length ≤ 170 := by
  have h1 := wt_len (l := z.ls.drop z.d) fun p hp => h.hi p (List.mem_of_mem_drop hp)
  have h2 := h.h2
  have h3 := h.h3
  rw [List.length_drop] at h1
  rw [h.vlen]
  omega
theorem BInv.ble (h : BInv bl la c R B z) : z.bs.length ≤ 700 := by
  have h1 := h.h1
  rw [h.hb.length]
  omega
theorem drop_wt {ls : List (Int × T)} {d : Nat} {k : Int} {x : T} (e : ls[d]? = some (k, x)) : wt (ls.drop d) = x.inn + wt (ls.drop (d + 1)) := by
  obtain ⟨h, e⟩ := List.getElem?_eq_some_iff.mp e
  rw [List.drop_eq_getElem_cons h, e, wt]
theorem BInv.get (h : BInv bl la c R B z) (hd : (z.d : Int) < z.vs.length) : ∃ k x p t tv, z.ls[z.d]? = some (k, x) ∧ z.vs[z.d]? = some (Value.ref p) ∧ (p, tupO [.int k t, tv]) ∈ z.R' ∧ TIn z.R' tv x ∧ 0 < x.inn ∧ 0 < wt (z.ls.drop z.d) := by
  have hl := h.vlen
  have hd' : z.d < z.ls.length := by omega
  have e : z.ls[z.d]? = some (z.ls[z.d].1, z.ls[z.d].2) := List.getElem?_eq_getElem hd'
  obtain ⟨p, t, tv, h1, h2, h3⟩ := h.hl.get e
  have h4 := h.hi _ (List.getElem_mem hd')
  exact ⟨_, _, p, t, tv, e, h1, h2, h3, h4, by rw [drop_wt e]; omega⟩
theorem BInv.fin (h : BInv bl la c R B z) (hd : ¬ (z.d : Int) < z.vs.length) : z.is = B := by
  have hl := h.vlen
  have h3 := h.h3
  have e : z.ls.drop z.d = [] := List.drop_eq_nil_of_le (by omega)
  have := h.hB
  rw [e] at this
  exact this
theorem BInv.lt {k : Int} {x : T} (h : BInv bl la c R B z) (e : z.ls[z.d]? = some (k, x)) : wt ((rowsT x z.ls z.n).2.1.drop (z.d + 1)) + 1 = wt (z.ls.drop z.d) := by
  obtain ⟨hd, e'⟩ := List.getElem?_eq_some_iff.mp e
  have hx : 0 < x.inn := by have := h.hi _ (List.getElem_mem hd); rwa [e'] at this
  obtain ⟨new, e1, h1, h2, h3⟩ := rows_new x z.ls z.n hx
  rw [e1, drop_wt e, List.drop_append_of_le_length (by omega), wt_append]
  omega
theorem BInv.step {k : Int} {x : T} {td tn' : Tok} {bs' vs' : List Value} {kb' kl' kc' : Nat} {N R₂ : Led} {D : Addr} {o : Obj} (h : BInv bl la c R B z) (e : z.ls[z.d]? = some (k, x))
    (hR : R₂ = N ++ (D, o) :: z.R') (hb : BIn R₂ bs' (z.is ++ (.lab k :: (rowsT x z.ls z.n).1))) (hl : LIn R₂ vs' (rowsT x z.ls z.n).2.1) (hf : Fresh N ((D, o) :: z.R')) (ho : ∀ p ∈ N, @Ne Nat p.1 bl ∧ @Ne Nat p.1 la ∧ @Ne Nat p.1 c)
    (hD : ∀ p ∈ z.R', @Ne Nat D p.1) (hD3 : @Ne Nat D bl ∧ @Ne Nat D la ∧ @Ne Nat D c) :
    BInv bl la c R B ⟨z.d + 1, td, bs', z.is ++ (.lab k :: (rowsT x z.ls z.n).1), kb', vs', (rowsT x z.ls z.n).2.1, kl', (rowsT x z.ls z.n).2.2, tn', kc', N ++ ((D, o) :: z.M), R₂⟩ := by
  obtain ⟨hd, e'⟩ := List.getElem?_eq_some_iff.mp e
  have hx : 0 < x.inn := by have := h.hi _ (List.getElem_mem hd); rwa [e'] at this
  obtain ⟨new, e1, h1, h2, h3⟩ := rows_new x z.ls z.n hx
  have e2 := h.lt e
  have g1 := h.h1
  have g2 := h.h2
  refine ⟨hb, hl, ?_, ⟨?_, ?_, ?_⟩, ?_, ?_, ?_, ?_⟩
  · intro p hp
    rw [show (BS.ls _) = z.ls ++ new from e1] at hp
    rcases List.mem_append.mp hp with hp | hp
    · exact h.hi p hp
    · exact h1 p hp
  · rw [hR, h.hM.eq]; simp
  · intro p hp q hq
    have hq' : q ∈ z.R' := by rw [h.hM.eq]; exact List.mem_append_right _ hq
    rcases List.mem_append.mp hp with hp | hp
    · exact hf p hp q (.tail _ hq')
    · rcases List.mem_cons.mp hp with rfl | hp
      · exact hD q hq'
      · exact h.hM.fresh p hp q hq
  · intro p hp
    rcases List.mem_append.mp hp with hp | hp
    · exact ho p hp
    · rcases List.mem_cons.mp hp with rfl | hp
      · exact hD3
      · exact h.hM.off p hp
  · show (z.is ++ (.lab k :: (rowsT x z.ls z.n).1)).length + 4 * wt ((rowsT x z.ls z.n).2.1.drop (z.d + 1)) ≤ 700
    simp only [List.length_append, List.length_cons]
    omega
  · show z.d + 1 + wt ((rowsT x z.ls z.n).2.1.drop (z.d + 1)) ≤ 170
    omega
  · show z.d + 1 ≤ (rowsT x z.ls z.n).2.1.length
    rw [e1, List.length_append]
    omega
  · show blkT (wt ((rowsT x z.ls z.n).2.1.drop (z.d + 1))) (z.d + 1) _ _ _ = B
    have := h.hB
    rw [← e2] at this
    simp only [blkT, e] at this
    exact this
end
theorem rows_all (w : World) (mean : ExcName → Option Value) (mg mb : Str → Option Value) (bl la c : Addr) (n : Int) (tn : Tok) (bs : List Value) (is : List Ins) (vs : List Value) (ls : List (Int × T)) (kb kl kc : Nat) (tv : Value) (x : T) (R : Led)
    (hi : 0 < x.inn) (hbs : BIn R bs is) (hls : LIn R vs ls) (hx : TIn R tv x) (hbl : @Ne Nat bl la) (hbc : @Ne Nat bl c) (hlc : @Ne Nat la c) (h1 : ∀ p ∈ R, p.1 ≠ bl) (h2 : ∀ p ∈ R, p.1 ≠ la) (h3 : ∀ p ∈ R, p.1 ≠ c) (hb1 : bs.length ≤ 1000) (hl1 : vs.length ≤ 990) :
    Ctr w mean mg mb 122 4 40 ((bl, listOf bs.toArray kb) :: (la, listOf vs.toArray kl) :: (c, cnt1 n tn kc) :: R) [tv, .ref bl, .ref la, .ref c] (RowsPost bl la c n is ls x R) := by
  cases x with
  | cl k => exact absurd hi (Nat.lt_irrefl 0)
  | fail => exact absurd hi (Nat.lt_irrefl 0)
  | ch2 a b => exact rows_ch2 w mean mg mb bl la c n tn bs is vs ls kb kl kc tv a b R hbs hls hx hbl hbc hlc h1 h2 h3 hb1 hl1
  | ch3 a b d => exact rows_ch3 w mean mg mb bl la c n tn bs is vs ls kb kl kc tv a b d R hbs hls hx hbl hbc hlc h1 h2 h3 hb1 hl1
  | sw a b d e => exact rows_sw w mean mg mb bl la c n tn bs is vs ls kb kl kc tv a b d e R hbs hls hx hbl hbc hlc h1 h2 h3 hb1 hl1
  | tb0 s a =>
    cases s
    · exact rows_tb0f w mean mg mb bl la c n tn bs is vs ls kb kl kc tv a R hbs hls hx hbl hbc hlc h1 h2 h3 hb1 hl1
    · exact rows_tb0t w mean mg mb bl la c n tn bs is vs ls kb kl kc tv a R hbs hls hx hbl hbc hlc h1 h2 h3 hb1 hl1
  | tb1 s a b =>
    cases s
    · exact rows_tb1f w mean mg mb bl la c n tn bs is vs ls kb kl kc tv a b R hbs hls hx hbl hbc hlc h1 h2 h3 hb1 hl1
    · exact rows_tb1t w mean mg mb bl la c n tn bs is vs ls kb kl kc tv a b R hbs hls hx hbl hbc hlc h1 h2 h3 hb1 hl1
  | tb2 s a b d =>
    cases s
    · exact rows_tb2f w mean mg mb bl la c n tn bs is vs ls kb kl kc tv a b d R hbs hls hx hbl hbc hlc h1 h2 h3 hb1 hl1
    · exact rows_tb2t w mean mg mb bl la c n tn bs is vs ls kb kl kc tv a b d R hbs hls hx hbl hbc hlc h1 h2 h3 hb1 hl1
section
variable {w : World} {mean : ExcName → Option Value} {mg mb : Str → Option Value}
theorem rowsUse {bl la c : Addr} {n : Int} {tn : Tok} {bs vs : List Value} {is : List Ins} {ls : List (Int × T)} {kb kl kc : Nat} {v : Value} {x : T} {R all : Led} {dp un : Nat} {gd : Option (List Code)} {cn : Str} {cs : Scope} {a : Addr} {ccd : Value} {cl : List (Str × Addr)} {outer : List Env} {A₀ : Around} {base h₀ : Heap} {L : Addr} {m : Str → Option Value} {s : Shared}
    {Q E : Value → Shared → Prop} (hi : 0 < x.inn) (hbs : BIn R bs is) (hls : LIn R vs ls) (hx : TIn R v x) (hbl : @Ne Nat bl la) (hbc : @Ne Nat bl c) (hlc : @Ne Nat la c) (h1 : ∀ p ∈ R, p.1 ≠ bl) (h2 : ∀ p ∈ R, p.1 ≠ la) (h3 : ∀ p ∈ R, p.1 ≠ c) (hb1 : bs.length ≤ 1000) (hl1 : vs.length ≤ 990)
    (mb1 : (bl, listOf bs.toArray kb) ∈ all) (ml1 : (la, listOf vs.toArray kl) ∈ all) (mc1 : (c, cnt1 n tn kc) ∈ all) (mr1 : ∀ p ∈ R, p ∈ all)
    (B : Below A₀ base outer h₀) (F : Fr h₀ L s.heap m) (X : (Mine.hd.heap_39 w.params).In h₀) (N : News h₀ L s.heap all)
    (T : Top Mine.hd.view_39 (looseW Mine.hd.view_39 [Str.ofString "LinkFault"]) mean mg mb h₀) (hk : cs.kind = .function) (hd : dp + 4 < recursionLimit) (hu : un + 40 < cLine)
    (ret : ∀ bs' kb' vs' kl' tn' kc' N R' h' tk', R' = N ++ R → Fr h₀ L h' m → News h₀ L h' ((bl, listOf (List.toArray bs') kb') :: (la, listOf (List.toArray vs') kl') :: (c, cnt1 (rowsT x ls n).2.2 tn' kc') :: R') →
      BIn R' bs' (is ++ (rowsT x ls n).1) → LIn R' vs' (rowsT x ls n).2.1 → Fresh N R → (∀ p ∈ N, @Ne Nat p.1 bl ∧ @Ne Nat p.1 la ∧ @Ne Nat p.1 c) → Q .none { s with heap := h', toks := tk' }) :
    wpAny (model Mine.pw w) (ktrTop dp un gd cn cs L a ccd cl outer) (call (.ref 122) [v, .ref bl, .ref la, .ref c]) Q E s := by
  refine Ctr.use (rows_all w mean mg mb bl la c n tn bs is vs ls kb kl kc v x R hi hbs hls hx hbl hbc hlc h1 h2 h3 hb1 hl1) B F X (newsSub N fun p hp => by
    rcases List.mem_cons.mp hp with rfl | hp
    · exact mb1
    · rcases List.mem_cons.mp hp with rfl | hp
      · exact ml1
      · rcases List.mem_cons.mp hp with rfl | hp
        · exact mc1
        · exact mr1 p hp) T hk hd hu ?_
  rintro r news' h' tk' F' N' ⟨bs', kb', vs', kl', tn', kc', N₁, rfl, rfl, hb', hl', hf, ho⟩
  exact ret bs' kb' vs' kl' tn' kc' N₁ _ h' tk' rfl F' N' hb' hl' hf ho
end
abbrev bsLed (bl la c : Addr) (z : BS) : Led := (bl, listOf z.bs.toArray z.kb) :: (la, listOf z.vs.toArray z.kl) :: (c, cnt1 z.n z.tn z.kc) :: z.R'
abbrev bsPs (z : BS) : List (Str × Value) := [(Str.ofString "done", .int z.d z.td)]
abbrev bsSt : List Str := [Str.ofString "number", Str.ofString "part"]
abbrev bsMu (z : BS) : Nat := wt (z.ls.drop z.d)
section
variable {prog : Program} {w : World} {A : Around} {E : Value → Shared → Prop} {Q : Flow → Shared → Prop} {s : Shared} {env : Env} {h₀ : Heap}
theorem blkWhile {test : PySem.Expr} {body : List Stmt} {pos : Pos} {m₀ : Str → Option Value} {bl la c : Addr} {n : Int} {td tn : Tok} {bs vs : List Value} {is : List Ins} {ls : List (Int × T)} {kb kl kc : Nat} {R M R' : Led} {B : List Ins}
    (F : Fr h₀ env.locals s.heap m₀) (N : News h₀ env.locals s.heap ((bl, listOf bs.toArray kb) :: (la, listOf vs.toArray kl) :: (c, cnt1 n tn kc) :: R'))
    (hd : m₀ (Str.ofString "done") = some (.int 0 td)) (hp : BInv bl la c R B ⟨0, td, bs, is, kb, vs, ls, kl, n, tn, kc, M, R'⟩)
    (turn : ∀ (d : Nat) (td : Tok) (bs : List Value) (is : List Ins) (kb : Nat) (vs : List Value) (ls : List (Int × T)) (kl : Nat) (n : Int) (tn : Tok) (kc : Nat) (M R' : Led) (u : Str → Option Value) (h : Heap) (tk : Nat), BInv bl la c R B ⟨d, td, bs, is, kb, vs, ls, kl, n, tn, kc, M, R'⟩ →
      Fr h₀ env.locals h (kstB (fun z => if bsSt.contains z then u z else m₀ z) [(Str.ofString "done", .int (d : Int) td)]) →
      News h₀ env.locals h ((bl, listOf bs.toArray kb) :: (la, listOf vs.toArray kl) :: (c, cnt1 n tn kc) :: R') →
      wpAny (model prog w) A (isTrue test env (eval test env)) (fun b s₂ =>
        if b = true then wpAny (model prog w) A (execs body env) (KswPost h₀ env.locals s (bsLed bl la c) bsPs (fun _ => True) bsSt m₀ (BInv bl la c R B) bsMu Q ⟨d, td, bs, is, kb, vs, ls, kl, n, tn, kc, M, R'⟩) E s₂ else Q .next s₂) E { s with heap := h, toks := tk })
    (hE : PassesOwn (model prog w) A env E := by passes_own) :
    wpAny (model prog w) A (exec (.While test body [] pos) env) Q E s :=
  ksw_while (bsLed bl la c) bsPs (fun _ => True) bsSt (BInv bl la c R B) bsMu ⟨0, td, bs, is, kb, vs, ls, kl, n, tn, kc, M, R'⟩ F N trivial
    (fun p hp => by rw [List.mem_singleton.mp hp]; exact hd) hp
    (fun ⟨d, td, bs, is, kb, vs, ls, kl, n, tn, kc, M, R'⟩ u h tk _ hI F' N' => turn d td bs is kb vs ls kl n tn kc M R' u h tk hI F' N') hE
end
theorem BInv.offB {bl la c : Addr} {R : Led} {B : List Ins} {z : BS} (h : BInv bl la c R B z) (hR : ∀ p ∈ R, p.1 ≠ bl) : ∀ p ∈ z.R', p.1 ≠ bl := tail_ne h.hM.eq (fun p hp => (h.hM.off p hp).1) hR
theorem BInv.offL {bl la c : Addr} {R : Led} {B : List Ins} {z : BS} (h : BInv bl la c R B z) (hR : ∀ p ∈ R, p.1 ≠ la) : ∀ p ∈ z.R', p.1 ≠ la := tail_ne h.hM.eq (fun p hp => (h.hM.off p hp).2.1) hR
theorem BInv.offC {bl la c : Addr} {R : Led} {B : List Ins} {z : BS} (h : BInv bl la c R B z) (hR : ∀ p ∈ R, p.1 ≠ c) : ∀ p ∈ z.R', p.1 ≠ c := tail_ne h.hM.eq (fun p hp => (h.hM.off p hp).2.2) hR
theorem BInv.start {bl la c : Addr} {x : T} {R N1 R1 : Led} {td tn1 : Tok} {bs1 vs1 : List Value} {kb1 kl1 kc1 : Nat} (hi : 0 < x.inn) (hc : x.inn ≤ 85) (e1 : R1 = N1 ++ R) (hb1 : BIn R1 bs1 ([] ++ (rowsT x [] 9).1)) (hl1 : LIn R1 vs1 (rowsT x [] 9).2.1)
    (hf1 : Fresh N1 R) (ho1 : ∀ p ∈ N1, @Ne Nat p.1 bl ∧ @Ne Nat p.1 la ∧ @Ne Nat p.1 c) : BInv bl la c R (bodyT x) ⟨0, td, bs1, (rowsT x [] 9).1, kb1, vs1, (rowsT x [] 9).2.1, kl1, (rowsT x [] 9).2.2, tn1, kc1, N1, R1⟩ := by
  obtain ⟨new, e, h1, h2, h3⟩ := rows_new x [] 9 hi
  have e' : (rowsT x [] 9).2.1 = new := e
  refine ⟨hb1, hl1, ?_, ⟨e1, hf1, ho1⟩, ?_, ?_, Nat.zero_le _, rfl⟩
  · intro p hp
    exact h1 p (e' ▸ hp)
  · show (rowsT x [] 9).1.length + 4 * wt (rowsT x [] 9).2.1 ≤ 700
    rw [e']
    omega
  · show 0 + wt (rowsT x [] 9).2.1 ≤ 170
    rw [e']
    omega
section
variable {h₀ : Heap} {L : Addr} {s : Shared}
theorem blkTurn {m₀ m' : Str → Option Value} {bl la c : Addr} {d : Nat} {n : Int} {td td' tn tn' : Tok} {bs vs bs' vs' : List Value} {is : List Ins} {ls : List (Int × T)} {kb kl kc kb' kl' kc' : Nat} {R M R' N₁ R₂ : Led} {B : List Ins} {h' : Heap} {tk : Nat} {D : Addr} {o : Obj} {k : Int} {x : T} {all : Led} {j : Int}
    (F : Fr h₀ L h' m') (N : News h₀ L h' all) (hI : BInv bl la c R B ⟨d, td, bs, is, kb, vs, ls, kl, n, tn, kc, M, R'⟩) (e : ls[d]? = some (k, x)) (hsub : ∀ p ∈ (bl, listOf (List.toArray bs') kb') :: (la, listOf (List.toArray vs') kl') :: (c, cnt1 (rowsT x ls n).2.2 tn' kc') :: R₂, p ∈ all)
    (hR : R₂ = N₁ ++ (D, o) :: R') (hb : BIn R₂ bs' ((is ++ [.lab k]) ++ (rowsT x ls n).1)) (hl : LIn R₂ vs' (rowsT x ls n).2.1) (hf : Fresh N₁ ((D, o) :: R')) (ho : ∀ p ∈ N₁, @Ne Nat p.1 bl ∧ @Ne Nat p.1 la ∧ @Ne Nat p.1 c)
    (hD : ∀ p ∈ R', p.1 ≠ D) (hD3 : @Ne Nat D bl ∧ @Ne Nat D la ∧ @Ne Nat D c)
    (hj : j = (d : Int) + 1) (hk : m' (Str.ofString "done") = some (.int j td')) (hr : ∀ z, (∀ p ∈ [(Str.ofString "done", Value.int j td')], z ≠ p.1) → [Str.ofString "number", Str.ofString "part"].contains z = false → m' z = m₀ z) :
    KswEnd h₀ L s (bsLed bl la c) bsPs (fun _ => True) bsSt m₀ (BInv bl la c R B) bsMu ⟨d, td, bs, is, kb, vs, ls, kl, n, tn, kc, M, R'⟩ { s with heap := h', toks := tk } := by
  refine ksw_end ⟨d + 1, td', bs', is ++ (.lab k :: (rowsT x ls n).1), kb', vs', (rowsT x ls n).2.1, kl', (rowsT x ls n).2.2, tn', kc', N₁ ++ ((D, o) :: M), R₂⟩ F N hsub trivial ?_ ?_ (hI.step e hR (by rw [List.append_assoc] at hb; exact hb) hl hf ho (fun p hp => Ne.symm (hD p hp)) hD3) ?_
  · intro p hp
    rw [List.mem_singleton.mp hp]
    subst hj
    exact hk
  · intro z hz hs
    subst hj
    exact hr z hz hs
  · have := hI.lt e
    show wt ((rowsT x ls n).2.1.drop (d + 1)) < wt (ls.drop d)
    dsimp only at this
    omega
end
theorem later_get {ls : List (Int × T)} {vs : List Value} {R : Led} {d : Nat} (hl : LIn R vs ls) (hd : (d : Int) < vs.length) : ∃ k x p t tv, ls[d]? = some (k, x) ∧ vs.toArray[d]? = some (Value.ref p) ∧ (p, tupO [.int k t, tv]) ∈ R ∧ TIn R tv x ∧ (k, x) ∈ ls := by
  have h := hl.length
  have hd' : d < ls.length := by omega
  have e : ls[d]? = some (ls[d].1, ls[d].2) := List.getElem?_eq_getElem hd'
  obtain ⟨p, t, tv, h1, h2, h3⟩ := hl.get e
  exact ⟨_, _, p, t, tv, e, by rw [List.getElem?_toArray]; exact h1, h2, h3, List.getElem_mem hd'⟩
def BlockPost (B : List Ins) (R news : Led) (r : Value) : Prop := ∃ l bs k N, r = .ref l ∧ news = N ++ R ∧ (l, listOf (List.toArray bs) k) ∈ N ∧ BIn (N ++ R) bs B ∧ Fresh N R ∧ bs.length ≤ 710
theorem unrSwap2 {h₀ : Heap} {L I : Addr} {it : Obj} {rest : (Str → Option Value) → Led → Prop} {s₁ : Shared} {h' : Heap} {tk : Nat} {m' : Str → Option Value} {x y : Addr × Obj} {r : Led} (F : Fr h₀ L h' m') (N : News h₀ L h' (x :: y :: (I, it) :: r))
    (off : ∀ p ∈ x :: y :: r, p.1 ≠ I) (hr : rest m' (x :: y :: r)) : UnrEnd h₀ L s₁ I it rest { s₁ with heap := h', toks := tk } :=
  UnrEnd.intro F N (x :: y :: r) (fun p hp => by
    rcases List.mem_cons.mp hp with rfl | hp
    · exact .tail _ (.tail _ (.head _))
    · rcases List.mem_cons.mp hp with rfl | hp
      · exact .head _
      · rcases List.mem_cons.mp hp with rfl | hp
        · exact .tail _ (.head _)
        · exact .tail _ (.tail _ (.tail _ hp))) off hr
theorem BIn.snoc {R : Led} {bs is v i} (h : BIn R bs is) (h1 : InsIn R v i) : BIn R (bs ++ [v]) (is ++ [i]) := h.append (.cons h1 .nil)
theorem bin10 {R : Led} {bs is v0 v1 v2 v3 v4 v5 v6 v7 v8 v9} (h : BIn R bs is) (h0 : InsIn R v0 (.lab 0)) (h1 : InsIn R v1 .pro) (h2 : InsIn R v2 (.lab 1)) (h3 : InsIn R v3 .pro) (h4 : InsIn R v4 (.lab 2)) (h5 : InsIn R v5 .pro) (h6 : InsIn R v6 (.lab 3)) (h7 : InsIn R v7 .pro) (h8 : InsIn R v8 (.lab 4)) (h9 : InsIn R v9 .pro) :
    BIn R (bs ++ [v0] ++ [v1] ++ [v2] ++ [v3] ++ [v4] ++ [v5] ++ [v6] ++ [v7] ++ [v8] ++ [v9]) (is ++ tailI) := by
  have := (((((((((h.snoc h0).snoc h1).snoc h2).snoc h3).snoc h4).snoc h5).snoc h6).snoc h7).snoc h8).snoc h9
  have e : is ++ [Ins.lab 0] ++ [Ins.pro] ++ [Ins.lab 1] ++ [Ins.pro] ++ [Ins.lab 2] ++ [Ins.pro] ++ [Ins.lab 3] ++ [Ins.pro] ++ [Ins.lab 4] ++ [Ins.pro] = is ++ tailI := by simp [tailI]
  rwa [e] at this
theorem blkEnd {bl la c : Addr} {B : List Ins} {R R' M top all : Led} {bs' : List Value} {kb' : Nat} {h₀ h' : Heap} {L : Addr} {m : Str → Option Value} {s : Shared} {tk' : Nat} {Q : Value → Shared → Prop}
    (hret : ∀ r news' h' tk', Fr h₀ L h' m → News h₀ L h' news' → BlockPost B R news' r → Q r { s with heap := h', toks := tk' })
    (F : Fr h₀ L h' m) (N : News h₀ L h' all) (hB : (bl, listOf bs'.toArray kb') ∈ all) (hR : ∀ p ∈ R', p ∈ all) (hM : Ext3 bl la c R M R') (hbl : ∀ p ∈ R, p.1 ≠ bl)
    (h2 : ∀ p ∈ top, p ∈ all ∧ ∀ q ∈ R', q.1 ≠ p.1) (hbs : BIn (top ++ R') bs' B) (hz : bs'.length ≤ 710) : Q (.ref bl) { s with heap := h', toks := tk' } := by
  refine hret _ (((bl, listOf bs'.toArray kb') :: (top ++ M)) ++ R) h' tk' F (fun p hp => N p ?_) ⟨bl, bs', kb', _, rfl, rfl, .head _, ?_, ?_, hz⟩
  · rcases List.mem_append.mp hp with hp | hp
    · rcases List.mem_cons.mp hp with rfl | hp
      · exact hB
      · rcases List.mem_append.mp hp with hp | hp
        · exact (h2 p hp).1
        · exact hR p (by rw [hM.eq]; exact List.mem_append_left _ hp)
    · exact hR p (by rw [hM.eq]; exact List.mem_append_right _ hp)
  · refine hbs.mono fun p hp => ?_
    rcases List.mem_append.mp hp with hp | hp
    · exact List.mem_append_left _ (.tail _ (List.mem_append_left _ hp))
    · rw [hM.eq] at hp
      rcases List.mem_append.mp hp with hp | hp
      · exact List.mem_append_left _ (.tail _ (List.mem_append_right _ hp))
      · exact List.mem_append_right _ hp
  · intro p hp q hq
    rcases List.mem_cons.mp hp with rfl | hp
    · exact Ne.symm (hbl q hq)
    · rcases List.mem_append.mp hp with hp | hp
      · exact Ne.symm ((h2 p hp).2 q (by rw [hM.eq]; exact List.mem_append_right _ hq))
      · exact hM.fresh p hp q hq
set_option maxRecDepth 100000 in
set_option maxHeartbeats 8000000 in
theorem law_block (w : World) (mean : ExcName → Option Value) (mg mb : Str → Option Value) (tv : Value) (x : T) (R : Led) (hT : TIn R tv x) (hi : 0 < x.inn) (hc : x.inn ≤ 85) :
    Ctr w mean mg mb 129 6 60 R [tv] (BlockPost (blockT x) R) := by
  k_with_none
  k_with "k_all" => first | with_reducible assumption | (refine' List.forall_mem_cons.mpr ⟨?qa9, ?qb9⟩; (case qa9 => k_ne); (case qb9 => k_all)) | exact allLt_ne (by with_reducible assumption) | exact off1_ne4 (by with_reducible assumption) | exact allLt_ne1 (by with_reducible assumption) | exact allLt_ne2 (by with_reducible assumption) | exact allLt_ne3 (by with_reducible assumption) | exact allLt_ne4 (by with_reducible assumption) | exact allLt_ne5 (by with_reducible assumption) | exact allLt_ne6 (by with_reducible assumption) | exact allLt_ne7 (by with_reducible assumption) | exact allLt_ne8 (by with_reducible assumption) | exact allLt_ne9 (by with_reducible assumption) | exact allLt_ne10 (by with_reducible assumption) | exact allLt_ne11 (by with_reducible assumption) | exact allLt_ne12 (by with_reducible assumption) | exact tail_ne (by with_reducible assumption) (fresh_ne (by with_reducible assumption) (by k_mem)) (by k_all) | fail "k_all"
  k_with "k_updF" => first | (refine' UpT.head ?ua9 ?ub9; (case ub9 => k_all); (case ua9 => k_updF)) | (refine' UpT.tail ?ua9 ?ub9; (case ua9 => k_ne); (case ub9 => k_updF)) | (refine' TailOf.cons ?ua9; (case ua9 => k_updF)) | exact TailOf.nil | fail "updT"
  k_with "k_all" => first | exact fun p hp => Nat.ne_of_lt ((by assumption : ∀ p ∈ _, Prod.fst p < _) p hp) | fail "lt"
  k_with "kaf_pre" => first | (refine' evI ?pe9 ?pN9 ?pm9 ?px9; (case pe9 => kaf_pre); (case pN9 => k_asm); (case pm9 => k_mem); (case px9 => rfl)) | (refine' evL ?pF9 ?pv9 ?pa9 ?pb9 ?pc9; (case pF9 => k_asm); (case pa9 => rfl); (case pb9 => rfl); (case pc9 => rfl); (case pv9 => rfl)) | (refine' evC ?pN9 ?pl9 ?pm9 ?pd9 ?pa9 ?pb9 ?pc9; (case pa9 => rfl); (case pb9 => rfl); (case pc9 => rfl); (case pN9 => k_asm); (case pl9 => rfl); (case pm9 => k_mem); (case pd9 => k_asm)) | (refine' evK ?pF9 ?pX9 ?pT9 ?pe9 ?pa9 ?pb9 ?pc9; (case pF9 => k_asm); (case pX9 => k_asm); (case pT9 => k_asm); (case pa9 => rfl); (case pb9 => rfl); (case pc9 => rfl); (case pe9 => k_is))
  k_with "kaf_suf" => first | exact evl0 | (refine' evlI ?sl9; (case sl9 => kaf_suf)) | (refine' evlS ?sl9; (case sl9 => kaf_suf)) | (refine' evlN ?se9 ?sl9 ?sn9; (case sn9 => rfl); (case se9 => kaf_pre); (case sl9 => kaf_suf)) | (refine' evlE ?se9 ?sl9 ?sn9; (case sn9 => rfl); (case se9 => kaf_pre); (case sl9 => kaf_suf))
  k_with "k_ne" => (refine neN ?_; (try dsimp only); first | with_reducible assumption | exact Ne.symm (by with_reducible assumption) | (refine Nat.ne_of_gt ((?_ : ChainTo _ _ _ _) (by with_reducible assumption)); intro hch; with_reducible (first | exact And.left hch | exact And.left (And.right hch) | exact And.left (And.right (And.right hch)) | exact And.left (And.right (And.right (And.right hch))) | exact And.left (And.right (And.right (And.right (And.right hch)))) | exact And.left (And.right (And.right (And.right (And.right (And.right hch))))) | exact And.left (And.right (And.right (And.right (And.right (And.right (And.right hch)))))) | exact And.left (And.right (And.right (And.right (And.right (And.right (And.right (And.right hch))))))) | exact And.left (And.right (And.right (And.right (And.right (And.right (And.right (And.right (And.right hch)))))))) | exact And.left (And.right (And.right (And.right (And.right (And.right (And.right (And.right (And.right (And.right hch))))))))) | exact And.left (And.right (And.right (And.right (And.right (And.right (And.right (And.right (And.right (And.right (And.right hch)))))))))) | exact And.left (And.right (And.right (And.right (And.right (And.right (And.right (And.right (And.right (And.right (And.right (And.right hch))))))))))) | exact And.left (And.right (And.right (And.right (And.right (And.right (And.right (And.right (And.right (And.right (And.right (And.right (And.right hch)))))))))))) | exact And.left (And.right (And.right (And.right (And.right (And.right (And.right (And.right (And.right (And.right (And.right (And.right (And.right (And.right hch))))))))))))))) | (refine Nat.ne_of_lt ((?_ : ChainTo _ _ _ _) (by with_reducible assumption)); intro hch; with_reducible (first | exact And.left hch | exact And.left (And.right hch) | exact And.left (And.right (And.right hch)) | exact And.left (And.right (And.right (And.right hch))) | exact And.left (And.right (And.right (And.right (And.right hch)))) | exact And.left (And.right (And.right (And.right (And.right (And.right hch))))) | exact And.left (And.right (And.right (And.right (And.right (And.right (And.right hch)))))) | exact And.left (And.right (And.right (And.right (And.right (And.right (And.right (And.right hch))))))) | exact And.left (And.right (And.right (And.right (And.right (And.right (And.right (And.right (And.right hch)))))))) | exact And.left (And.right (And.right (And.right (And.right (And.right (And.right (And.right (And.right (And.right hch))))))))) | exact And.left (And.right (And.right (And.right (And.right (And.right (And.right (And.right (And.right (And.right (And.right hch)))))))))) | exact And.left (And.right (And.right (And.right (And.right (And.right (And.right (And.right (And.right (And.right (And.right (And.right hch))))))))))) | exact And.left (And.right (And.right (And.right (And.right (And.right (And.right (And.right (And.right (And.right (And.right (And.right (And.right hch)))))))))))) | exact And.left (And.right (And.right (And.right (And.right (And.right (And.right (And.right (And.right (And.right (And.right (And.right (And.right (And.right hch))))))))))))))) | exact Nat.ne_of_gt (Nat.lt_succ_of_lt (And.left (by with_reducible assumption))) | exact Nat.ne_of_lt (Nat.lt_succ_of_lt (And.left (by with_reducible assumption))) | exact Nat.ne_of_gt (Nat.lt_succ_of_lt (And.left (And.right (by with_reducible assumption)))) | exact Nat.ne_of_lt (Nat.lt_succ_of_lt (And.left (And.right (by with_reducible assumption)))) | exact Nat.ne_of_gt (Nat.lt_succ_of_lt (And.left (And.right (And.right (by with_reducible assumption))))) | exact Nat.ne_of_lt (Nat.lt_succ_of_lt (And.left (And.right (And.right (by with_reducible assumption))))) | exact Nat.ne_of_gt (Nat.lt_succ_of_lt (Nat.lt_succ_of_lt (And.left (by with_reducible assumption)))) | exact Nat.ne_of_lt (Nat.lt_succ_of_lt (Nat.lt_succ_of_lt (And.left (by with_reducible assumption)))) | exact Nat.ne_of_gt (Nat.lt_succ_of_lt (Nat.lt_succ_of_lt (And.left (And.right (by with_reducible assumption))))) | exact Nat.ne_of_lt (Nat.lt_succ_of_lt (Nat.lt_succ_of_lt (And.left (And.right (by with_reducible assumption))))) | exact Nat.ne_of_gt (Nat.lt_succ_of_lt (Nat.lt_succ_of_lt (And.left (And.right (And.right (by with_reducible assumption)))))) | exact Nat.ne_of_lt (Nat.lt_succ_of_lt (Nat.lt_succ_of_lt (And.left (And.right (And.right (by with_reducible assumption)))))) | exact Nat.ne_of_gt (Nat.lt_succ_of_lt (Nat.lt_succ_of_lt (Nat.lt_succ_of_lt (And.left (by with_reducible assumption))))) | exact Nat.ne_of_lt (Nat.lt_succ_of_lt (Nat.lt_succ_of_lt (Nat.lt_succ_of_lt (And.left (by with_reducible assumption))))) | exact Nat.ne_of_gt (Nat.lt_succ_of_lt (Nat.lt_succ_of_lt (Nat.lt_succ_of_lt (And.left (And.right (by with_reducible assumption)))))) | exact Nat.ne_of_lt (Nat.lt_succ_of_lt (Nat.lt_succ_of_lt (Nat.lt_succ_of_lt (And.left (And.right (by with_reducible assumption)))))) | exact Nat.ne_of_gt (Nat.lt_succ_of_lt (Nat.lt_succ_of_lt (Nat.lt_succ_of_lt (And.left (And.right (And.right (by with_reducible assumption))))))) | exact Nat.ne_of_lt (Nat.lt_succ_of_lt (Nat.lt_succ_of_lt (Nat.lt_succ_of_lt (And.left (And.right (And.right (by with_reducible assumption))))))) | exact Nat.ne_of_gt (Nat.lt_succ_self _) | exact Nat.ne_of_lt (Nat.lt_succ_self _) | exact Nat.ne_of_gt (Nat.lt_succ_of_lt (Nat.lt_succ_self _)) | exact Nat.ne_of_lt (Nat.lt_succ_of_lt (Nat.lt_succ_self _)) | exact ((And.left (And.left (by with_reducible assumption))) : @Ne Nat _ _) | exact Ne.symm ((And.left (And.left (by with_reducible assumption))) : @Ne Nat _ _) | exact ((And.left (And.right (And.left (by with_reducible assumption)))) : @Ne Nat _ _) | exact Ne.symm ((And.left (And.right (And.left (by with_reducible assumption)))) : @Ne Nat _ _) | exact ((And.right (And.right (And.left (by with_reducible assumption)))) : @Ne Nat _ _) | exact Ne.symm ((And.right (And.right (And.left (by with_reducible assumption)))) : @Ne Nat _ _) | exact ((And.left (And.left (And.right (by with_reducible assumption)))) : @Ne Nat _ _) | exact Ne.symm ((And.left (And.left (And.right (by with_reducible assumption)))) : @Ne Nat _ _) | exact ((And.left (And.right (And.left (And.right (by with_reducible assumption))))) : @Ne Nat _ _) | exact Ne.symm ((And.left (And.right (And.left (And.right (by with_reducible assumption))))) : @Ne Nat _ _) | exact ((And.right (And.right (And.left (And.right (by with_reducible assumption))))) : @Ne Nat _ _) | exact Ne.symm ((And.right (And.right (And.left (And.right (by with_reducible assumption))))) : @Ne Nat _ _) | exact ((And.left (And.left (And.right (And.right (by with_reducible assumption))))) : @Ne Nat _ _) | exact Ne.symm ((And.left (And.left (And.right (And.right (by with_reducible assumption))))) : @Ne Nat _ _) | exact ((And.left (And.right (And.left (And.right (And.right (by with_reducible assumption)))))) : @Ne Nat _ _) | exact Ne.symm ((And.left (And.right (And.left (And.right (And.right (by with_reducible assumption)))))) : @Ne Nat _ _) | exact ((And.right (And.right (And.left (And.right (And.right (by with_reducible assumption)))))) : @Ne Nat _ _) | exact Ne.symm ((And.right (And.right (And.left (And.right (And.right (by with_reducible assumption)))))) : @Ne Nat _ _) | exact ((And.left (And.left (And.right (And.right (And.right (by with_reducible assumption)))))) : @Ne Nat _ _) | exact Ne.symm ((And.left (And.left (And.right (And.right (And.right (by with_reducible assumption)))))) : @Ne Nat _ _) | exact ((And.left (And.right (And.left (And.right (And.right (And.right (by with_reducible assumption))))))) : @Ne Nat _ _) | exact Ne.symm ((And.left (And.right (And.left (And.right (And.right (And.right (by with_reducible assumption))))))) : @Ne Nat _ _) | exact ((And.right (And.right (And.left (And.right (And.right (And.right (by with_reducible assumption))))))) : @Ne Nat _ _) | exact Ne.symm ((And.right (And.right (And.left (And.right (And.right (And.right (by with_reducible assumption))))))) : @Ne Nat _ _) | exact ((And.left (And.left (And.right (And.right (And.right (And.right (by with_reducible assumption))))))) : @Ne Nat _ _) | exact Ne.symm ((And.left (And.left (And.right (And.right (And.right (And.right (by with_reducible assumption))))))) : @Ne Nat _ _) | exact ((And.left (And.right (And.left (And.right (And.right (And.right (And.right (by with_reducible assumption)))))))) : @Ne Nat _ _) | exact Ne.symm ((And.left (And.right (And.left (And.right (And.right (And.right (And.right (by with_reducible assumption)))))))) : @Ne Nat _ _) | exact ((And.right (And.right (And.left (And.right (And.right (And.right (And.right (by with_reducible assumption)))))))) : @Ne Nat _ _) | exact Ne.symm ((And.right (And.right (And.left (And.right (And.right (And.right (And.right (by with_reducible assumption)))))))) : @Ne Nat _ _) | exact ((And.left (And.left (And.right (And.right (And.right (And.right (And.right (by with_reducible assumption)))))))) : @Ne Nat _ _) | exact Ne.symm ((And.left (And.left (And.right (And.right (And.right (And.right (And.right (by with_reducible assumption)))))))) : @Ne Nat _ _) | exact ((And.left (And.right (And.left (And.right (And.right (And.right (And.right (And.right (by with_reducible assumption))))))))) : @Ne Nat _ _) | exact Ne.symm ((And.left (And.right (And.left (And.right (And.right (And.right (And.right (And.right (by with_reducible assumption))))))))) : @Ne Nat _ _) | exact ((And.right (And.right (And.left (And.right (And.right (And.right (And.right (And.right (by with_reducible assumption))))))))) : @Ne Nat _ _) | exact Ne.symm ((And.right (And.right (And.left (And.right (And.right (And.right (And.right (And.right (by with_reducible assumption))))))))) : @Ne Nat _ _) | exact ((And.left (And.left (And.right (And.right (And.right (And.right (And.right (And.right (by with_reducible assumption))))))))) : @Ne Nat _ _) | exact Ne.symm ((And.left (And.left (And.right (And.right (And.right (And.right (And.right (And.right (by with_reducible assumption))))))))) : @Ne Nat _ _) | exact ((And.left (And.right (And.left (And.right (And.right (And.right (And.right (And.right (And.right (by with_reducible assumption)))))))))) : @Ne Nat _ _) | exact Ne.symm ((And.left (And.right (And.left (And.right (And.right (And.right (And.right (And.right (And.right (by with_reducible assumption)))))))))) : @Ne Nat _ _) | exact ((And.right (And.right (And.left (And.right (And.right (And.right (And.right (And.right (And.right (by with_reducible assumption)))))))))) : @Ne Nat _ _) | exact Ne.symm ((And.right (And.right (And.left (And.right (And.right (And.right (And.right (And.right (And.right (by with_reducible assumption)))))))))) : @Ne Nat _ _) | omega)
  k_with "ktr_room" => ((try simp only [depth_under_make, depth_under_kw, depth_in1, depth_deeper, depth_caller]); (try dsimp only [ktrTop]); first | exact Nat.lt_of_le_of_lt (Nat.le_add_right _ _) (by with_reducible assumption) | exact roomStep (by with_reducible assumption) (by first | exact Nat.le_refl _ | decide | exact r2 _ | omega) | fail "room")
  k_with "ktr_units" => ((try simp only [units_in1, units_deeper, Around.mark_units, units_caller]); (try dsimp only [ktrTop]); first | exact unitStep (by with_reducible assumption) (by first | exact Nat.le_refl _ | decide | exact u20 _ | exact u40 _ | omega) | fail "units")
  k_with "k_mem" => first | exact tail_mem (by assumption) (by k_mem) | fail "k_mem"
  k_with "k_mem" => assumption
  k_with "k_mem" => first | exact List.mem_cons_of_mem _ (by assumption) | fail "k_mem"
  k_with "size_fits" => (simp only [List.size_toArray, Array.size_push, List.length_append, List.length_cons, List.length_nil, PySem.sizeLine_eq] <;> (first | exact Nat.le_trans (by with_reducible assumption) (by decide) | exact Nat.le_trans (Nat.succ_le_succ (by with_reducible assumption)) (by decide) | exact Nat.le_trans (Nat.succ_le_succ (Nat.succ_le_succ (by with_reducible assumption))) (by decide) | exact Nat.le_trans (Nat.succ_le_succ (Nat.succ_le_succ (Nat.succ_le_succ (by with_reducible assumption)))) (by decide) | exact Nat.le_trans (Nat.succ_le_succ (Nat.succ_le_succ (Nat.succ_le_succ (Nat.succ_le_succ (by with_reducible assumption))))) (by decide) | exact Nat.le_trans (Nat.succ_le_succ (Nat.succ_le_succ (Nat.succ_le_succ (Nat.succ_le_succ (Nat.succ_le_succ (by with_reducible assumption)))))) (by decide) | exact Nat.le_trans (Nat.succ_le_succ (Nat.succ_le_succ (Nat.succ_le_succ (Nat.succ_le_succ (Nat.succ_le_succ (Nat.succ_le_succ (by with_reducible assumption))))))) (by decide) | exact Nat.le_trans (Nat.succ_le_succ (Nat.succ_le_succ (Nat.succ_le_succ (Nat.succ_le_succ (Nat.succ_le_succ (Nat.succ_le_succ (Nat.succ_le_succ (by with_reducible assumption)))))))) (by decide) | exact Nat.le_trans (Nat.succ_le_succ (Nat.succ_le_succ (Nat.succ_le_succ (Nat.succ_le_succ (Nat.succ_le_succ (Nat.succ_le_succ (Nat.succ_le_succ (Nat.succ_le_succ (by with_reducible assumption))))))))) (by decide) | exact Nat.le_trans (Nat.succ_le_succ (Nat.succ_le_succ (Nat.succ_le_succ (Nat.succ_le_succ (Nat.succ_le_succ (Nat.succ_le_succ (Nat.succ_le_succ (Nat.succ_le_succ (Nat.succ_le_succ (by with_reducible assumption)))))))))) (by decide) | exact Nat.le_trans (Nat.succ_le_succ (Nat.succ_le_succ (Nat.succ_le_succ (Nat.succ_le_succ (Nat.succ_le_succ (Nat.succ_le_succ (Nat.succ_le_succ (Nat.succ_le_succ (Nat.succ_le_succ (Nat.succ_le_succ (by with_reducible assumption))))))))))) (by decide) | omega))
  k_with "exec If" => (k_here; k_fold)
  k_with "exec Assign" => (k_here; k_fold)
  k_with "exec Expr" => (k_here; k_fold)
  k_with "exec Return some" => (k_here; k_fold)
  k_with "execs cons" => (k_here; first | k_fold | ((with_reducible refine execsG ?_); intro t9; (try dsimp only)))
  k_with "execs nil" => (k_here; (with_reducible refine wpAny_execs_nil ?_); (try dsimp only))
  k_with "call builtin:len" => (k_here; (with_reducible show wpAny _ _ (call (Value.builtin _) [Value.ref _]) _ _ _); k_dflt (refine' len_list (News.isList ?k1 ?k2) ?k3 ?_; (case k1 => k_asm); (case k2 => k_mem); (case k3 => (simp only [List.size_toArray]; omega)); k_whole); (try simp only [List.size_toArray]))
  k_with "ite" => (k_here; first | (refine ite_pos (by first | omega | (simp only [beq_iff_eq, bne_iff_ne, decide_eq_true_eq]; omega)) ?_) | (refine ite_neg (by first | omega | (simp only [beq_iff_eq, bne_iff_ne, decide_eq_true_eq]; omega)) ?_))
  k_with "exec For Tuple Subscript cons nil" => k_extra "exec For Tuple"
  k_with "subscriptTail" => (k_here; (with_reducible show wpAny _ _ (subscriptTail _ _ (Value.ref _) (Value.int _ _)) _ _ _); (with_unfolding_all refine' litItem ?N ?m ?a ?b ?c ?_ ?d; (case N => k_asm); (case m => k_mem); (case a => decide); (case b => decide); (case c => rfl); (case d => with_unfolding_all rfl); k_whole))
  k_with "call builtin:list.index" => (k_here; (with_reducible show wpAny _ _ (call (Value.builtin _) [Value.ref _, Value.str _ _]) _ _ _); k_dflt (refine' kindIndex ?k0 ?N ?m ?_; (case k0 => with_reducible assumption); (case N => k_asm); (case m => k_mem)); dsimp only [Wh.ixI])
  k_with "exec If" => (k_here; k_dflt (first | ((with_reducible refine' ifT ?xe9 ?xb9 ?_); (case xe9 => kaf_pre); (case xb9 => decide); k_whole) | ((with_reducible refine' ifF ?xe9 ?xb9 ?_); (case xe9 => kaf_pre); (case xb9 => decide); k_whole)))
  k_with "isTrue Compare" => (k_here; k_dflt (first | ((with_reducible refine' isT ?xe9 ?xb9 ?_); (case xe9 => kaf_pre); (case xb9 => decide); k_whole) | ((with_reducible refine' isF ?xe9 ?xb9 ?_); (case xe9 => kaf_pre); (case xb9 => decide); k_whole) | ((with_reducible refine' isI ?xe9 ?_); (case xe9 => kaf_pre); k_whole) | ((with_reducible refine' isIl ?xe9 ?_); (case xe9 => kaf_pre); k_whole) | ((with_reducible refine' isIg ?xe9 ?_); (case xe9 => kaf_pre); k_whole)))
  k_with "eval Subscript" => (k_here; k_dflt ((with_reducible refine' Ev.go ?xe9 ?_); (case xe9 => kaf_pre); k_whole))
  k_with "spliced" => (k_here; k_dflt ((with_reducible refine' EvL.go ?xe9 ?_); (case xe9 => kaf_suf); k_whole); (try dsimp only [List.nil_append, List.cons_append]))
  k_with "eval Call" => (k_here; (with_reducible show wpAny _ _ (eval (Expr.Call (Expr.Name _ _) (_ :: _) [] _) _) _ _ _); k_dflt (refine' evCall ?xF9 ?xX9 ?xT9 ?xe9 ?xk9 ?xl9 ?_ ?xs9 ?xa9 ?xb9 ?xc9; (case xF9 => k_asm); (case xX9 => k_asm); (case xT9 => k_asm); (case xa9 => rfl); (case xb9 => rfl); (case xc9 => rfl); (case xe9 => k_is); (case xk9 => k_is); (case xl9 => kaf_suf); (case xs9 => rfl); k_whole))
  k_with "call ref" => (k_here; (with_reducible show wpAny _ _ (call (Value.ref 122) [tv, _, _, _]) _ _ _); k_dflt (refine' rowsUse (bs := []) (is := []) (vs := []) (ls := []) hi BIn.nil LIn.nil hT ?n1 ?n2 ?n3 ?a1 ?a2 ?a3 ?z1 ?z2 ?mb ?ml ?mc ?mr ?k1 ?k2 ?k3 ?k4 ?k5 ?kK ?kd ?ku ?_; (case k4 => k_asm); (case k1 => k_asm); (case k2 => k_asm); (case k3 => k_asm); (case k5 => k_asm); (case mb => k_mem); (case ml => k_mem); (case mc => k_mem); (case mr => (intro p hp; simp only [List.mem_cons, hp, or_true])); (case n1 => k_ne); (case n2 => k_ne); (case n3 => k_ne); (case a1 => k_all); (case a2 => k_all); (case a3 => k_all); (case z1 => exact Nat.zero_le _); (case z2 => exact Nat.zero_le _); (case kK => first | exact rfl | assumption); (case kd => ktr_room); (case ku => ktr_units)); intro bs1 kb1 vs1 kl1 tn1 kc1 N1 R1 h1 tk1 e1 F9 N9 hb1 hl1 hf1 ho1)
  k_with "exec While Compare cons nil" => (k_here; (rename Fr _ _ _ _ => lF'); (rename News _ _ _ _ => lN'); (with_unfolding_all refine' blkWhile lF' lN' ?hd (BInv.start hi hc e1 hb1 hl1 hf1 ho1) ?_; (case hd => rfl); (clear lF' lN'); intro d td bs is kb vs ls kl n tn kc M R' u h tk hI F' N'; have hbl := hI.ble; have hvl := hI.vle; have oB := hI.offB (by k_all); have oL := hI.offL (by k_all); have oC := hI.offC (by k_all); have hB9 := hI.hb; have hL9 := hI.hl; dsimp only at hbl hvl oB oL oC hB9 hL9))
  k_with "subscriptTail" => (k_here; (try dsimp only); (with_reducible show wpAny _ _ (subscriptTail _ _ (Value.ref _) (Value.int (Nat.cast d) _)) _ _ _); (obtain ⟨k9, x9, p9, t9, tv9, g1, g2, g3, g4, g5⟩ := later_get hI.hl (by assumption)); (dsimp only at g1 g2 g3 g4 g5); (have g6 := hI.hi _ g5); (dsimp only at g6); (with_unfolding_all refine' litItem ?N ?m ?a ?b ?c ?_ ?d; (case N => k_asm); (case m => k_mem); (case a => omega); (case b => omega); (case c => exact g2); (case d => with_unfolding_all rfl); k_whole))
  k_with "call ref" => (k_here; (with_reducible show wpAny _ _ (call (Value.ref 122) [tv9, _, _, _]) _ _ _); (rename News _ _ _ _ => kN); (try simp only [List.push_toArray] at kN); k_dflt (refine' rowsUse g6 (bin1 hB9 (fun p hp => .tail _ hp) (.lab (.head _))) (hL9.mono (fun p hp => .tail _ hp)) (g4.mono (fun p hp => .tail _ hp)) ?n1 ?n2 ?n3 ?a1 ?a2 ?a3 ?z1 ?z2 ?mb ?ml ?mc ?mr ?k1 ?k2 ?k3 kN ?k5 ?kK ?kd ?ku ?_; (case mb => k_mem); (case ml => k_mem); (case mc => k_mem); (case mr => (intro p hp; rcases List.mem_cons.mp hp with rfl | hp; exact .head _; exact .tail _ (.tail _ (.tail _ (.tail _ hp))))); (case k1 => k_asm); (case k2 => k_asm); (case k3 => k_asm); (case k5 => k_asm); (case n1 => k_ne); (case n2 => k_ne); (case n3 => k_ne); (case a1 => k_all); (case a2 => k_all); (case a3 => k_all); (case z1 => (simp only [List.length_append, List.length_cons, List.length_nil]; omega)); (case z2 => omega); (case kK => first | exact rfl | assumption); (case kd => ktr_room); (case ku => ktr_units)); intro bs2 kb2 vs2 kl2 tn2 kc2 N2 R2 h2 tk2 e2 F9 N9 hb2 hl2 hf2 ho2)
  k_with "KswEnd" => (k_here; (rename Fr _ _ _ _ => kF); (rename News _ _ _ _ => kN); (with_unfolding_all refine' blkTurn kF kN hI g1 (fun p hp => hp) e2 hb2 hl2 hf2 ho2 ?hD ⟨?hD1, ?hD2, ?hD3⟩ ?hj ?hk ?hr); (case hj => rfl); (case hk => rfl); (case hr => ksw_same); (case hD => k_all); (case hD1 => k_ne); (case hD2 => k_ne); (case hD3 => k_ne))
  k_with "UnrEnd" => ((rename Fr _ _ _ _ => kF); (rename News _ _ _ _ => kN); k_dflt (refine' unrSwap2 kF kN ?koff ?_; (case koff => k_all)))
  unfold Ctr
  intro dp un gd cn cs a ccd cl outer A₀ base h₀ L m s Q E B F X N T hk hd hu hret
  refine wpAny_call ?_
  k_dflt ktr_enter; (refine letE ?_); intro e9; (refine letA ?_); intro A9; (rename Fr _ _ _ _ => F8); (refine letM F8 ?_); clear F8; intro m9 F9
  k_steps
  · (rename Fr _ _ _ _ => kF); (rename News _ _ _ _ => kN)
    (with_unfolding_all refine' blkTurn kF kN hI g1 (fun p hp => hp) e2 hb2 hl2 hf2 ho2 ?hD ⟨?hD1, ?hD2, ?hD3⟩ ?hj ?hk ?hr)
    case hj => rfl
    case hk => rfl
    case hr => (intro z h2 h3; (simp only [List.forall_mem_cons, List.not_mem_nil, false_implies, implies_true, and_true, ne_eq] at h2); (simp only [List.contains_cons, List.contains_nil, Bool.or_false, Bool.or_eq_false_iff, beq_eq_false_iff_ne, ne_eq] at h3); simp [kstB, h2, h3])
    case hD => k_all
    case hD1 => k_ne
    case hD2 => k_ne
    case hD3 => k_ne
  · (rename News _ _ _ _ => kN)
    (simp only [List.push_toArray] at kN)
    have hfin := hI.fin (by assumption)
    dsimp only at hfin
    subst hfin
    refine' blkEnd (top := [(_, tupO [.str (Str.ofString "label") _, .int (0 + ((0 : Nat) : Int)) _]), (_, tupO [.str (Str.ofString "proceed") _]), (_, tupO [.str (Str.ofString "label") _, .int (0 + ((0 + 1 : Nat) : Int)) _]), (_, tupO [.str (Str.ofString "proceed") _]), (_, tupO [.str (Str.ofString "label") _, .int (0 + ((0 + 1 + 1 : Nat) : Int)) _]), (_, tupO [.str (Str.ofString "proceed") _]), (_, tupO [.str (Str.ofString "label") _, .int (0 + ((0 + 1 + 1 + 1 : Nat) : Int)) _]), (_, tupO [.str (Str.ofString "proceed") _]), (_, tupO [.str (Str.ofString "label") _, .int (0 + ((0 + 1 + 1 + 1 + 1 : Nat) : Int)) _]), (_, tupO [.str (Str.ofString "proceed") _])]) hret ?kF kN ?kB ?kR hI.hM ?kb ?k2 (bin10 (hB9.mono (fun p hp => List.mem_append_right _ hp)) (.lab (.head _)) (.pro (.tail _ (.head _))) (.lab (.tail _ (.tail _ (.head _)))) (.pro (.tail _ (.tail _ (.tail _ (.head _))))) (.lab (.tail _ (.tail _ (.tail _ (.tail _ (.head _)))))) (.pro (.tail _ (.tail _ (.tail _ (.tail _ (.tail _ (.head _))))))) (.lab (.tail _ (.tail _ (.tail _ (.tail _ (.tail _ (.tail _ (.head _)))))))) (.pro (.tail _ (.tail _ (.tail _ (.tail _ (.tail _ (.tail _ (.tail _ (.head _))))))))) (.lab (.tail _ (.tail _ (.tail _ (.tail _ (.tail _ (.tail _ (.tail _ (.tail _ (.head _)))))))))) (.pro (.tail _ (.tail _ (.tail _ (.tail _ (.tail _ (.tail _ (.tail _ (.tail _ (.tail _ (.head _)))))))))))) ?kz
    case kF => assumption
    case kB => k_mem
    case kR => (intro p hp; simp only [List.mem_cons, hp, or_true])
    case kb => k_all
    case k2 => repeat' (first | exact List.forall_mem_nil _ | (refine List.forall_mem_cons.mpr ⟨⟨by k_mem, by k_all⟩, ?_⟩))
    case kz => (simp only [List.length_append, List.length_cons, List.length_nil]; omega)
/-- the walk halts here -/
def Halt (P : Prop) : Prop := P
theorem halt {P : Prop} (h : Halt P) : P := h
def placesFrom : Nat → List Ins → List (Int × Int) → List (Int × Int)
  | _, [], c => c
  | i, .lab n :: r, c => placesFrom (i + 1) r (kdfPut c n i)
  | i, _ :: r, c => placesFrom (i + 1) r c
def placesT (is : List Ins) : List (Int × Int) := placesFrom 0 is []
/-- a row's part in it -/
def putI (c : List (Int × Int)) (i : Nat) : Ins → List (Int × Int)
  | .lab n => kdfPut c n i
  | _ => c
theorem placesFrom_cons (i : Nat) (x : Ins) (r : List Ins) (c : List (Int × Int)) : placesFrom i (x :: r) c = placesFrom (i + 1) r (putI c i x) := by
  cases x <;> rfl
theorem placesFrom_snoc (is : List Ins) (x : Ins) : ∀ (i : Nat) (c : List (Int × Int)), placesFrom i (is ++ [x]) c = putI (placesFrom i is c) (i + is.length) x := by
  induction is with
  | nil => intro i c; rw [List.nil_append, placesFrom_cons]; rfl
  | cons y r ih => intro i c; rw [List.cons_append, placesFrom_cons, placesFrom_cons, ih, List.length_cons]; congr 1; omega
theorem placesT_snoc (is : List Ins) (x : Ins) : placesT (is ++ [x]) = putI (placesT is) is.length x := by
  unfold placesT; rw [placesFrom_snoc, Nat.zero_add]
theorem placesT_take {is : List Ins} {i : Nat} {x : Ins} (h : is[i]? = some x) : placesT (is.take (i + 1)) = putI (placesT (is.take i)) i x := by
  obtain ⟨hi, e⟩ := List.getElem?_eq_some_iff.mp h
  rw [List.take_add_one, h]
  show placesT (is.take i ++ [x]) = _
  rw [placesT_snoc, List.length_take, Nat.min_eq_left (Nat.le_of_lt hi)]
theorem putI_len (c : List (Int × Int)) (i : Nat) (x : Ins) : (putI c i x).length ≤ c.length + 1 := by
  cases x
  case lab n => exact kdfPut_len c n i
  all_goals exact Nat.le_succ _
theorem placesT_len (is : List Ins) : ∀ i, i ≤ is.length → (placesT (is.take i)).length ≤ i := by
  intro i
  induction i with
  | zero => intro _; exact Nat.zero_le _
  | succ i ih =>
    intro h
    have e : is[i]? = some is[i] := List.getElem?_eq_getElem (by omega)
    rw [placesT_take e]
    have h1 := putI_len (placesT (is.take i)) i is[i]
    have h2 := ih (by omega)
    omega
theorem plc_size (n : Nat) : Builtin.Range.rangeSize 0 (n : Int) 1 = (n : Int) := by
  unfold Builtin.Range.rangeSize
  rw [if_pos (by decide)]
  split <;> omega
theorem plc_small {n : Nat} (h : n ≤ 2000) : Builtin.Range.small 0 (n : Int) 1 = true := small_one (by decide) (by decide) (by omega) (by omega)
structure PS where
  o : Obj
  kvs : List (Int × Value)
section
variable {prog : Program} {w : World} {A : Around} {E : Value → Shared → Prop} {s : Shared} {env : Env} {h₀ : Heap} {x : Str} {body : List Stmt} {Q : Flow → Shared → Prop}
def DictIs (prog : Program) (w : World) (o : Obj) (kvs : List (Int × Value)) (c : List (Int × Int)) : Prop := o.IsDictOf (PySem.intKind prog w) kvs ∧ PyProof.V.FlatPairs PyData.int kvs (kdfD c)
def PlcEnd (prog : Program) (w : World) (h₀ : Heap) (L : Addr) (x : Str) (m₀ : Str → Option Value) (D : Addr) (Rw : Led) (c : List (Int × Int)) (s₁ s₂ : Shared) : Prop :=
  ∃ h' tk m' o' kvs', s₂ = { s₁ with heap := h', toks := tk } ∧ Fr h₀ L h' m' ∧ News h₀ L h' ((D, o') :: Rw) ∧ (∀ z, z ≠ x → m' z = m₀ z) ∧ DictIs prog w o' kvs' c
def PlcPost (prog : Program) (w : World) (h₀ : Heap) (L : Addr) (x : Str) (m₀ : Str → Option Value) (D : Addr) (Rw : Led) (c : List (Int × Int)) (s₁ : Shared) (Q : Flow → Shared → Prop) (f : Flow) (s₂ : Shared) : Prop :=
  match f with
  | .ret v => Q (.ret v) s₂
  | .brk => Q .next s₂
  | _ => PlcEnd prog w h₀ L x m₀ D Rw c s₁ s₂
theorem plcEnd {L : Addr} {m₀ m' : Str → Option Value} {D : Addr} {Rw all : Led} {c : List (Int × Int)} {s₁ : Shared} {h' : Heap} {tk : Nat} {o' : Obj} {kvs' : List (Int × Value)} (F : Fr h₀ L h' m') (N : News h₀ L h' all) (hs : ∀ p ∈ (D, o') :: Rw, p ∈ all) (hd : o'.IsDictOf (PySem.intKind prog w) kvs') (hf : PyProof.V.FlatPairs PyData.int kvs' (kdfD c)) (hm : ∀ z, z ≠ x → m' z = m₀ z) :
    PlcEnd prog w h₀ L x m₀ D Rw c s₁ { s₁ with heap := h', toks := tk } := ⟨h', tk, m', o', kvs', rfl, F, newsSub N hs, hm, hd, hf⟩
theorem plcLoop {r D : Addr} {b₀ : Int} {t₀ u₀ v₀ : Tok} {m₀ : Str → Option Value} {R : Led} {is : List Ins} {o₀ : Obj}
    (hh : A.handled = none) (hr : IsRange s.heap r 0 b₀ 1 t₀ u₀ v₀) (hb : b₀ = (is.length : Int)) (hlen : is.length ≤ 2000) (F : Fr h₀ env.locals s.heap m₀) (N : News h₀ env.locals s.heap ((D, o₀) :: R)) (hoff : ∀ p ∈ R, p.1 ≠ D) (hd : DictIs prog w o₀ [] [])
    (turn : ∀ (i : Nat) (z : Ins) (k : Int) t o kvs h tk Rw, is[i]? = some z → k = (i : Int) → (∀ p ∈ R, p ∈ Rw) → (∀ p ∈ Rw, p.1 ≠ D) → DictIs prog w o kvs (placesT (is.take i)) → (placesT (is.take i)).length ≤ 2000 →
      Fr h₀ env.locals h (fun y => if y = x then some (.int k t) else m₀ y) → News h₀ env.locals h ((D, o) :: Rw) →
      wpAny (model prog w) A (execs body env) (PlcPost prog w h₀ env.locals x m₀ D Rw (putI (placesT (is.take i)) i z) { s with heap := h, toks := tk } Q) E { s with heap := h, toks := tk })
    (done : ∀ (u : Str → Option Value) o kvs h tk, DictIs prog w o kvs (placesT is) → Fr h₀ env.locals h (fun y => if y = x then u y else m₀ y) → News h₀ env.locals h ((D, o) :: R) → Q .next { s with heap := h, toks := tk }) :
    wpAny (model prog w) A (pyIter (.ref r)) (fun it s₂ => LoopAtV prog w A h₀ env x body Q E it s₂) E s := by
  subst hb
  refine kst_range (n := is.length) (σ := PS) (fun z => (D, z.o) :: R) (fun _ => []) (fun _ => True) [] (fun pre z => DictIs prog w z.o z.kvs (placesT (is.take pre.length))) ⟨o₀, []⟩ hh hr ?_ ?_ F N trivial (fun _ h => nomatch h) hd ?_ ?_
  · exact plc_small hlen
  · exact plc_size _
  · rintro ⟨o, kvs⟩ pre k t u h tk own hk hpre hown _ hD F₁ N₁
    have hpre' : pre.length < is.length := hpre
    have hz : is[pre.length]? = some is[pre.length] := List.getElem?_eq_getElem hpre'
    have em : (fun y => if y = x then some (Value.int k t) else kstB (fun z => if ([] : List Str).contains z then u z else m₀ z) [] y) = fun y => if y = x then some (Value.int k t) else m₀ y := by
      funext y; rfl
    rw [em] at F₁
    have hoffw : ∀ p ∈ R ++ own, p.1 ≠ D := fun p hp => by
      rcases List.mem_append.mp hp with hp | hp
      · exact hoff p hp
      · exact hown p hp D (.head _)
    have hl := placesT_len is pre.length (Nat.le_of_lt hpre')
    refine wpAny_mono (turn pre.length is[pre.length] k t o kvs h tk (R ++ own) hz (by rw [hk]; omega) (fun p hp => List.mem_append_left _ hp) hoffw hD (by omega) F₁ N₁) (fun f s₂ p => ?_) fun _ _ e => e
    have up : PlcEnd prog w h₀ env.locals x m₀ D (R ++ own) (putI (placesT (is.take pre.length)) pre.length is[pre.length]) { s with heap := h, toks := tk } s₂ →
        InvEndN h₀ env.locals (KstS (fun z : PS => (D, z.o) :: R) (fun _ => []) (fun _ => True) x [] m₀ (fun pre z => DictIs prog w z.o z.kvs (placesT (is.take pre.length))) (pre ++ [k])) own (((D, o₀) :: R).map (·.1)) { s with heap := h, toks := tk } s₂ := by
      rintro ⟨h', tk', m', o', kvs', rfl, F', N', hm, hD'⟩
      refine kst_end (⟨o', kvs'⟩ : PS) F' N' (fun p hp => ?_) (fun p hp => .tail _ (List.mem_append_right _ hp)) rfl trivial (fun _ h => nomatch h) (fun z h1 _ _ => hm z h1) ?_
      · rcases List.mem_cons.mp hp with rfl | hp
        · exact .head _
        · exact .tail _ (List.mem_append_left _ hp)
      · show DictIs prog w o' kvs' (placesT (is.take (pre ++ [k]).length))
        rw [List.length_append, List.length_singleton, placesT_take hz]
        exact hD'
    cases f with
    | ret v => exact p
    | brk => exact p
    | next => exact up p
    | cont => exact up p
  · rintro ⟨o, kvs⟩ u h tk _ hD F₁ N₁
    rw [rangeKs_length, List.take_length] at hD
    exact done u o kvs h tk hD F₁ N₁
end
set_option maxRecDepth 100000 in
set_option maxHeartbeats 8000000 in
theorem label_places (w : World) (mean : ExcName → Option Value) (mg mb : Str → Option Value) (bl : Addr) (bs : List Value) (is : List Ins) (kb : Nat) (R : Led) (hm : (bl, listOf bs.toArray kb) ∈ R) (hb : BIn R bs is) (hz : is.length ≤ 800) :
    Ctr w mean mg mb 70 3 30 R [.ref bl] (fun news r => ∃ D o kvs, r = .ref D ∧ news = (D, o) :: R ∧ (D == sysModules) = false ∧ DictIs Mine.pw w o kvs (placesT is) ∧ ∀ p ∈ R, p.1 ≠ D) := by
  have hz2 := hb.length
  k_with_none
  k_with "k_all" => first | with_reducible assumption | (refine' List.forall_mem_cons.mpr ⟨?qa9, ?qb9⟩; (case qa9 => k_ne); (case qb9 => k_all)) | exact allLt_ne (by with_reducible assumption) | exact off1_ne4 (by with_reducible assumption) | exact allLt_ne1 (by with_reducible assumption) | exact allLt_ne2 (by with_reducible assumption) | exact allLt_ne3 (by with_reducible assumption) | exact allLt_ne4 (by with_reducible assumption) | exact allLt_ne5 (by with_reducible assumption) | exact allLt_ne6 (by with_reducible assumption) | exact allLt_ne7 (by with_reducible assumption) | exact allLt_ne8 (by with_reducible assumption) | exact allLt_ne9 (by with_reducible assumption) | exact allLt_ne10 (by with_reducible assumption) | exact allLt_ne11 (by with_reducible assumption) | exact allLt_ne12 (by with_reducible assumption) | exact tail_ne (by with_reducible assumption) (fresh_ne (by with_reducible assumption) (by k_mem)) (by k_all) | fail "k_all"
  k_with "k_updF" => first | (refine' UpT.head ?ua9 ?ub9; (case ub9 => k_all); (case ua9 => k_updF)) | (refine' UpT.tail ?ua9 ?ub9; (case ua9 => k_ne); (case ub9 => k_updF)) | (refine' TailOf.cons ?ua9; (case ua9 => k_updF)) | exact TailOf.nil | fail "updT"
  k_with "k_all" => first | exact fun p hp => Nat.ne_of_lt ((by assumption : ∀ p ∈ _, Prod.fst p < _) p hp) | fail "lt"
  k_with "kaf_pre" => first | (refine' evI ?pe9 ?pN9 ?pm9 ?px9; (case pe9 => kaf_pre); (case pN9 => k_asm); (case pm9 => k_mem); (case px9 => rfl)) | (refine' evL ?pF9 ?pv9 ?pa9 ?pb9 ?pc9; (case pF9 => k_asm); (case pa9 => rfl); (case pb9 => rfl); (case pc9 => rfl); (case pv9 => rfl)) | (refine' evC ?pN9 ?pl9 ?pm9 ?pd9 ?pa9 ?pb9 ?pc9; (case pa9 => rfl); (case pb9 => rfl); (case pc9 => rfl); (case pN9 => k_asm); (case pl9 => rfl); (case pm9 => k_mem); (case pd9 => k_asm)) | (refine' evK ?pF9 ?pX9 ?pT9 ?pe9 ?pa9 ?pb9 ?pc9; (case pF9 => k_asm); (case pX9 => k_asm); (case pT9 => k_asm); (case pa9 => rfl); (case pb9 => rfl); (case pc9 => rfl); (case pe9 => k_is))
  k_with "kaf_suf" => first | exact evl0 | (refine' evlI ?sl9; (case sl9 => kaf_suf)) | (refine' evlS ?sl9; (case sl9 => kaf_suf)) | (refine' evlN ?se9 ?sl9 ?sn9; (case sn9 => rfl); (case se9 => kaf_pre); (case sl9 => kaf_suf)) | (refine' evlE ?se9 ?sl9 ?sn9; (case sn9 => rfl); (case se9 => kaf_pre); (case sl9 => kaf_suf))
  k_with "k_ne" => (refine neN ?_; (try dsimp only); first | with_reducible assumption | exact Ne.symm (by with_reducible assumption) | (refine Nat.ne_of_gt ((?_ : ChainTo _ _ _ _) (by with_reducible assumption)); intro hch; with_reducible (first | exact And.left hch | exact And.left (And.right hch) | exact And.left (And.right (And.right hch)) | exact And.left (And.right (And.right (And.right hch))) | exact And.left (And.right (And.right (And.right (And.right hch)))) | exact And.left (And.right (And.right (And.right (And.right (And.right hch))))) | exact And.left (And.right (And.right (And.right (And.right (And.right (And.right hch)))))) | exact And.left (And.right (And.right (And.right (And.right (And.right (And.right (And.right hch))))))) | exact And.left (And.right (And.right (And.right (And.right (And.right (And.right (And.right (And.right hch)))))))) | exact And.left (And.right (And.right (And.right (And.right (And.right (And.right (And.right (And.right (And.right hch))))))))) | exact And.left (And.right (And.right (And.right (And.right (And.right (And.right (And.right (And.right (And.right (And.right hch)))))))))) | exact And.left (And.right (And.right (And.right (And.right (And.right (And.right (And.right (And.right (And.right (And.right (And.right hch))))))))))) | exact And.left (And.right (And.right (And.right (And.right (And.right (And.right (And.right (And.right (And.right (And.right (And.right (And.right hch)))))))))))) | exact And.left (And.right (And.right (And.right (And.right (And.right (And.right (And.right (And.right (And.right (And.right (And.right (And.right (And.right hch))))))))))))))) | (refine Nat.ne_of_lt ((?_ : ChainTo _ _ _ _) (by with_reducible assumption)); intro hch; with_reducible (first | exact And.left hch | exact And.left (And.right hch) | exact And.left (And.right (And.right hch)) | exact And.left (And.right (And.right (And.right hch))) | exact And.left (And.right (And.right (And.right (And.right hch)))) | exact And.left (And.right (And.right (And.right (And.right (And.right hch))))) | exact And.left (And.right (And.right (And.right (And.right (And.right (And.right hch)))))) | exact And.left (And.right (And.right (And.right (And.right (And.right (And.right (And.right hch))))))) | exact And.left (And.right (And.right (And.right (And.right (And.right (And.right (And.right (And.right hch)))))))) | exact And.left (And.right (And.right (And.right (And.right (And.right (And.right (And.right (And.right (And.right hch))))))))) | exact And.left (And.right (And.right (And.right (And.right (And.right (And.right (And.right (And.right (And.right (And.right hch)))))))))) | exact And.left (And.right (And.right (And.right (And.right (And.right (And.right (And.right (And.right (And.right (And.right (And.right hch))))))))))) | exact And.left (And.right (And.right (And.right (And.right (And.right (And.right (And.right (And.right (And.right (And.right (And.right (And.right hch)))))))))))) | exact And.left (And.right (And.right (And.right (And.right (And.right (And.right (And.right (And.right (And.right (And.right (And.right (And.right (And.right hch))))))))))))))) | exact Nat.ne_of_gt (Nat.lt_succ_of_lt (And.left (by with_reducible assumption))) | exact Nat.ne_of_lt (Nat.lt_succ_of_lt (And.left (by with_reducible assumption))) | exact Nat.ne_of_gt (Nat.lt_succ_of_lt (And.left (And.right (by with_reducible assumption)))) | exact Nat.ne_of_lt (Nat.lt_succ_of_lt (And.left (And.right (by with_reducible assumption)))) | exact Nat.ne_of_gt (Nat.lt_succ_of_lt (And.left (And.right (And.right (by with_reducible assumption))))) | exact Nat.ne_of_lt (Nat.lt_succ_of_lt (And.left (And.right (And.right (by with_reducible assumption))))) | exact Nat.ne_of_gt (Nat.lt_succ_of_lt (Nat.lt_succ_of_lt (And.left (by with_reducible assumption)))) | exact Nat.ne_of_lt (Nat.lt_succ_of_lt (Nat.lt_succ_of_lt (And.left (by with_reducible assumption)))) | exact Nat.ne_of_gt (Nat.lt_succ_of_lt (Nat.lt_succ_of_lt (And.left (And.right (by with_reducible assumption))))) | exact Nat.ne_of_lt (Nat.lt_succ_of_lt (Nat.lt_succ_of_lt (And.left (And.right (by with_reducible assumption))))) | exact Nat.ne_of_gt (Nat.lt_succ_of_lt (Nat.lt_succ_of_lt (And.left (And.right (And.right (by with_reducible assumption)))))) | exact Nat.ne_of_lt (Nat.lt_succ_of_lt (Nat.lt_succ_of_lt (And.left (And.right (And.right (by with_reducible assumption)))))) | exact Nat.ne_of_gt (Nat.lt_succ_of_lt (Nat.lt_succ_of_lt (Nat.lt_succ_of_lt (And.left (by with_reducible assumption))))) | exact Nat.ne_of_lt (Nat.lt_succ_of_lt (Nat.lt_succ_of_lt (Nat.lt_succ_of_lt (And.left (by with_reducible assumption))))) | exact Nat.ne_of_gt (Nat.lt_succ_of_lt (Nat.lt_succ_of_lt (Nat.lt_succ_of_lt (And.left (And.right (by with_reducible assumption)))))) | exact Nat.ne_of_lt (Nat.lt_succ_of_lt (Nat.lt_succ_of_lt (Nat.lt_succ_of_lt (And.left (And.right (by with_reducible assumption)))))) | exact Nat.ne_of_gt (Nat.lt_succ_of_lt (Nat.lt_succ_of_lt (Nat.lt_succ_of_lt (And.left (And.right (And.right (by with_reducible assumption))))))) | exact Nat.ne_of_lt (Nat.lt_succ_of_lt (Nat.lt_succ_of_lt (Nat.lt_succ_of_lt (And.left (And.right (And.right (by with_reducible assumption))))))) | exact Nat.ne_of_gt (Nat.lt_succ_self _) | exact Nat.ne_of_lt (Nat.lt_succ_self _) | exact Nat.ne_of_gt (Nat.lt_succ_of_lt (Nat.lt_succ_self _)) | exact Nat.ne_of_lt (Nat.lt_succ_of_lt (Nat.lt_succ_self _)) | exact ((And.left (And.left (by with_reducible assumption))) : @Ne Nat _ _) | exact Ne.symm ((And.left (And.left (by with_reducible assumption))) : @Ne Nat _ _) | exact ((And.left (And.right (And.left (by with_reducible assumption)))) : @Ne Nat _ _) | exact Ne.symm ((And.left (And.right (And.left (by with_reducible assumption)))) : @Ne Nat _ _) | exact ((And.right (And.right (And.left (by with_reducible assumption)))) : @Ne Nat _ _) | exact Ne.symm ((And.right (And.right (And.left (by with_reducible assumption)))) : @Ne Nat _ _) | exact ((And.left (And.left (And.right (by with_reducible assumption)))) : @Ne Nat _ _) | exact Ne.symm ((And.left (And.left (And.right (by with_reducible assumption)))) : @Ne Nat _ _) | exact ((And.left (And.right (And.left (And.right (by with_reducible assumption))))) : @Ne Nat _ _) | exact Ne.symm ((And.left (And.right (And.left (And.right (by with_reducible assumption))))) : @Ne Nat _ _) | exact ((And.right (And.right (And.left (And.right (by with_reducible assumption))))) : @Ne Nat _ _) | exact Ne.symm ((And.right (And.right (And.left (And.right (by with_reducible assumption))))) : @Ne Nat _ _) | exact ((And.left (And.left (And.right (And.right (by with_reducible assumption))))) : @Ne Nat _ _) | exact Ne.symm ((And.left (And.left (And.right (And.right (by with_reducible assumption))))) : @Ne Nat _ _) | exact ((And.left (And.right (And.left (And.right (And.right (by with_reducible assumption)))))) : @Ne Nat _ _) | exact Ne.symm ((And.left (And.right (And.left (And.right (And.right (by with_reducible assumption)))))) : @Ne Nat _ _) | exact ((And.right (And.right (And.left (And.right (And.right (by with_reducible assumption)))))) : @Ne Nat _ _) | exact Ne.symm ((And.right (And.right (And.left (And.right (And.right (by with_reducible assumption)))))) : @Ne Nat _ _) | exact ((And.left (And.left (And.right (And.right (And.right (by with_reducible assumption)))))) : @Ne Nat _ _) | exact Ne.symm ((And.left (And.left (And.right (And.right (And.right (by with_reducible assumption)))))) : @Ne Nat _ _) | exact ((And.left (And.right (And.left (And.right (And.right (And.right (by with_reducible assumption))))))) : @Ne Nat _ _) | exact Ne.symm ((And.left (And.right (And.left (And.right (And.right (And.right (by with_reducible assumption))))))) : @Ne Nat _ _) | exact ((And.right (And.right (And.left (And.right (And.right (And.right (by with_reducible assumption))))))) : @Ne Nat _ _) | exact Ne.symm ((And.right (And.right (And.left (And.right (And.right (And.right (by with_reducible assumption))))))) : @Ne Nat _ _) | exact ((And.left (And.left (And.right (And.right (And.right (And.right (by with_reducible assumption))))))) : @Ne Nat _ _) | exact Ne.symm ((And.left (And.left (And.right (And.right (And.right (And.right (by with_reducible assumption))))))) : @Ne Nat _ _) | exact ((And.left (And.right (And.left (And.right (And.right (And.right (And.right (by with_reducible assumption)))))))) : @Ne Nat _ _) | exact Ne.symm ((And.left (And.right (And.left (And.right (And.right (And.right (And.right (by with_reducible assumption)))))))) : @Ne Nat _ _) | exact ((And.right (And.right (And.left (And.right (And.right (And.right (And.right (by with_reducible assumption)))))))) : @Ne Nat _ _) | exact Ne.symm ((And.right (And.right (And.left (And.right (And.right (And.right (And.right (by with_reducible assumption)))))))) : @Ne Nat _ _) | exact ((And.left (And.left (And.right (And.right (And.right (And.right (And.right (by with_reducible assumption)))))))) : @Ne Nat _ _) | exact Ne.symm ((And.left (And.left (And.right (And.right (And.right (And.right (And.right (by with_reducible assumption)))))))) : @Ne Nat _ _) | exact ((And.left (And.right (And.left (And.right (And.right (And.right (And.right (And.right (by with_reducible assumption))))))))) : @Ne Nat _ _) | exact Ne.symm ((And.left (And.right (And.left (And.right (And.right (And.right (And.right (And.right (by with_reducible assumption))))))))) : @Ne Nat _ _) | exact ((And.right (And.right (And.left (And.right (And.right (And.right (And.right (And.right (by with_reducible assumption))))))))) : @Ne Nat _ _) | exact Ne.symm ((And.right (And.right (And.left (And.right (And.right (And.right (And.right (And.right (by with_reducible assumption))))))))) : @Ne Nat _ _) | exact ((And.left (And.left (And.right (And.right (And.right (And.right (And.right (And.right (by with_reducible assumption))))))))) : @Ne Nat _ _) | exact Ne.symm ((And.left (And.left (And.right (And.right (And.right (And.right (And.right (And.right (by with_reducible assumption))))))))) : @Ne Nat _ _) | exact ((And.left (And.right (And.left (And.right (And.right (And.right (And.right (And.right (And.right (by with_reducible assumption)))))))))) : @Ne Nat _ _) | exact Ne.symm ((And.left (And.right (And.left (And.right (And.right (And.right (And.right (And.right (And.right (by with_reducible assumption)))))))))) : @Ne Nat _ _) | exact ((And.right (And.right (And.left (And.right (And.right (And.right (And.right (And.right (And.right (by with_reducible assumption)))))))))) : @Ne Nat _ _) | exact Ne.symm ((And.right (And.right (And.left (And.right (And.right (And.right (And.right (And.right (And.right (by with_reducible assumption)))))))))) : @Ne Nat _ _) | omega)
  k_with "ktr_room" => ((try simp only [depth_under_make, depth_under_kw, depth_in1, depth_deeper, depth_caller]); (try dsimp only [ktrTop]); first | exact Nat.lt_of_le_of_lt (Nat.le_add_right _ _) (by with_reducible assumption) | exact roomStep (by with_reducible assumption) (by first | exact Nat.le_refl _ | decide | exact r2 _ | omega) | fail "room")
  k_with "ktr_units" => ((try simp only [units_in1, units_deeper, Around.mark_units, units_caller]); (try dsimp only [ktrTop]); first | exact unitStep (by with_reducible assumption) (by first | exact Nat.le_refl _ | decide | exact u20 _ | exact u40 _ | omega) | fail "units")
  k_with "k_mem" => first | exact tail_mem (by assumption) (by k_mem) | fail "k_mem"
  k_with "k_mem" => assumption
  k_with "k_mem" => first | exact List.mem_cons_of_mem _ (by assumption) | fail "k_mem"
  k_with "size_fits" => (simp only [List.size_toArray, Array.size_push, List.length_append, List.length_cons, List.length_nil, PySem.sizeLine_eq] <;> omega)
  k_with "exec If" => (k_here; k_fold)
  k_with "exec Assign" => (k_here; k_fold)
  k_with "exec Expr" => (k_here; k_fold)
  k_with "exec Return some" => (k_here; k_fold)
  k_with "execs cons" => (k_here; first | k_fold | ((with_reducible refine execsG ?_); intro t9; (try dsimp only)))
  k_with "execs nil" => (k_here; (with_reducible refine wpAny_execs_nil ?_); (try dsimp only))
  k_with "call builtin:len" => (k_here; (with_reducible show wpAny _ _ (call (Value.builtin _) [Value.ref _]) _ _ _); k_dflt (refine' len_list (News.isList ?k1 ?k2) ?k3 ?_; (case k1 => k_asm); (case k2 => k_mem); (case k3 => (simp only [List.size_toArray]; omega)); k_whole); (try simp only [List.size_toArray]))
  k_with "PlcPost" => (dsimp only [PlcPost])
  k_with "ite" => (k_here; first | (refine ite_pos (by first | omega | (simp only [beq_iff_eq, bne_iff_ne, decide_eq_true_eq]; omega)) ?_) | (refine ite_neg (by first | omega | (simp only [beq_iff_eq, bne_iff_ne, decide_eq_true_eq]; omega)) ?_))
  k_with "exec For Tuple Subscript cons nil" => k_extra "exec For Tuple"
  k_with "subscriptTail" => (k_here; (with_reducible show wpAny _ _ (subscriptTail _ _ (Value.ref _) (Value.int _ _)) _ _ _); (with_unfolding_all refine' litItem ?N ?m ?a ?b ?c ?_ ?d; (case N => k_asm); (case m => k_mem); (case a => decide); (case b => decide); (case c => rfl); (case d => with_unfolding_all rfl); k_whole))
  k_with "call builtin:list.index" => (k_here; (with_reducible show wpAny _ _ (call (Value.builtin _) [Value.ref _, Value.str _ _]) _ _ _); k_dflt (refine' kindIndex ?k0 ?N ?m ?_; (case k0 => with_reducible assumption); (case N => k_asm); (case m => k_mem)); dsimp only [Wh.ixI])
  k_with "exec If" => (k_here; k_dflt (first | ((with_reducible refine' ifT ?xe9 ?xb9 ?_); (case xe9 => kaf_pre); (case xb9 => decide); k_whole) | ((with_reducible refine' ifF ?xe9 ?xb9 ?_); (case xe9 => kaf_pre); (case xb9 => decide); k_whole)))
  k_with "isTrue Compare" => (k_here; k_dflt (first | ((with_reducible refine' isT ?xe9 ?xb9 ?_); (case xe9 => kaf_pre); (case xb9 => decide); k_whole) | ((with_reducible refine' isF ?xe9 ?xb9 ?_); (case xe9 => kaf_pre); (case xb9 => decide); k_whole) | ((with_reducible refine' isI ?xe9 ?_); (case xe9 => kaf_pre); k_whole) | ((with_reducible refine' isIl ?xe9 ?_); (case xe9 => kaf_pre); k_whole) | ((with_reducible refine' isIg ?xe9 ?_); (case xe9 => kaf_pre); k_whole)))
  k_with "eval Subscript" => (k_here; k_dflt ((with_reducible refine' Ev.go ?xe9 ?_); (case xe9 => kaf_pre); k_whole))
  k_with "spliced" => (k_here; k_dflt ((with_reducible refine' EvL.go ?xe9 ?_); (case xe9 => kaf_suf); k_whole); (try dsimp only [List.nil_append, List.cons_append]))
  k_with "eval Call" => (k_here; (with_reducible show wpAny _ _ (eval (Expr.Call (Expr.Name _ _) (_ :: _) [] _) _) _ _ _); k_dflt (refine' evCall ?xF9 ?xX9 ?xT9 ?xe9 ?xk9 ?xl9 ?_ ?xs9 ?xa9 ?xb9 ?xc9; (case xF9 => k_asm); (case xX9 => k_asm); (case xT9 => k_asm); (case xa9 => rfl); (case xb9 => rfl); (case xc9 => rfl); (case xe9 => k_is); (case xk9 => k_is); (case xl9 => kaf_suf); (case xs9 => rfl); k_whole))
  k_with "subscriptTail" => (k_here; (try dsimp only); (with_reducible show wpAny _ _ (subscriptTail _ _ (Value.ref _) (Value.int (Nat.cast i) _)) _ _ _); (with_unfolding_all refine' litItem ?N ?m ?a ?b ?c ?_ ?d; (case N => k_asm); (case m => exact .tail _ (hs9 _ hm)); (case a => omega); (case b => omega); (case c => exact e9); (case d => with_unfolding_all rfl); k_whole))
  k_with "pyIter ref" => (k_here; (with_reducible show wpAny _ _ (pyIter (Value.ref _)) (fun it s₂ => LoopAtV _ _ _ _ _ _ _ _ _ it s₂) _ _); refine' Mine.halt ?_)
  unfold Ctr
  intro dp un gd cn cs a ccd cl outer A₀ base h₀ L m s Q E B F X N T hk hd hu hret
  refine wpAny_call ?_
  k_dflt ktr_enter; (refine letE ?_); intro e9; (refine letA ?_); intro A9; (rename Fr _ _ _ _ => F8); (refine letM F8 ?_); clear F8; intro m9 F9
  k_steps
  unfold Mine.Halt
  rename Fr _ _ _ _ => lF'
  rename News _ _ _ _ => lN'
  rename IsRange _ _ _ _ _ _ _ _ => lR'
  with_unfolding_all refine' plcLoop (is := is) (by rfl) lR' ?hb ?hl lF' lN' ?ho ⟨by assumption, by assumption⟩ ?turn ?done
  case hb => omega
  case hl => omega
  case ho => k_all
  case turn =>
    intro i z k t o kvs h tk Rw hz9 hk9 hs9 ho9 hD9 hl9 F9 N9
    obtain ⟨hd9, hf9⟩ := hD9
    subst hk9
    obtain ⟨v9, e9, hi9⟩ := hb.get hz9
    rw [← List.getElem?_toArray] at e9
    have hi8 := hi9.mono hs9
    have hi7 : i < is.length := (List.getElem?_eq_some_iff.mp hz9).1
    clear hi9 lR' lF' lN'
    cases hi8
    all_goals (try (rename Bool => sb9; cases sb9))
    all_goals k_steps
    all_goals (
      (rename Fr _ _ _ _ => kF)
      (rename News _ _ _ _ => kN)
      k_dflt (refine' plcEnd kF kN (fun p hp => hp) ?kd ?kf ?km; (case kd => assumption); (case kf => assumption); (case km => intro z hz; simp [hz])))
  case done =>
    intro u o kvs h tk hD9 F9 N9
    k_steps
    exact hret _ _ _ _ (by assumption) (by assumption) ⟨_, _, _, rfl, rfl, by assumption, hD9, by k_all⟩
inductive Key | var | lst | con (c n : Int) | str (n : Int)
inductive KeyAt (R : Led) : Value → Key → Prop
  | var : KeyAt R (.ref 48) .var
  | lst : KeyAt R (.ref 49) .lst
  | con {a b n c t1 t2 t3} : (a, tupO [.str (Str.ofString "const") t1, .ref b]) ∈ R → (b, tupO [.int c t2, .int n t3]) ∈ R → KeyAt R (.ref a) (.con c n)
  | str {a n t1 t2} : (a, tupO [.str (Str.ofString "struct") t1, .int n t2]) ∈ R → KeyAt R (.ref a) (.str n)
theorem KeyAt.mono {R R' : Led} {v k} (h : KeyAt R v k) (hs : ∀ p ∈ R, p ∈ R') : KeyAt R' v k := by
  cases h with
  | var => exact .var
  | lst => exact .lst
  | con h1 h2 => exact .con (hs _ h1) (hs _ h2)
  | str h => exact .str (hs _ h)
def swT (k : Key) (a b c d : Int) : Int :=
  match k with
  | .var => a
  | .con _ _ => b
  | .lst => c
  | .str _ => d
theorem int_ex {a b : Int} {t : Tok} (h : a = b) : ∃ t', Value.int a t = .int b t' := ⟨t, by rw [h]⟩
/-- a row's key is asked -/
def hitT (k : Key) (s : Bool) (n : Int) : Bool :=
  match k, s with
  | .con c m, false => decide (4 = c) && decide (n = m)
  | .str m, true => decide (n = m)
  | _, _ => false
def tab1T (k : Key) (s : Bool) (a d : Int) : Int := if hitT k s 3 then a else d
def tab2T (k : Key) (s : Bool) (a b d : Int) : Int := if hitT k s 3 then a else if hitT k s 5 then b else d
def fitT (k : Key) (s : Bool) : Prop :=
  match k, s with
  | .con _ _, false => True
  | .str _, true => True
  | _, _ => False
section
variable {prog : Program} {w : World} {A : Around} {E : Value → Shared → Prop} {s : Shared} {h₀ : Heap} {L : Addr} {news : Led}
open PySem.Spec PySem.SeqAt PyProof.V in
theorem eqTup {x y : Addr} {a b c d : Int} {ta tb tc td : Tok} {Q : Value → Shared → Prop} (N : News h₀ L s.heap news) (hx : (x, tupO [.int a ta, .int b tb]) ∈ news) (hy : (y, tupO [.int c tc, .int d td]) ∈ news) (hu : A.units + 64 < cLine)
    (h : Q (.bool (decide (a = c) && decide (b = d))) s) : wpAny (model prog w) A (compareOp .Eq (.ref x) (.ref y)) Q E s := by
  refine eq_dataH (reads_tuple_at (xs := [.int a, .int b]) (News.get N hx) rfl rfl (ReadsAll.cons (Reads.int _ _) (ReadsAll.cons (Reads.int _ _) ReadsAll.nil))) (reads_tuple_at (xs := [.int c, .int d]) (News.get N hy) rfl rfl (ReadsAll.cons (Reads.int _ _) (ReadsAll.cons (Reads.int _ _) ReadsAll.nil))) ?_ ?_ hu ?_
  · simp [shaped, PyData.canLay0, PyData.canLayAll0, PyData.depth, PyData.depthAll]
  · simp [shaped, PyData.canLay0, PyData.canLayAll0, PyData.depth, PyData.depthAll]
  · have e : PyData.eqv (.tuple [.int a, .int b]) (.tuple [.int c, .int d]) = (decide (a = c) && decide (b = d)) := by
      simp only [PyData.eqv, PyData.eqvAll, Bool.and_true]
      by_cases h1 : a = c <;> by_cases h2 : b = d <;> simp [h1, h2]
    rw [e]; exact h
theorem eqKey {x y : Addr} {b c d : Int} {ta tb tc td : Tok} {Q : Value → Shared → Prop} (N : News h₀ L s.heap news) (hx : (x, tupO [.int 4 ta, .int b tb]) ∈ news) (hy : (y, tupO [.int c tc, .int d td]) ∈ news) (hu : A.units + 64 < cLine)
    (h : Q (.bool (hitT (.con c d) false b)) s) : wpAny (model prog w) A (compareOp .Eq (.ref x) (.ref y)) Q E s := eqTup N hx hy hu h
end
set_option maxRecDepth 100000 in
set_option maxHeartbeats 8000000 in
theorem switch_target (w : World) (mean : ExcName → Option Value) (mg mb : Str → Option Value) (x kv : Value) (a b c d : Int) (k : Key) (R : Led) (hx : InsIn R x (.sw a b c d)) (hk0 : KeyAt R kv k) :
    Ctr w mean mg mb 77 2 20 R [x, kv] (fun news r => news = R ∧ ∃ t, r = .int (swT k a b c d) t) := by
  k_with_none
  k_with "k_all" => first | with_reducible assumption | (refine' List.forall_mem_cons.mpr ⟨?qa9, ?qb9⟩; (case qa9 => k_ne); (case qb9 => k_all)) | exact allLt_ne (by with_reducible assumption) | exact off1_ne4 (by with_reducible assumption) | exact allLt_ne1 (by with_reducible assumption) | exact allLt_ne2 (by with_reducible assumption) | exact allLt_ne3 (by with_reducible assumption) | exact allLt_ne4 (by with_reducible assumption) | exact allLt_ne5 (by with_reducible assumption) | exact allLt_ne6 (by with_reducible assumption) | exact allLt_ne7 (by with_reducible assumption) | exact allLt_ne8 (by with_reducible assumption) | exact allLt_ne9 (by with_reducible assumption) | exact allLt_ne10 (by with_reducible assumption) | exact allLt_ne11 (by with_reducible assumption) | exact allLt_ne12 (by with_reducible assumption) | exact tail_ne (by with_reducible assumption) (fresh_ne (by with_reducible assumption) (by k_mem)) (by k_all) | fail "k_all"
  k_with "k_updF" => first | (refine' UpT.head ?ua9 ?ub9; (case ub9 => k_all); (case ua9 => k_updF)) | (refine' UpT.tail ?ua9 ?ub9; (case ua9 => k_ne); (case ub9 => k_updF)) | (refine' TailOf.cons ?ua9; (case ua9 => k_updF)) | exact TailOf.nil | fail "updT"
  k_with "kaf_pre" => first | (refine' evI ?pe9 ?pN9 ?pm9 ?px9; (case pe9 => kaf_pre); (case pN9 => k_asm); (case pm9 => k_mem); (case px9 => rfl)) | (refine' evL ?pF9 ?pv9 ?pa9 ?pb9 ?pc9; (case pF9 => k_asm); (case pa9 => rfl); (case pb9 => rfl); (case pc9 => rfl); (case pv9 => rfl)) | (refine' evC ?pN9 ?pl9 ?pm9 ?pd9 ?pa9 ?pb9 ?pc9; (case pa9 => rfl); (case pb9 => rfl); (case pc9 => rfl); (case pN9 => k_asm); (case pl9 => rfl); (case pm9 => k_mem); (case pd9 => k_asm)) | (refine' evK ?pF9 ?pX9 ?pT9 ?pe9 ?pa9 ?pb9 ?pc9; (case pF9 => k_asm); (case pX9 => k_asm); (case pT9 => k_asm); (case pa9 => rfl); (case pb9 => rfl); (case pc9 => rfl); (case pe9 => k_is))
  k_with "kaf_suf" => first | exact evl0 | (refine' evlI ?sl9; (case sl9 => kaf_suf)) | (refine' evlS ?sl9; (case sl9 => kaf_suf)) | (refine' evlN ?se9 ?sl9 ?sn9; (case sn9 => rfl); (case se9 => kaf_pre); (case sl9 => kaf_suf)) | (refine' evlE ?se9 ?sl9 ?sn9; (case sn9 => rfl); (case se9 => kaf_pre); (case sl9 => kaf_suf))
  k_with "k_ne" => (refine neN ?_; (try dsimp only); first | with_reducible assumption | exact Ne.symm (by with_reducible assumption) | (refine Nat.ne_of_gt ((?_ : ChainTo _ _ _ _) (by with_reducible assumption)); intro hch; with_reducible (first | exact And.left hch | exact And.left (And.right hch) | exact And.left (And.right (And.right hch)) | exact And.left (And.right (And.right (And.right hch))) | exact And.left (And.right (And.right (And.right (And.right hch)))) | exact And.left (And.right (And.right (And.right (And.right (And.right hch))))) | exact And.left (And.right (And.right (And.right (And.right (And.right (And.right hch)))))) | exact And.left (And.right (And.right (And.right (And.right (And.right (And.right (And.right hch))))))) | exact And.left (And.right (And.right (And.right (And.right (And.right (And.right (And.right (And.right hch)))))))) | exact And.left (And.right (And.right (And.right (And.right (And.right (And.right (And.right (And.right (And.right hch))))))))) | exact And.left (And.right (And.right (And.right (And.right (And.right (And.right (And.right (And.right (And.right (And.right hch)))))))))) | exact And.left (And.right (And.right (And.right (And.right (And.right (And.right (And.right (And.right (And.right (And.right (And.right hch))))))))))) | exact And.left (And.right (And.right (And.right (And.right (And.right (And.right (And.right (And.right (And.right (And.right (And.right (And.right hch)))))))))))) | exact And.left (And.right (And.right (And.right (And.right (And.right (And.right (And.right (And.right (And.right (And.right (And.right (And.right (And.right hch))))))))))))))) | (refine Nat.ne_of_lt ((?_ : ChainTo _ _ _ _) (by with_reducible assumption)); intro hch; with_reducible (first | exact And.left hch | exact And.left (And.right hch) | exact And.left (And.right (And.right hch)) | exact And.left (And.right (And.right (And.right hch))) | exact And.left (And.right (And.right (And.right (And.right hch)))) | exact And.left (And.right (And.right (And.right (And.right (And.right hch))))) | exact And.left (And.right (And.right (And.right (And.right (And.right (And.right hch)))))) | exact And.left (And.right (And.right (And.right (And.right (And.right (And.right (And.right hch))))))) | exact And.left (And.right (And.right (And.right (And.right (And.right (And.right (And.right (And.right hch)))))))) | exact And.left (And.right (And.right (And.right (And.right (And.right (And.right (And.right (And.right (And.right hch))))))))) | exact And.left (And.right (And.right (And.right (And.right (And.right (And.right (And.right (And.right (And.right (And.right hch)))))))))) | exact And.left (And.right (And.right (And.right (And.right (And.right (And.right (And.right (And.right (And.right (And.right (And.right hch))))))))))) | exact And.left (And.right (And.right (And.right (And.right (And.right (And.right (And.right (And.right (And.right (And.right (And.right (And.right hch)))))))))))) | exact And.left (And.right (And.right (And.right (And.right (And.right (And.right (And.right (And.right (And.right (And.right (And.right (And.right (And.right hch))))))))))))))) | exact Nat.ne_of_gt (Nat.lt_succ_of_lt (And.left (by with_reducible assumption))) | exact Nat.ne_of_lt (Nat.lt_succ_of_lt (And.left (by with_reducible assumption))) | exact Nat.ne_of_gt (Nat.lt_succ_of_lt (And.left (And.right (by with_reducible assumption)))) | exact Nat.ne_of_lt (Nat.lt_succ_of_lt (And.left (And.right (by with_reducible assumption)))) | exact Nat.ne_of_gt (Nat.lt_succ_of_lt (And.left (And.right (And.right (by with_reducible assumption))))) | exact Nat.ne_of_lt (Nat.lt_succ_of_lt (And.left (And.right (And.right (by with_reducible assumption))))) | exact Nat.ne_of_gt (Nat.lt_succ_of_lt (Nat.lt_succ_of_lt (And.left (by with_reducible assumption)))) | exact Nat.ne_of_lt (Nat.lt_succ_of_lt (Nat.lt_succ_of_lt (And.left (by with_reducible assumption)))) | exact Nat.ne_of_gt (Nat.lt_succ_of_lt (Nat.lt_succ_of_lt (And.left (And.right (by with_reducible assumption))))) | exact Nat.ne_of_lt (Nat.lt_succ_of_lt (Nat.lt_succ_of_lt (And.left (And.right (by with_reducible assumption))))) | exact Nat.ne_of_gt (Nat.lt_succ_of_lt (Nat.lt_succ_of_lt (And.left (And.right (And.right (by with_reducible assumption)))))) | exact Nat.ne_of_lt (Nat.lt_succ_of_lt (Nat.lt_succ_of_lt (And.left (And.right (And.right (by with_reducible assumption)))))) | exact Nat.ne_of_gt (Nat.lt_succ_of_lt (Nat.lt_succ_of_lt (Nat.lt_succ_of_lt (And.left (by with_reducible assumption))))) | exact Nat.ne_of_lt (Nat.lt_succ_of_lt (Nat.lt_succ_of_lt (Nat.lt_succ_of_lt (And.left (by with_reducible assumption))))) | exact Nat.ne_of_gt (Nat.lt_succ_of_lt (Nat.lt_succ_of_lt (Nat.lt_succ_of_lt (And.left (And.right (by with_reducible assumption)))))) | exact Nat.ne_of_lt (Nat.lt_succ_of_lt (Nat.lt_succ_of_lt (Nat.lt_succ_of_lt (And.left (And.right (by with_reducible assumption)))))) | exact Nat.ne_of_gt (Nat.lt_succ_of_lt (Nat.lt_succ_of_lt (Nat.lt_succ_of_lt (And.left (And.right (And.right (by with_reducible assumption))))))) | exact Nat.ne_of_lt (Nat.lt_succ_of_lt (Nat.lt_succ_of_lt (Nat.lt_succ_of_lt (And.left (And.right (And.right (by with_reducible assumption))))))) | exact Nat.ne_of_gt (Nat.lt_succ_self _) | exact Nat.ne_of_lt (Nat.lt_succ_self _) | exact Nat.ne_of_gt (Nat.lt_succ_of_lt (Nat.lt_succ_self _)) | exact Nat.ne_of_lt (Nat.lt_succ_of_lt (Nat.lt_succ_self _)) | exact ((And.left (And.left (by with_reducible assumption))) : @Ne Nat _ _) | exact Ne.symm ((And.left (And.left (by with_reducible assumption))) : @Ne Nat _ _) | exact ((And.left (And.right (And.left (by with_reducible assumption)))) : @Ne Nat _ _) | exact Ne.symm ((And.left (And.right (And.left (by with_reducible assumption)))) : @Ne Nat _ _) | exact ((And.right (And.right (And.left (by with_reducible assumption)))) : @Ne Nat _ _) | exact Ne.symm ((And.right (And.right (And.left (by with_reducible assumption)))) : @Ne Nat _ _) | exact ((And.left (And.left (And.right (by with_reducible assumption)))) : @Ne Nat _ _) | exact Ne.symm ((And.left (And.left (And.right (by with_reducible assumption)))) : @Ne Nat _ _) | exact ((And.left (And.right (And.left (And.right (by with_reducible assumption))))) : @Ne Nat _ _) | exact Ne.symm ((And.left (And.right (And.left (And.right (by with_reducible assumption))))) : @Ne Nat _ _) | exact ((And.right (And.right (And.left (And.right (by with_reducible assumption))))) : @Ne Nat _ _) | exact Ne.symm ((And.right (And.right (And.left (And.right (by with_reducible assumption))))) : @Ne Nat _ _) | exact ((And.left (And.left (And.right (And.right (by with_reducible assumption))))) : @Ne Nat _ _) | exact Ne.symm ((And.left (And.left (And.right (And.right (by with_reducible assumption))))) : @Ne Nat _ _) | exact ((And.left (And.right (And.left (And.right (And.right (by with_reducible assumption)))))) : @Ne Nat _ _) | exact Ne.symm ((And.left (And.right (And.left (And.right (And.right (by with_reducible assumption)))))) : @Ne Nat _ _) | exact ((And.right (And.right (And.left (And.right (And.right (by with_reducible assumption)))))) : @Ne Nat _ _) | exact Ne.symm ((And.right (And.right (And.left (And.right (And.right (by with_reducible assumption)))))) : @Ne Nat _ _) | exact ((And.left (And.left (And.right (And.right (And.right (by with_reducible assumption)))))) : @Ne Nat _ _) | exact Ne.symm ((And.left (And.left (And.right (And.right (And.right (by with_reducible assumption)))))) : @Ne Nat _ _) | exact ((And.left (And.right (And.left (And.right (And.right (And.right (by with_reducible assumption))))))) : @Ne Nat _ _) | exact Ne.symm ((And.left (And.right (And.left (And.right (And.right (And.right (by with_reducible assumption))))))) : @Ne Nat _ _) | exact ((And.right (And.right (And.left (And.right (And.right (And.right (by with_reducible assumption))))))) : @Ne Nat _ _) | exact Ne.symm ((And.right (And.right (And.left (And.right (And.right (And.right (by with_reducible assumption))))))) : @Ne Nat _ _) | exact ((And.left (And.left (And.right (And.right (And.right (And.right (by with_reducible assumption))))))) : @Ne Nat _ _) | exact Ne.symm ((And.left (And.left (And.right (And.right (And.right (And.right (by with_reducible assumption))))))) : @Ne Nat _ _) | exact ((And.left (And.right (And.left (And.right (And.right (And.right (And.right (by with_reducible assumption)))))))) : @Ne Nat _ _) | exact Ne.symm ((And.left (And.right (And.left (And.right (And.right (And.right (And.right (by with_reducible assumption)))))))) : @Ne Nat _ _) | exact ((And.right (And.right (And.left (And.right (And.right (And.right (And.right (by with_reducible assumption)))))))) : @Ne Nat _ _) | exact Ne.symm ((And.right (And.right (And.left (And.right (And.right (And.right (And.right (by with_reducible assumption)))))))) : @Ne Nat _ _) | exact ((And.left (And.left (And.right (And.right (And.right (And.right (And.right (by with_reducible assumption)))))))) : @Ne Nat _ _) | exact Ne.symm ((And.left (And.left (And.right (And.right (And.right (And.right (And.right (by with_reducible assumption)))))))) : @Ne Nat _ _) | exact ((And.left (And.right (And.left (And.right (And.right (And.right (And.right (And.right (by with_reducible assumption))))))))) : @Ne Nat _ _) | exact Ne.symm ((And.left (And.right (And.left (And.right (And.right (And.right (And.right (And.right (by with_reducible assumption))))))))) : @Ne Nat _ _) | exact ((And.right (And.right (And.left (And.right (And.right (And.right (And.right (And.right (by with_reducible assumption))))))))) : @Ne Nat _ _) | exact Ne.symm ((And.right (And.right (And.left (And.right (And.right (And.right (And.right (And.right (by with_reducible assumption))))))))) : @Ne Nat _ _) | exact ((And.left (And.left (And.right (And.right (And.right (And.right (And.right (And.right (by with_reducible assumption))))))))) : @Ne Nat _ _) | exact Ne.symm ((And.left (And.left (And.right (And.right (And.right (And.right (And.right (And.right (by with_reducible assumption))))))))) : @Ne Nat _ _) | exact ((And.left (And.right (And.left (And.right (And.right (And.right (And.right (And.right (And.right (by with_reducible assumption)))))))))) : @Ne Nat _ _) | exact Ne.symm ((And.left (And.right (And.left (And.right (And.right (And.right (And.right (And.right (And.right (by with_reducible assumption)))))))))) : @Ne Nat _ _) | exact ((And.right (And.right (And.left (And.right (And.right (And.right (And.right (And.right (And.right (by with_reducible assumption)))))))))) : @Ne Nat _ _) | exact Ne.symm ((And.right (And.right (And.left (And.right (And.right (And.right (And.right (And.right (And.right (by with_reducible assumption)))))))))) : @Ne Nat _ _) | omega)
  k_with "ktr_room" => ((try simp only [depth_under_make, depth_under_kw, depth_in1, depth_deeper, depth_caller]); (try dsimp only [ktrTop]); first | exact Nat.lt_of_le_of_lt (Nat.le_add_right _ _) (by with_reducible assumption) | exact roomStep (by with_reducible assumption) (by first | exact Nat.le_refl _ | decide | exact r2 _ | omega) | fail "room")
  k_with "ktr_units" => ((try simp only [units_in1, units_deeper, Around.mark_units, units_caller]); (try dsimp only [ktrTop]); first | exact unitStep (by with_reducible assumption) (by first | exact Nat.le_refl _ | decide | exact u20 _ | exact u40 _ | omega) | fail "units")
  k_with "k_mem" => first | exact tail_mem (by assumption) (by k_mem) | fail "k_mem"
  k_with "k_mem" => assumption
  k_with "k_mem" => first | exact List.mem_cons_of_mem _ (by assumption) | fail "k_mem"
  k_with "size_fits" => (simp only [List.size_toArray, Array.size_push, List.length_append, List.length_cons, List.length_nil, PySem.sizeLine_eq] <;> omega)
  k_with "exec If" => (k_here; k_fold)
  k_with "exec Assign" => (k_here; k_fold)
  k_with "exec Expr" => (k_here; k_fold)
  k_with "exec Return some" => (k_here; k_fold)
  k_with "execs cons" => (k_here; first | k_fold | ((with_reducible refine execsG ?_); intro t9; (try dsimp only)))
  k_with "execs nil" => (k_here; (with_reducible refine wpAny_execs_nil ?_); (try dsimp only))
  k_with "ite" => (k_here; first | (refine ite_pos (by first | omega | (simp only [beq_iff_eq, bne_iff_ne, decide_eq_true_eq]; omega)) ?_) | (refine ite_neg (by first | omega | (simp only [beq_iff_eq, bne_iff_ne, decide_eq_true_eq]; omega)) ?_))
  k_with "exec For Tuple Subscript cons nil" => k_extra "exec For Tuple"
  k_with "subscriptTail" => (k_here; (with_reducible show wpAny _ _ (subscriptTail _ _ (Value.ref _) (Value.int _ _)) _ _ _); (with_unfolding_all refine' litItem ?N ?m ?a ?b ?c ?_ ?d; (case N => k_asm); (case m => k_mem); (case a => decide); (case b => decide); (case c => rfl); (case d => with_unfolding_all rfl); k_whole))
  k_with "call builtin:list.index" => (k_here; (with_reducible show wpAny _ _ (call (Value.builtin _) [Value.ref _, Value.str _ _]) _ _ _); k_dflt (refine' kindIndex ?k0 ?N ?m ?_; (case k0 => with_reducible assumption); (case N => k_asm); (case m => k_mem)); dsimp only [Wh.ixI])
  k_with "exec If" => (k_here; k_dflt (first | ((with_reducible refine' ifT ?xe9 ?xb9 ?_); (case xe9 => kaf_pre); (case xb9 => decide); k_whole) | ((with_reducible refine' ifF ?xe9 ?xb9 ?_); (case xe9 => kaf_pre); (case xb9 => decide); k_whole)))
  k_with "isTrue Compare" => (k_here; k_dflt (first | ((with_reducible refine' isT ?xe9 ?xb9 ?_); (case xe9 => kaf_pre); (case xb9 => decide); k_whole) | ((with_reducible refine' isF ?xe9 ?xb9 ?_); (case xe9 => kaf_pre); (case xb9 => decide); k_whole) | ((with_reducible refine' isI ?xe9 ?_); (case xe9 => kaf_pre); k_whole) | ((with_reducible refine' isIl ?xe9 ?_); (case xe9 => kaf_pre); k_whole) | ((with_reducible refine' isIg ?xe9 ?_); (case xe9 => kaf_pre); k_whole)))
  k_with "eval Subscript" => (k_here; k_dflt ((with_reducible refine' Ev.go ?xe9 ?_); (case xe9 => kaf_pre); k_whole))
  k_with "spliced" => (k_here; k_dflt ((with_reducible refine' EvL.go ?xe9 ?_); (case xe9 => kaf_suf); k_whole); (try dsimp only [List.nil_append, List.cons_append]))
  k_with "eval Call" => (k_here; (with_reducible show wpAny _ _ (eval (Expr.Call (Expr.Name _ _) (_ :: _) [] _) _) _ _ _); k_dflt (refine' evCall ?xF9 ?xX9 ?xT9 ?xe9 ?xk9 ?xl9 ?_ ?xs9 ?xa9 ?xb9 ?xc9; (case xF9 => k_asm); (case xX9 => k_asm); (case xT9 => k_asm); (case xa9 => rfl); (case xb9 => rfl); (case xc9 => rfl); (case xe9 => k_is); (case xk9 => k_is); (case xl9 => kaf_suf); (case xs9 => rfl); k_whole))
  refine InsIn.sw_elim (P := fun v => Ctr w mean mg mb 77 _ _ _ (v :: _) _) hx ?_
  clear hx
  intros
  cases hk0
  all_goals (
    unfold Ctr
    intro dp un gd cn cs a ccd cl outer A₀ base h₀ L m s Q E B F X N T hk hd hu hret
    refine wpAny_call ?_
    k_dflt ktr_enter; (refine letE ?_); intro e9; (refine letA ?_); intro A9; (rename Fr _ _ _ _ => F8); (refine letM F8 ?_); clear F8; intro m9 F9
    k_steps)
  all_goals exact hret _ _ _ _ (by assumption) (by assumption) ⟨rfl, _, rfl⟩
set_option maxRecDepth 100000 in
set_option maxHeartbeats 8000000 in
theorem table_target2 (w : World) (mean : ExcName → Option Value) (mg mb : Str → Option Value) (x kv : Value) (sb : Bool) (a b d : Int) (k : Key) (R : Led) (hx : InsIn R x (.tb2 sb a b d)) (hk0 : KeyAt R kv k) (hf : fitT k sb) :
    Ctr w mean mg mb 84 2 120 R [x, kv] (fun news r => news = R ∧ ∃ t, r = .int (tab2T k sb a b d) t) := by
  k_with_none
  k_with "k_all" => first | with_reducible assumption | (refine' List.forall_mem_cons.mpr ⟨?qa9, ?qb9⟩; (case qa9 => k_ne); (case qb9 => k_all)) | exact allLt_ne (by with_reducible assumption) | exact off1_ne4 (by with_reducible assumption) | exact allLt_ne1 (by with_reducible assumption) | exact allLt_ne2 (by with_reducible assumption) | exact allLt_ne3 (by with_reducible assumption) | exact allLt_ne4 (by with_reducible assumption) | exact allLt_ne5 (by with_reducible assumption) | exact allLt_ne6 (by with_reducible assumption) | exact allLt_ne7 (by with_reducible assumption) | exact allLt_ne8 (by with_reducible assumption) | exact allLt_ne9 (by with_reducible assumption) | exact allLt_ne10 (by with_reducible assumption) | exact allLt_ne11 (by with_reducible assumption) | exact allLt_ne12 (by with_reducible assumption) | exact tail_ne (by with_reducible assumption) (fresh_ne (by with_reducible assumption) (by k_mem)) (by k_all) | fail "k_all"
  k_with "k_updF" => first | (refine' UpT.head ?ua9 ?ub9; (case ub9 => k_all); (case ua9 => k_updF)) | (refine' UpT.tail ?ua9 ?ub9; (case ua9 => k_ne); (case ub9 => k_updF)) | (refine' TailOf.cons ?ua9; (case ua9 => k_updF)) | exact TailOf.nil | fail "updT"
  k_with "kaf_pre" => first | (refine' evI ?pe9 ?pN9 ?pm9 ?px9; (case pe9 => kaf_pre); (case pN9 => k_asm); (case pm9 => k_mem); (case px9 => rfl)) | (refine' evL ?pF9 ?pv9 ?pa9 ?pb9 ?pc9; (case pF9 => k_asm); (case pa9 => rfl); (case pb9 => rfl); (case pc9 => rfl); (case pv9 => rfl)) | (refine' evC ?pN9 ?pl9 ?pm9 ?pd9 ?pa9 ?pb9 ?pc9; (case pa9 => rfl); (case pb9 => rfl); (case pc9 => rfl); (case pN9 => k_asm); (case pl9 => rfl); (case pm9 => k_mem); (case pd9 => k_asm)) | (refine' evK ?pF9 ?pX9 ?pT9 ?pe9 ?pa9 ?pb9 ?pc9; (case pF9 => k_asm); (case pX9 => k_asm); (case pT9 => k_asm); (case pa9 => rfl); (case pb9 => rfl); (case pc9 => rfl); (case pe9 => k_is))
  k_with "kaf_suf" => first | exact evl0 | (refine' evlI ?sl9; (case sl9 => kaf_suf)) | (refine' evlS ?sl9; (case sl9 => kaf_suf)) | (refine' evlN ?se9 ?sl9 ?sn9; (case sn9 => rfl); (case se9 => kaf_pre); (case sl9 => kaf_suf)) | (refine' evlE ?se9 ?sl9 ?sn9; (case sn9 => rfl); (case se9 => kaf_pre); (case sl9 => kaf_suf))
  k_with "k_ne" => (refine neN ?_; (try dsimp only); first | with_reducible assumption | exact Ne.symm (by with_reducible assumption) | (refine Nat.ne_of_gt ((?_ : ChainTo _ _ _ _) (by with_reducible assumption)); intro hch; with_reducible (first | exact And.left hch | exact And.left (And.right hch) | exact And.left (And.right (And.right hch)) | exact And.left (And.right (And.right (And.right hch))) | exact And.left (And.right (And.right (And.right (And.right hch)))) | exact And.left (And.right (And.right (And.right (And.right (And.right hch))))) | exact And.left (And.right (And.right (And.right (And.right (And.right (And.right hch)))))) | exact And.left (And.right (And.right (And.right (And.right (And.right (And.right (And.right hch))))))) | exact And.left (And.right (And.right (And.right (And.right (And.right (And.right (And.right (And.right hch)))))))) | exact And.left (And.right (And.right (And.right (And.right (And.right (And.right (And.right (And.right (And.right hch))))))))) | exact And.left (And.right (And.right (And.right (And.right (And.right (And.right (And.right (And.right (And.right (And.right hch)))))))))) | exact And.left (And.right (And.right (And.right (And.right (And.right (And.right (And.right (And.right (And.right (And.right (And.right hch))))))))))) | exact And.left (And.right (And.right (And.right (And.right (And.right (And.right (And.right (And.right (And.right (And.right (And.right (And.right hch)))))))))))) | exact And.left (And.right (And.right (And.right (And.right (And.right (And.right (And.right (And.right (And.right (And.right (And.right (And.right (And.right hch))))))))))))))) | (refine Nat.ne_of_lt ((?_ : ChainTo _ _ _ _) (by with_reducible assumption)); intro hch; with_reducible (first | exact And.left hch | exact And.left (And.right hch) | exact And.left (And.right (And.right hch)) | exact And.left (And.right (And.right (And.right hch))) | exact And.left (And.right (And.right (And.right (And.right hch)))) | exact And.left (And.right (And.right (And.right (And.right (And.right hch))))) | exact And.left (And.right (And.right (And.right (And.right (And.right (And.right hch)))))) | exact And.left (And.right (And.right (And.right (And.right (And.right (And.right (And.right hch))))))) | exact And.left (And.right (And.right (And.right (And.right (And.right (And.right (And.right (And.right hch)))))))) | exact And.left (And.right (And.right (And.right (And.right (And.right (And.right (And.right (And.right (And.right hch))))))))) | exact And.left (And.right (And.right (And.right (And.right (And.right (And.right (And.right (And.right (And.right (And.right hch)))))))))) | exact And.left (And.right (And.right (And.right (And.right (And.right (And.right (And.right (And.right (And.right (And.right (And.right hch))))))))))) | exact And.left (And.right (And.right (And.right (And.right (And.right (And.right (And.right (And.right (And.right (And.right (And.right (And.right hch)))))))))))) | exact And.left (And.right (And.right (And.right (And.right (And.right (And.right (And.right (And.right (And.right (And.right (And.right (And.right (And.right hch))))))))))))))) | exact Nat.ne_of_gt (Nat.lt_succ_of_lt (And.left (by with_reducible assumption))) | exact Nat.ne_of_lt (Nat.lt_succ_of_lt (And.left (by with_reducible assumption))) | exact Nat.ne_of_gt (Nat.lt_succ_of_lt (And.left (And.right (by with_reducible assumption)))) | exact Nat.ne_of_lt (Nat.lt_succ_of_lt (And.left (And.right (by with_reducible assumption)))) | exact Nat.ne_of_gt (Nat.lt_succ_of_lt (And.left (And.right (And.right (by with_reducible assumption))))) | exact Nat.ne_of_lt (Nat.lt_succ_of_lt (And.left (And.right (And.right (by with_reducible assumption))))) | exact Nat.ne_of_gt (Nat.lt_succ_of_lt (Nat.lt_succ_of_lt (And.left (by with_reducible assumption)))) | exact Nat.ne_of_lt (Nat.lt_succ_of_lt (Nat.lt_succ_of_lt (And.left (by with_reducible assumption)))) | exact Nat.ne_of_gt (Nat.lt_succ_of_lt (Nat.lt_succ_of_lt (And.left (And.right (by with_reducible assumption))))) | exact Nat.ne_of_lt (Nat.lt_succ_of_lt (Nat.lt_succ_of_lt (And.left (And.right (by with_reducible assumption))))) | exact Nat.ne_of_gt (Nat.lt_succ_of_lt (Nat.lt_succ_of_lt (And.left (And.right (And.right (by with_reducible assumption)))))) | exact Nat.ne_of_lt (Nat.lt_succ_of_lt (Nat.lt_succ_of_lt (And.left (And.right (And.right (by with_reducible assumption)))))) | exact Nat.ne_of_gt (Nat.lt_succ_of_lt (Nat.lt_succ_of_lt (Nat.lt_succ_of_lt (And.left (by with_reducible assumption))))) | exact Nat.ne_of_lt (Nat.lt_succ_of_lt (Nat.lt_succ_of_lt (Nat.lt_succ_of_lt (And.left (by with_reducible assumption))))) | exact Nat.ne_of_gt (Nat.lt_succ_of_lt (Nat.lt_succ_of_lt (Nat.lt_succ_of_lt (And.left (And.right (by with_reducible assumption)))))) | exact Nat.ne_of_lt (Nat.lt_succ_of_lt (Nat.lt_succ_of_lt (Nat.lt_succ_of_lt (And.left (And.right (by with_reducible assumption)))))) | exact Nat.ne_of_gt (Nat.lt_succ_of_lt (Nat.lt_succ_of_lt (Nat.lt_succ_of_lt (And.left (And.right (And.right (by with_reducible assumption))))))) | exact Nat.ne_of_lt (Nat.lt_succ_of_lt (Nat.lt_succ_of_lt (Nat.lt_succ_of_lt (And.left (And.right (And.right (by with_reducible assumption))))))) | exact Nat.ne_of_gt (Nat.lt_succ_self _) | exact Nat.ne_of_lt (Nat.lt_succ_self _) | exact Nat.ne_of_gt (Nat.lt_succ_of_lt (Nat.lt_succ_self _)) | exact Nat.ne_of_lt (Nat.lt_succ_of_lt (Nat.lt_succ_self _)) | exact ((And.left (And.left (by with_reducible assumption))) : @Ne Nat _ _) | exact Ne.symm ((And.left (And.left (by with_reducible assumption))) : @Ne Nat _ _) | exact ((And.left (And.right (And.left (by with_reducible assumption)))) : @Ne Nat _ _) | exact Ne.symm ((And.left (And.right (And.left (by with_reducible assumption)))) : @Ne Nat _ _) | exact ((And.right (And.right (And.left (by with_reducible assumption)))) : @Ne Nat _ _) | exact Ne.symm ((And.right (And.right (And.left (by with_reducible assumption)))) : @Ne Nat _ _) | exact ((And.left (And.left (And.right (by with_reducible assumption)))) : @Ne Nat _ _) | exact Ne.symm ((And.left (And.left (And.right (by with_reducible assumption)))) : @Ne Nat _ _) | exact ((And.left (And.right (And.left (And.right (by with_reducible assumption))))) : @Ne Nat _ _) | exact Ne.symm ((And.left (And.right (And.left (And.right (by with_reducible assumption))))) : @Ne Nat _ _) | exact ((And.right (And.right (And.left (And.right (by with_reducible assumption))))) : @Ne Nat _ _) | exact Ne.symm ((And.right (And.right (And.left (And.right (by with_reducible assumption))))) : @Ne Nat _ _) | exact ((And.left (And.left (And.right (And.right (by with_reducible assumption))))) : @Ne Nat _ _) | exact Ne.symm ((And.left (And.left (And.right (And.right (by with_reducible assumption))))) : @Ne Nat _ _) | exact ((And.left (And.right (And.left (And.right (And.right (by with_reducible assumption)))))) : @Ne Nat _ _) | exact Ne.symm ((And.left (And.right (And.left (And.right (And.right (by with_reducible assumption)))))) : @Ne Nat _ _) | exact ((And.right (And.right (And.left (And.right (And.right (by with_reducible assumption)))))) : @Ne Nat _ _) | exact Ne.symm ((And.right (And.right (And.left (And.right (And.right (by with_reducible assumption)))))) : @Ne Nat _ _) | exact ((And.left (And.left (And.right (And.right (And.right (by with_reducible assumption)))))) : @Ne Nat _ _) | exact Ne.symm ((And.left (And.left (And.right (And.right (And.right (by with_reducible assumption)))))) : @Ne Nat _ _) | exact ((And.left (And.right (And.left (And.right (And.right (And.right (by with_reducible assumption))))))) : @Ne Nat _ _) | exact Ne.symm ((And.left (And.right (And.left (And.right (And.right (And.right (by with_reducible assumption))))))) : @Ne Nat _ _) | exact ((And.right (And.right (And.left (And.right (And.right (And.right (by with_reducible assumption))))))) : @Ne Nat _ _) | exact Ne.symm ((And.right (And.right (And.left (And.right (And.right (And.right (by with_reducible assumption))))))) : @Ne Nat _ _) | exact ((And.left (And.left (And.right (And.right (And.right (And.right (by with_reducible assumption))))))) : @Ne Nat _ _) | exact Ne.symm ((And.left (And.left (And.right (And.right (And.right (And.right (by with_reducible assumption))))))) : @Ne Nat _ _) | exact ((And.left (And.right (And.left (And.right (And.right (And.right (And.right (by with_reducible assumption)))))))) : @Ne Nat _ _) | exact Ne.symm ((And.left (And.right (And.left (And.right (And.right (And.right (And.right (by with_reducible assumption)))))))) : @Ne Nat _ _) | exact ((And.right (And.right (And.left (And.right (And.right (And.right (And.right (by with_reducible assumption)))))))) : @Ne Nat _ _) | exact Ne.symm ((And.right (And.right (And.left (And.right (And.right (And.right (And.right (by with_reducible assumption)))))))) : @Ne Nat _ _) | exact ((And.left (And.left (And.right (And.right (And.right (And.right (And.right (by with_reducible assumption)))))))) : @Ne Nat _ _) | exact Ne.symm ((And.left (And.left (And.right (And.right (And.right (And.right (And.right (by with_reducible assumption)))))))) : @Ne Nat _ _) | exact ((And.left (And.right (And.left (And.right (And.right (And.right (And.right (And.right (by with_reducible assumption))))))))) : @Ne Nat _ _) | exact Ne.symm ((And.left (And.right (And.left (And.right (And.right (And.right (And.right (And.right (by with_reducible assumption))))))))) : @Ne Nat _ _) | exact ((And.right (And.right (And.left (And.right (And.right (And.right (And.right (And.right (by with_reducible assumption))))))))) : @Ne Nat _ _) | exact Ne.symm ((And.right (And.right (And.left (And.right (And.right (And.right (And.right (And.right (by with_reducible assumption))))))))) : @Ne Nat _ _) | exact ((And.left (And.left (And.right (And.right (And.right (And.right (And.right (And.right (by with_reducible assumption))))))))) : @Ne Nat _ _) | exact Ne.symm ((And.left (And.left (And.right (And.right (And.right (And.right (And.right (And.right (by with_reducible assumption))))))))) : @Ne Nat _ _) | exact ((And.left (And.right (And.left (And.right (And.right (And.right (And.right (And.right (And.right (by with_reducible assumption)))))))))) : @Ne Nat _ _) | exact Ne.symm ((And.left (And.right (And.left (And.right (And.right (And.right (And.right (And.right (And.right (by with_reducible assumption)))))))))) : @Ne Nat _ _) | exact ((And.right (And.right (And.left (And.right (And.right (And.right (And.right (And.right (And.right (by with_reducible assumption)))))))))) : @Ne Nat _ _) | exact Ne.symm ((And.right (And.right (And.left (And.right (And.right (And.right (And.right (And.right (And.right (by with_reducible assumption)))))))))) : @Ne Nat _ _) | omega)
  k_with "ktr_room" => ((try simp only [depth_under_make, depth_under_kw, depth_in1, depth_deeper, depth_caller]); (try dsimp only [ktrTop]); first | exact Nat.lt_of_le_of_lt (Nat.le_add_right _ _) (by with_reducible assumption) | exact roomStep (by with_reducible assumption) (by first | exact Nat.le_refl _ | decide | exact r2 _ | omega) | fail "room")
  k_with "ktr_units" => ((try simp only [units_in1, units_deeper, Around.mark_units, units_caller]); (try dsimp only [ktrTop]); first | exact unitStep (by with_reducible assumption) (by first | exact Nat.le_refl _ | decide | exact u20 _ | exact u40 _ | omega) | fail "units")
  k_with "k_mem" => first | exact tail_mem (by assumption) (by k_mem) | fail "k_mem"
  k_with "k_mem" => assumption
  k_with "k_mem" => first | exact List.mem_cons_of_mem _ (by assumption) | fail "k_mem"
  k_with "size_fits" => (simp only [List.size_toArray, Array.size_push, List.length_append, List.length_cons, List.length_nil, PySem.sizeLine_eq] <;> omega)
  k_with "exec If" => (k_here; k_fold)
  k_with "exec Assign" => (k_here; k_fold)
  k_with "exec Expr" => (k_here; k_fold)
  k_with "exec Return some" => (k_here; k_fold)
  k_with "execs cons" => (k_here; first | k_fold | ((with_reducible refine execsG ?_); intro t9; (try dsimp only)))
  k_with "execs nil" => (k_here; (with_reducible refine wpAny_execs_nil ?_); (try dsimp only))
  k_with "compareOp Eq ref ref" => (k_here; (with_reducible show wpAny _ _ (compareOp CmpOp.Eq (Value.ref _) (Value.ref _)) _ _ _); k_dflt (refine' eqKey ?N ?x ?y ?u ?_; (case N => k_asm); (case x => k_mem); (case y => k_mem); (case u => ktr_units)); generalize hg : hitT _ _ _ = b9; cases b9)
  k_with "ite" => (k_here; first | (refine ite_pos (by first | omega | (simp only [beq_iff_eq, bne_iff_ne, decide_eq_true_eq]; omega)) ?_) | (refine ite_neg (by first | omega | (simp only [beq_iff_eq, bne_iff_ne, decide_eq_true_eq]; omega)) ?_))
  k_with "exec For Name Subscript cons nil" => k_extra "exec For Name"
  k_with "exec For Tuple Subscript cons nil" => k_extra "exec For Tuple"
  k_with "subscriptTail" => (k_here; (with_reducible show wpAny _ _ (subscriptTail _ _ (Value.ref _) (Value.int _ _)) _ _ _); (with_unfolding_all refine' litItem ?N ?m ?a ?b ?c ?_ ?d; (case N => k_asm); (case m => k_mem); (case a => decide); (case b => decide); (case c => rfl); (case d => with_unfolding_all rfl); k_whole))
  k_with "call builtin:list.index" => (k_here; (with_reducible show wpAny _ _ (call (Value.builtin _) [Value.ref _, Value.str _ _]) _ _ _); k_dflt (refine' kindIndex ?k0 ?N ?m ?_; (case k0 => with_reducible assumption); (case N => k_asm); (case m => k_mem)); dsimp only [Wh.ixI])
  k_with "exec If" => (k_here; k_dflt (first | ((with_reducible refine' ifT ?xe9 ?xb9 ?_); (case xe9 => kaf_pre); (case xb9 => decide); k_whole) | ((with_reducible refine' ifF ?xe9 ?xb9 ?_); (case xe9 => kaf_pre); (case xb9 => decide); k_whole)))
  k_with "isTrue Compare" => (k_here; k_dflt (first | ((with_reducible refine' isT ?xe9 ?xb9 ?_); (case xe9 => kaf_pre); (case xb9 => decide); k_whole) | ((with_reducible refine' isF ?xe9 ?xb9 ?_); (case xe9 => kaf_pre); (case xb9 => decide); k_whole) | ((with_reducible refine' isI ?xe9 ?_); (case xe9 => kaf_pre); k_whole) | ((with_reducible refine' isIl ?xe9 ?_); (case xe9 => kaf_pre); k_whole) | ((with_reducible refine' isIg ?xe9 ?_); (case xe9 => kaf_pre); k_whole)))
  k_with "eval Subscript" => (k_here; k_dflt ((with_reducible refine' Ev.go ?xe9 ?_); (case xe9 => kaf_pre); k_whole))
  k_with "spliced" => (k_here; k_dflt ((with_reducible refine' EvL.go ?xe9 ?_); (case xe9 => kaf_suf); k_whole); (try dsimp only [List.nil_append, List.cons_append]))
  k_with "eval Call" => (k_here; (with_reducible show wpAny _ _ (eval (Expr.Call (Expr.Name _ _) (_ :: _) [] _) _) _ _ _); k_dflt (refine' evCall ?xF9 ?xX9 ?xT9 ?xe9 ?xk9 ?xl9 ?_ ?xs9 ?xa9 ?xb9 ?xc9; (case xF9 => k_asm); (case xX9 => k_asm); (case xT9 => k_asm); (case xa9 => rfl); (case xb9 => rfl); (case xc9 => rfl); (case xe9 => k_is); (case xk9 => k_is); (case xl9 => kaf_suf); (case xs9 => rfl); k_whole))
  k_with "exec For Name" => (k_here; (rename Fr _ _ _ _ => lF'); (with_unfolding_all refine' For_turns lF' ?_; k_whole))
  k_with "pyIter ref" => (k_here; (with_reducible show wpAny _ _ (pyIter (Value.ref _)) (fun it s₂ => TurnsAt _ _ _ _ _ _ _ _ _ it s₂) _ _); (rename Fr _ _ _ _ => lF'); (rename News _ _ _ _ => lN'); (first | (with_unfolding_all refine' iter_tupTurns (vs := [_, _]) (by rfl) lF' lN' (by k_mem) (by rfl) (by rfl) ?_) | (with_unfolding_all refine' iter_tupTurns (vs := [_]) (by rfl) lF' lN' (by k_mem) (by rfl) (by rfl) ?_)  | (with_unfolding_all refine' iter_tupTurns (vs := []) (by rfl) lF' lN' (by k_mem) (by rfl) (by rfl) ?_)); clear lF'; intro i' l1; dsimp only [List.map])
  k_with "UnrEndW" => ((rename Fr _ _ _ _ => lF'); (rename News _ _ _ _ => lN'); (refine unrKeepW lF' lN' (.head _) (fun p hp => .tail _ hp) (by assumption) ⟨⟨?hlp, trivial⟩, ?_⟩); (case hlp => assumption))
  cases hk0 <;> cases sb <;> first | exact hf.elim | skip
  all_goals (refine InsIn.tb2_elim (P := fun v => Ctr w mean mg mb 84 _ _ _ (v :: _) _) hx ?_; clear hx; intros)
  all_goals (rename KeyIn _ _ _ 3 => q3; cases q3)
  all_goals (rename KeyIn _ _ _ 5 => q5; cases q5)
  all_goals (
    unfold Ctr
    intro dp un gd cn cs a ccd cl outer A₀ base h₀ L m s Q E B F X N T hk hd hu hret
    refine wpAny_call ?_
    k_dflt ktr_enter; (refine letE ?_); intro e9; (refine letA ?_); intro A9; (rename Fr _ _ _ _ => F8); (refine letM F8 ?_); clear F8; intro m9 F9
    k_steps)
  all_goals (
    (rename Fr _ _ _ _ => kF)
    (rename News _ _ _ _ => kN)
    (refine hret _ R _ _ kF (newsSub kN (by intro p hp; first | exact hp | exact .tail _ hp)) ⟨rfl, int_ex ?_⟩)
    (first | rfl | (simp [tab2T, *]; done) | (subst_vars; simp [tab2T, hitT]; done) | (simp [tab2T, hitT]; omega)))
set_option maxRecDepth 100000 in
set_option maxHeartbeats 8000000 in
theorem table_target1 (w : World) (mean : ExcName → Option Value) (mg mb : Str → Option Value) (x kv : Value) (sb : Bool) (a d : Int) (k : Key) (R : Led) (hx : InsIn R x (.tb1 sb a d)) (hk0 : KeyAt R kv k) (hf : fitT k sb) :
    Ctr w mean mg mb 84 2 120 R [x, kv] (fun news r => news = R ∧ ∃ t, r = .int (tab1T k sb a d) t) := by
  k_with_none
  k_with "k_all" => first | with_reducible assumption | (refine' List.forall_mem_cons.mpr ⟨?qa9, ?qb9⟩; (case qa9 => k_ne); (case qb9 => k_all)) | exact allLt_ne (by with_reducible assumption) | exact off1_ne4 (by with_reducible assumption) | exact allLt_ne1 (by with_reducible assumption) | exact allLt_ne2 (by with_reducible assumption) | exact allLt_ne3 (by with_reducible assumption) | exact allLt_ne4 (by with_reducible assumption) | exact allLt_ne5 (by with_reducible assumption) | exact allLt_ne6 (by with_reducible assumption) | exact allLt_ne7 (by with_reducible assumption) | exact allLt_ne8 (by with_reducible assumption) | exact allLt_ne9 (by with_reducible assumption) | exact allLt_ne10 (by with_reducible assumption) | exact allLt_ne11 (by with_reducible assumption) | exact allLt_ne12 (by with_reducible assumption) | exact tail_ne (by with_reducible assumption) (fresh_ne (by with_reducible assumption) (by k_mem)) (by k_all) | fail "k_all"
  k_with "k_updF" => first | (refine' UpT.head ?ua9 ?ub9; (case ub9 => k_all); (case ua9 => k_updF)) | (refine' UpT.tail ?ua9 ?ub9; (case ua9 => k_ne); (case ub9 => k_updF)) | (refine' TailOf.cons ?ua9; (case ua9 => k_updF)) | exact TailOf.nil | fail "updT"
  k_with "kaf_pre" => first | (refine' evI ?pe9 ?pN9 ?pm9 ?px9; (case pe9 => kaf_pre); (case pN9 => k_asm); (case pm9 => k_mem); (case px9 => rfl)) | (refine' evL ?pF9 ?pv9 ?pa9 ?pb9 ?pc9; (case pF9 => k_asm); (case pa9 => rfl); (case pb9 => rfl); (case pc9 => rfl); (case pv9 => rfl)) | (refine' evC ?pN9 ?pl9 ?pm9 ?pd9 ?pa9 ?pb9 ?pc9; (case pa9 => rfl); (case pb9 => rfl); (case pc9 => rfl); (case pN9 => k_asm); (case pl9 => rfl); (case pm9 => k_mem); (case pd9 => k_asm)) | (refine' evK ?pF9 ?pX9 ?pT9 ?pe9 ?pa9 ?pb9 ?pc9; (case pF9 => k_asm); (case pX9 => k_asm); (case pT9 => k_asm); (case pa9 => rfl); (case pb9 => rfl); (case pc9 => rfl); (case pe9 => k_is))
  k_with "kaf_suf" => first | exact evl0 | (refine' evlI ?sl9; (case sl9 => kaf_suf)) | (refine' evlS ?sl9; (case sl9 => kaf_suf)) | (refine' evlN ?se9 ?sl9 ?sn9; (case sn9 => rfl); (case se9 => kaf_pre); (case sl9 => kaf_suf)) | (refine' evlE ?se9 ?sl9 ?sn9; (case sn9 => rfl); (case se9 => kaf_pre); (case sl9 => kaf_suf))
  k_with "k_ne" => (refine neN ?_; (try dsimp only); first | with_reducible assumption | exact Ne.symm (by with_reducible assumption) | (refine Nat.ne_of_gt ((?_ : ChainTo _ _ _ _) (by with_reducible assumption)); intro hch; with_reducible (first | exact And.left hch | exact And.left (And.right hch) | exact And.left (And.right (And.right hch)) | exact And.left (And.right (And.right (And.right hch))) | exact And.left (And.right (And.right (And.right (And.right hch)))) | exact And.left (And.right (And.right (And.right (And.right (And.right hch))))) | exact And.left (And.right (And.right (And.right (And.right (And.right (And.right hch)))))) | exact And.left (And.right (And.right (And.right (And.right (And.right (And.right (And.right hch))))))) | exact And.left (And.right (And.right (And.right (And.right (And.right (And.right (And.right (And.right hch)))))))) | exact And.left (And.right (And.right (And.right (And.right (And.right (And.right (And.right (And.right (And.right hch))))))))) | exact And.left (And.right (And.right (And.right (And.right (And.right (And.right (And.right (And.right (And.right (And.right hch)))))))))) | exact And.left (And.right (And.right (And.right (And.right (And.right (And.right (And.right (And.right (And.right (And.right (And.right hch))))))))))) | exact And.left (And.right (And.right (And.right (And.right (And.right (And.right (And.right (And.right (And.right (And.right (And.right (And.right hch)))))))))))) | exact And.left (And.right (And.right (And.right (And.right (And.right (And.right (And.right (And.right (And.right (And.right (And.right (And.right (And.right hch))))))))))))))) | (refine Nat.ne_of_lt ((?_ : ChainTo _ _ _ _) (by with_reducible assumption)); intro hch; with_reducible (first | exact And.left hch | exact And.left (And.right hch) | exact And.left (And.right (And.right hch)) | exact And.left (And.right (And.right (And.right hch))) | exact And.left (And.right (And.right (And.right (And.right hch)))) | exact And.left (And.right (And.right (And.right (And.right (And.right hch))))) | exact And.left (And.right (And.right (And.right (And.right (And.right (And.right hch)))))) | exact And.left (And.right (And.right (And.right (And.right (And.right (And.right (And.right hch))))))) | exact And.left (And.right (And.right (And.right (And.right (And.right (And.right (And.right (And.right hch)))))))) | exact And.left (And.right (And.right (And.right (And.right (And.right (And.right (And.right (And.right (And.right hch))))))))) | exact And.left (And.right (And.right (And.right (And.right (And.right (And.right (And.right (And.right (And.right (And.right hch)))))))))) | exact And.left (And.right (And.right (And.right (And.right (And.right (And.right (And.right (And.right (And.right (And.right (And.right hch))))))))))) | exact And.left (And.right (And.right (And.right (And.right (And.right (And.right (And.right (And.right (And.right (And.right (And.right (And.right hch)))))))))))) | exact And.left (And.right (And.right (And.right (And.right (And.right (And.right (And.right (And.right (And.right (And.right (And.right (And.right (And.right hch))))))))))))))) | exact Nat.ne_of_gt (Nat.lt_succ_of_lt (And.left (by with_reducible assumption))) | exact Nat.ne_of_lt (Nat.lt_succ_of_lt (And.left (by with_reducible assumption))) | exact Nat.ne_of_gt (Nat.lt_succ_of_lt (And.left (And.right (by with_reducible assumption)))) | exact Nat.ne_of_lt (Nat.lt_succ_of_lt (And.left (And.right (by with_reducible assumption)))) | exact Nat.ne_of_gt (Nat.lt_succ_of_lt (And.left (And.right (And.right (by with_reducible assumption))))) | exact Nat.ne_of_lt (Nat.lt_succ_of_lt (And.left (And.right (And.right (by with_reducible assumption))))) | exact Nat.ne_of_gt (Nat.lt_succ_of_lt (Nat.lt_succ_of_lt (And.left (by with_reducible assumption)))) | exact Nat.ne_of_lt (Nat.lt_succ_of_lt (Nat.lt_succ_of_lt (And.left (by with_reducible assumption)))) | exact Nat.ne_of_gt (Nat.lt_succ_of_lt (Nat.lt_succ_of_lt (And.left (And.right (by with_reducible assumption))))) | exact Nat.ne_of_lt (Nat.lt_succ_of_lt (Nat.lt_succ_of_lt (And.left (And.right (by with_reducible assumption))))) | exact Nat.ne_of_gt (Nat.lt_succ_of_lt (Nat.lt_succ_of_lt (And.left (And.right (And.right (by with_reducible assumption)))))) | exact Nat.ne_of_lt (Nat.lt_succ_of_lt (Nat.lt_succ_of_lt (And.left (And.right (And.right (by with_reducible assumption)))))) | exact Nat.ne_of_gt (Nat.lt_succ_of_lt (Nat.lt_succ_of_lt (Nat.lt_succ_of_lt (And.left (by with_reducible assumption))))) | exact Nat.ne_of_lt (Nat.lt_succ_of_lt (Nat.lt_succ_of_lt (Nat.lt_succ_of_lt (And.left (by with_reducible assumption))))) | exact Nat.ne_of_gt (Nat.lt_succ_of_lt (Nat.lt_succ_of_lt (Nat.lt_succ_of_lt (And.left (And.right (by with_reducible assumption)))))) | exact Nat.ne_of_lt (Nat.lt_succ_of_lt (Nat.lt_succ_of_lt (Nat.lt_succ_of_lt (And.left (And.right (by with_reducible assumption)))))) | exact Nat.ne_of_gt (Nat.lt_succ_of_lt (Nat.lt_succ_of_lt (Nat.lt_succ_of_lt (And.left (And.right (And.right (by with_reducible assumption))))))) | exact Nat.ne_of_lt (Nat.lt_succ_of_lt (Nat.lt_succ_of_lt (Nat.lt_succ_of_lt (And.left (And.right (And.right (by with_reducible assumption))))))) | exact Nat.ne_of_gt (Nat.lt_succ_self _) | exact Nat.ne_of_lt (Nat.lt_succ_self _) | exact Nat.ne_of_gt (Nat.lt_succ_of_lt (Nat.lt_succ_self _)) | exact Nat.ne_of_lt (Nat.lt_succ_of_lt (Nat.lt_succ_self _)) | exact ((And.left (And.left (by with_reducible assumption))) : @Ne Nat _ _) | exact Ne.symm ((And.left (And.left (by with_reducible assumption))) : @Ne Nat _ _) | exact ((And.left (And.right (And.left (by with_reducible assumption)))) : @Ne Nat _ _) | exact Ne.symm ((And.left (And.right (And.left (by with_reducible assumption)))) : @Ne Nat _ _) | exact ((And.right (And.right (And.left (by with_reducible assumption)))) : @Ne Nat _ _) | exact Ne.symm ((And.right (And.right (And.left (by with_reducible assumption)))) : @Ne Nat _ _) | exact ((And.left (And.left (And.right (by with_reducible assumption)))) : @Ne Nat _ _) | exact Ne.symm ((And.left (And.left (And.right (by with_reducible assumption)))) : @Ne Nat _ _) | exact ((And.left (And.right (And.left (And.right (by with_reducible assumption))))) : @Ne Nat _ _) | exact Ne.symm ((And.left (And.right (And.left (And.right (by with_reducible assumption))))) : @Ne Nat _ _) | exact ((And.right (And.right (And.left (And.right (by with_reducible assumption))))) : @Ne Nat _ _) | exact Ne.symm ((And.right (And.right (And.left (And.right (by with_reducible assumption))))) : @Ne Nat _ _) | exact ((And.left (And.left (And.right (And.right (by with_reducible assumption))))) : @Ne Nat _ _) | exact Ne.symm ((And.left (And.left (And.right (And.right (by with_reducible assumption))))) : @Ne Nat _ _) | exact ((And.left (And.right (And.left (And.right (And.right (by with_reducible assumption)))))) : @Ne Nat _ _) | exact Ne.symm ((And.left (And.right (And.left (And.right (And.right (by with_reducible assumption)))))) : @Ne Nat _ _) | exact ((And.right (And.right (And.left (And.right (And.right (by with_reducible assumption)))))) : @Ne Nat _ _) | exact Ne.symm ((And.right (And.right (And.left (And.right (And.right (by with_reducible assumption)))))) : @Ne Nat _ _) | exact ((And.left (And.left (And.right (And.right (And.right (by with_reducible assumption)))))) : @Ne Nat _ _) | exact Ne.symm ((And.left (And.left (And.right (And.right (And.right (by with_reducible assumption)))))) : @Ne Nat _ _) | exact ((And.left (And.right (And.left (And.right (And.right (And.right (by with_reducible assumption))))))) : @Ne Nat _ _) | exact Ne.symm ((And.left (And.right (And.left (And.right (And.right (And.right (by with_reducible assumption))))))) : @Ne Nat _ _) | exact ((And.right (And.right (And.left (And.right (And.right (And.right (by with_reducible assumption))))))) : @Ne Nat _ _) | exact Ne.symm ((And.right (And.right (And.left (And.right (And.right (And.right (by with_reducible assumption))))))) : @Ne Nat _ _) | exact ((And.left (And.left (And.right (And.right (And.right (And.right (by with_reducible assumption))))))) : @Ne Nat _ _) | exact Ne.symm ((And.left (And.left (And.right (And.right (And.right (And.right (by with_reducible assumption))))))) : @Ne Nat _ _) | exact ((And.left (And.right (And.left (And.right (And.right (And.right (And.right (by with_reducible assumption)))))))) : @Ne Nat _ _) | exact Ne.symm ((And.left (And.right (And.left (And.right (And.right (And.right (And.right (by with_reducible assumption)))))))) : @Ne Nat _ _) | exact ((And.right (And.right (And.left (And.right (And.right (And.right (And.right (by with_reducible assumption)))))))) : @Ne Nat _ _) | exact Ne.symm ((And.right (And.right (And.left (And.right (And.right (And.right (And.right (by with_reducible assumption)))))))) : @Ne Nat _ _) | exact ((And.left (And.left (And.right (And.right (And.right (And.right (And.right (by with_reducible assumption)))))))) : @Ne Nat _ _) | exact Ne.symm ((And.left (And.left (And.right (And.right (And.right (And.right (And.right (by with_reducible assumption)))))))) : @Ne Nat _ _) | exact ((And.left (And.right (And.left (And.right (And.right (And.right (And.right (And.right (by with_reducible assumption))))))))) : @Ne Nat _ _) | exact Ne.symm ((And.left (And.right (And.left (And.right (And.right (And.right (And.right (And.right (by with_reducible assumption))))))))) : @Ne Nat _ _) | exact ((And.right (And.right (And.left (And.right (And.right (And.right (And.right (And.right (by with_reducible assumption))))))))) : @Ne Nat _ _) | exact Ne.symm ((And.right (And.right (And.left (And.right (And.right (And.right (And.right (And.right (by with_reducible assumption))))))))) : @Ne Nat _ _) | exact ((And.left (And.left (And.right (And.right (And.right (And.right (And.right (And.right (by with_reducible assumption))))))))) : @Ne Nat _ _) | exact Ne.symm ((And.left (And.left (And.right (And.right (And.right (And.right (And.right (And.right (by with_reducible assumption))))))))) : @Ne Nat _ _) | exact ((And.left (And.right (And.left (And.right (And.right (And.right (And.right (And.right (And.right (by with_reducible assumption)))))))))) : @Ne Nat _ _) | exact Ne.symm ((And.left (And.right (And.left (And.right (And.right (And.right (And.right (And.right (And.right (by with_reducible assumption)))))))))) : @Ne Nat _ _) | exact ((And.right (And.right (And.left (And.right (And.right (And.right (And.right (And.right (And.right (by with_reducible assumption)))))))))) : @Ne Nat _ _) | exact Ne.symm ((And.right (And.right (And.left (And.right (And.right (And.right (And.right (And.right (And.right (by with_reducible assumption)))))))))) : @Ne Nat _ _) | omega)
  k_with "ktr_room" => ((try simp only [depth_under_make, depth_under_kw, depth_in1, depth_deeper, depth_caller]); (try dsimp only [ktrTop]); first | exact Nat.lt_of_le_of_lt (Nat.le_add_right _ _) (by with_reducible assumption) | exact roomStep (by with_reducible assumption) (by first | exact Nat.le_refl _ | decide | exact r2 _ | omega) | fail "room")
  k_with "ktr_units" => ((try simp only [units_in1, units_deeper, Around.mark_units, units_caller]); (try dsimp only [ktrTop]); first | exact unitStep (by with_reducible assumption) (by first | exact Nat.le_refl _ | decide | exact u20 _ | exact u40 _ | omega) | fail "units")
  k_with "k_mem" => first | exact tail_mem (by assumption) (by k_mem) | fail "k_mem"
  k_with "k_mem" => assumption
  k_with "k_mem" => first | exact List.mem_cons_of_mem _ (by assumption) | fail "k_mem"
  k_with "size_fits" => (simp only [List.size_toArray, Array.size_push, List.length_append, List.length_cons, List.length_nil, PySem.sizeLine_eq] <;> omega)
  k_with "exec If" => (k_here; k_fold)
  k_with "exec Assign" => (k_here; k_fold)
  k_with "exec Expr" => (k_here; k_fold)
  k_with "exec Return some" => (k_here; k_fold)
  k_with "execs cons" => (k_here; first | k_fold | ((with_reducible refine execsG ?_); intro t9; (try dsimp only)))
  k_with "execs nil" => (k_here; (with_reducible refine wpAny_execs_nil ?_); (try dsimp only))
  k_with "compareOp Eq ref ref" => (k_here; (with_reducible show wpAny _ _ (compareOp CmpOp.Eq (Value.ref _) (Value.ref _)) _ _ _); k_dflt (refine' eqKey ?N ?x ?y ?u ?_; (case N => k_asm); (case x => k_mem); (case y => k_mem); (case u => ktr_units)); generalize hg : hitT _ _ _ = b9; cases b9)
  k_with "ite" => (k_here; first | (refine ite_pos (by first | omega | (simp only [beq_iff_eq, bne_iff_ne, decide_eq_true_eq]; omega)) ?_) | (refine ite_neg (by first | omega | (simp only [beq_iff_eq, bne_iff_ne, decide_eq_true_eq]; omega)) ?_))
  k_with "exec For Name Subscript cons nil" => k_extra "exec For Name"
  k_with "exec For Tuple Subscript cons nil" => k_extra "exec For Tuple"
  k_with "subscriptTail" => (k_here; (with_reducible show wpAny _ _ (subscriptTail _ _ (Value.ref _) (Value.int _ _)) _ _ _); (with_unfolding_all refine' litItem ?N ?m ?a ?b ?c ?_ ?d; (case N => k_asm); (case m => k_mem); (case a => decide); (case b => decide); (case c => rfl); (case d => with_unfolding_all rfl); k_whole))
  k_with "call builtin:list.index" => (k_here; (with_reducible show wpAny _ _ (call (Value.builtin _) [Value.ref _, Value.str _ _]) _ _ _); k_dflt (refine' kindIndex ?k0 ?N ?m ?_; (case k0 => with_reducible assumption); (case N => k_asm); (case m => k_mem)); dsimp only [Wh.ixI])
  k_with "exec If" => (k_here; k_dflt (first | ((with_reducible refine' ifT ?xe9 ?xb9 ?_); (case xe9 => kaf_pre); (case xb9 => decide); k_whole) | ((with_reducible refine' ifF ?xe9 ?xb9 ?_); (case xe9 => kaf_pre); (case xb9 => decide); k_whole)))
  k_with "isTrue Compare" => (k_here; k_dflt (first | ((with_reducible refine' isT ?xe9 ?xb9 ?_); (case xe9 => kaf_pre); (case xb9 => decide); k_whole) | ((with_reducible refine' isF ?xe9 ?xb9 ?_); (case xe9 => kaf_pre); (case xb9 => decide); k_whole) | ((with_reducible refine' isI ?xe9 ?_); (case xe9 => kaf_pre); k_whole) | ((with_reducible refine' isIl ?xe9 ?_); (case xe9 => kaf_pre); k_whole) | ((with_reducible refine' isIg ?xe9 ?_); (case xe9 => kaf_pre); k_whole)))
  k_with "eval Subscript" => (k_here; k_dflt ((with_reducible refine' Ev.go ?xe9 ?_); (case xe9 => kaf_pre); k_whole))
  k_with "spliced" => (k_here; k_dflt ((with_reducible refine' EvL.go ?xe9 ?_); (case xe9 => kaf_suf); k_whole); (try dsimp only [List.nil_append, List.cons_append]))
  k_with "eval Call" => (k_here; (with_reducible show wpAny _ _ (eval (Expr.Call (Expr.Name _ _) (_ :: _) [] _) _) _ _ _); k_dflt (refine' evCall ?xF9 ?xX9 ?xT9 ?xe9 ?xk9 ?xl9 ?_ ?xs9 ?xa9 ?xb9 ?xc9; (case xF9 => k_asm); (case xX9 => k_asm); (case xT9 => k_asm); (case xa9 => rfl); (case xb9 => rfl); (case xc9 => rfl); (case xe9 => k_is); (case xk9 => k_is); (case xl9 => kaf_suf); (case xs9 => rfl); k_whole))
  k_with "exec For Name" => (k_here; (rename Fr _ _ _ _ => lF'); (with_unfolding_all refine' For_turns lF' ?_; k_whole))
  k_with "pyIter ref" => (k_here; (with_reducible show wpAny _ _ (pyIter (Value.ref _)) (fun it s₂ => TurnsAt _ _ _ _ _ _ _ _ _ it s₂) _ _); (rename Fr _ _ _ _ => lF'); (rename News _ _ _ _ => lN'); (first | (with_unfolding_all refine' iter_tupTurns (vs := [_, _]) (by rfl) lF' lN' (by k_mem) (by rfl) (by rfl) ?_) | (with_unfolding_all refine' iter_tupTurns (vs := [_]) (by rfl) lF' lN' (by k_mem) (by rfl) (by rfl) ?_)  | (with_unfolding_all refine' iter_tupTurns (vs := []) (by rfl) lF' lN' (by k_mem) (by rfl) (by rfl) ?_)); clear lF'; intro i' l1; dsimp only [List.map])
  k_with "UnrEndW" => ((rename Fr _ _ _ _ => lF'); (rename News _ _ _ _ => lN'); (refine unrKeepW lF' lN' (.head _) (fun p hp => .tail _ hp) (by assumption) ⟨⟨?hlp, trivial⟩, ?_⟩); (case hlp => assumption))
  cases hk0 <;> cases sb <;> first | exact hf.elim | skip
  all_goals (refine InsIn.tb1_elim (P := fun v => Ctr w mean mg mb 84 _ _ _ (v :: _) _) hx ?_; clear hx; intros)
  all_goals (rename KeyIn _ _ _ 3 => q3; cases q3)
  all_goals (
    unfold Ctr
    intro dp un gd cn cs a ccd cl outer A₀ base h₀ L m s Q E B F X N T hk hd hu hret
    refine wpAny_call ?_
    k_dflt ktr_enter; (refine letE ?_); intro e9; (refine letA ?_); intro A9; (rename Fr _ _ _ _ => F8); (refine letM F8 ?_); clear F8; intro m9 F9
    k_steps)
  all_goals (
    (rename Fr _ _ _ _ => kF)
    (rename News _ _ _ _ => kN)
    (refine hret _ R _ _ kF (newsSub kN (by intro p hp; first | exact hp | exact .tail _ hp)) ⟨rfl, int_ex ?_⟩)
    (first | rfl | (simp [tab1T, *]; done) | (subst_vars; simp [tab1T, hitT]; done) | (simp [tab1T, hitT]; omega)))
set_option maxRecDepth 100000 in
set_option maxHeartbeats 8000000 in
theorem table_target0 (w : World) (mean : ExcName → Option Value) (mg mb : Str → Option Value) (x kv : Value) (sb : Bool) (d : Int) (k : Key) (R : Led) (hx : InsIn R x (.tb0 sb d)) (hk0 : KeyAt R kv k) (hf : fitT k sb) :
    Ctr w mean mg mb 84 2 120 R [x, kv] (fun news r => news = R ∧ ∃ t, r = .int (d) t) := by
  k_with_none
  k_with "k_all" => first | with_reducible assumption | (refine' List.forall_mem_cons.mpr ⟨?qa9, ?qb9⟩; (case qa9 => k_ne); (case qb9 => k_all)) | exact allLt_ne (by with_reducible assumption) | exact off1_ne4 (by with_reducible assumption) | exact allLt_ne1 (by with_reducible assumption) | exact allLt_ne2 (by with_reducible assumption) | exact allLt_ne3 (by with_reducible assumption) | exact allLt_ne4 (by with_reducible assumption) | exact allLt_ne5 (by with_reducible assumption) | exact allLt_ne6 (by with_reducible assumption) | exact allLt_ne7 (by with_reducible assumption) | exact allLt_ne8 (by with_reducible assumption) | exact allLt_ne9 (by with_reducible assumption) | exact allLt_ne10 (by with_reducible assumption) | exact allLt_ne11 (by with_reducible assumption) | exact allLt_ne12 (by with_reducible assumption) | exact tail_ne (by with_reducible assumption) (fresh_ne (by with_reducible assumption) (by k_mem)) (by k_all) | fail "k_all"
  k_with "k_updF" => first | (refine' UpT.head ?ua9 ?ub9; (case ub9 => k_all); (case ua9 => k_updF)) | (refine' UpT.tail ?ua9 ?ub9; (case ua9 => k_ne); (case ub9 => k_updF)) | (refine' TailOf.cons ?ua9; (case ua9 => k_updF)) | exact TailOf.nil | fail "updT"
  k_with "kaf_pre" => first | (refine' evI ?pe9 ?pN9 ?pm9 ?px9; (case pe9 => kaf_pre); (case pN9 => k_asm); (case pm9 => k_mem); (case px9 => rfl)) | (refine' evL ?pF9 ?pv9 ?pa9 ?pb9 ?pc9; (case pF9 => k_asm); (case pa9 => rfl); (case pb9 => rfl); (case pc9 => rfl); (case pv9 => rfl)) | (refine' evC ?pN9 ?pl9 ?pm9 ?pd9 ?pa9 ?pb9 ?pc9; (case pa9 => rfl); (case pb9 => rfl); (case pc9 => rfl); (case pN9 => k_asm); (case pl9 => rfl); (case pm9 => k_mem); (case pd9 => k_asm)) | (refine' evK ?pF9 ?pX9 ?pT9 ?pe9 ?pa9 ?pb9 ?pc9; (case pF9 => k_asm); (case pX9 => k_asm); (case pT9 => k_asm); (case pa9 => rfl); (case pb9 => rfl); (case pc9 => rfl); (case pe9 => k_is))
  k_with "kaf_suf" => first | exact evl0 | (refine' evlI ?sl9; (case sl9 => kaf_suf)) | (refine' evlS ?sl9; (case sl9 => kaf_suf)) | (refine' evlN ?se9 ?sl9 ?sn9; (case sn9 => rfl); (case se9 => kaf_pre); (case sl9 => kaf_suf)) | (refine' evlE ?se9 ?sl9 ?sn9; (case sn9 => rfl); (case se9 => kaf_pre); (case sl9 => kaf_suf))
  k_with "k_ne" => (refine neN ?_; (try dsimp only); first | with_reducible assumption | exact Ne.symm (by with_reducible assumption) | (refine Nat.ne_of_gt ((?_ : ChainTo _ _ _ _) (by with_reducible assumption)); intro hch; with_reducible (first | exact And.left hch | exact And.left (And.right hch) | exact And.left (And.right (And.right hch)) | exact And.left (And.right (And.right (And.right hch))) | exact And.left (And.right (And.right (And.right (And.right hch)))) | exact And.left (And.right (And.right (And.right (And.right (And.right hch))))) | exact And.left (And.right (And.right (And.right (And.right (And.right (And.right hch)))))) | exact And.left (And.right (And.right (And.right (And.right (And.right (And.right (And.right hch))))))) | exact And.left (And.right (And.right (And.right (And.right (And.right (And.right (And.right (And.right hch)))))))) | exact And.left (And.right (And.right (And.right (And.right (And.right (And.right (And.right (And.right (And.right hch))))))))) | exact And.left (And.right (And.right (And.right (And.right (And.right (And.right (And.right (And.right (And.right (And.right hch)))))))))) | exact And.left (And.right (And.right (And.right (And.right (And.right (And.right (And.right (And.right (And.right (And.right (And.right hch))))))))))) | exact And.left (And.right (And.right (And.right (And.right (And.right (And.right (And.right (And.right (And.right (And.right (And.right (And.right hch)))))))))))) | exact And.left (And.right (And.right (And.right (And.right (And.right (And.right (And.right (And.right (And.right (And.right (And.right (And.right (And.right hch))))))))))))))) | (refine Nat.ne_of_lt ((?_ : ChainTo _ _ _ _) (by with_reducible assumption)); intro hch; with_reducible (first | exact And.left hch | exact And.left (And.right hch) | exact And.left (And.right (And.right hch)) | exact And.left (And.right (And.right (And.right hch))) | exact And.left (And.right (And.right (And.right (And.right hch)))) | exact And.left (And.right (And.right (And.right (And.right (And.right hch))))) | exact And.left (And.right (And.right (And.right (And.right (And.right (And.right hch)))))) | exact And.left (And.right (And.right (And.right (And.right (And.right (And.right (And.right hch))))))) | exact And.left (And.right (And.right (And.right (And.right (And.right (And.right (And.right (And.right hch)))))))) | exact And.left (And.right (And.right (And.right (And.right (And.right (And.right (And.right (And.right (And.right hch))))))))) | exact And.left (And.right (And.right (And.right (And.right (And.right (And.right (And.right (And.right (And.right (And.right hch)))))))))) | exact And.left (And.right (And.right (And.right (And.right (And.right (And.right (And.right (And.right (And.right (And.right (And.right hch))))))))))) | exact And.left (And.right (And.right (And.right (And.right (And.right (And.right (And.right (And.right (And.right (And.right (And.right (And.right hch)))))))))))) | exact And.left (And.right (And.right (And.right (And.right (And.right (And.right (And.right (And.right (And.right (And.right (And.right (And.right (And.right hch))))))))))))))) | exact Nat.ne_of_gt (Nat.lt_succ_of_lt (And.left (by with_reducible assumption))) | exact Nat.ne_of_lt (Nat.lt_succ_of_lt (And.left (by with_reducible assumption))) | exact Nat.ne_of_gt (Nat.lt_succ_of_lt (And.left (And.right (by with_reducible assumption)))) | exact Nat.ne_of_lt (Nat.lt_succ_of_lt (And.left (And.right (by with_reducible assumption)))) | exact Nat.ne_of_gt (Nat.lt_succ_of_lt (And.left (And.right (And.right (by with_reducible assumption))))) | exact Nat.ne_of_lt (Nat.lt_succ_of_lt (And.left (And.right (And.right (by with_reducible assumption))))) | exact Nat.ne_of_gt (Nat.lt_succ_of_lt (Nat.lt_succ_of_lt (And.left (by with_reducible assumption)))) | exact Nat.ne_of_lt (Nat.lt_succ_of_lt (Nat.lt_succ_of_lt (And.left (by with_reducible assumption)))) | exact Nat.ne_of_gt (Nat.lt_succ_of_lt (Nat.lt_succ_of_lt (And.left (And.right (by with_reducible assumption))))) | exact Nat.ne_of_lt (Nat.lt_succ_of_lt (Nat.lt_succ_of_lt (And.left (And.right (by with_reducible assumption))))) | exact Nat.ne_of_gt (Nat.lt_succ_of_lt (Nat.lt_succ_of_lt (And.left (And.right (And.right (by with_reducible assumption)))))) | exact Nat.ne_of_lt (Nat.lt_succ_of_lt (Nat.lt_succ_of_lt (And.left (And.right (And.right (by with_reducible assumption)))))) | exact Nat.ne_of_gt (Nat.lt_succ_of_lt (Nat.lt_succ_of_lt (Nat.lt_succ_of_lt (And.left (by with_reducible assumption))))) | exact Nat.ne_of_lt (Nat.lt_succ_of_lt (Nat.lt_succ_of_lt (Nat.lt_succ_of_lt (And.left (by with_reducible assumption))))) | exact Nat.ne_of_gt (Nat.lt_succ_of_lt (Nat.lt_succ_of_lt (Nat.lt_succ_of_lt (And.left (And.right (by with_reducible assumption)))))) | exact Nat.ne_of_lt (Nat.lt_succ_of_lt (Nat.lt_succ_of_lt (Nat.lt_succ_of_lt (And.left (And.right (by with_reducible assumption)))))) | exact Nat.ne_of_gt (Nat.lt_succ_of_lt (Nat.lt_succ_of_lt (Nat.lt_succ_of_lt (And.left (And.right (And.right (by with_reducible assumption))))))) | exact Nat.ne_of_lt (Nat.lt_succ_of_lt (Nat.lt_succ_of_lt (Nat.lt_succ_of_lt (And.left (And.right (And.right (by with_reducible assumption))))))) | exact Nat.ne_of_gt (Nat.lt_succ_self _) | exact Nat.ne_of_lt (Nat.lt_succ_self _) | exact Nat.ne_of_gt (Nat.lt_succ_of_lt (Nat.lt_succ_self _)) | exact Nat.ne_of_lt (Nat.lt_succ_of_lt (Nat.lt_succ_self _)) | exact ((And.left (And.left (by with_reducible assumption))) : @Ne Nat _ _) | exact Ne.symm ((And.left (And.left (by with_reducible assumption))) : @Ne Nat _ _) | exact ((And.left (And.right (And.left (by with_reducible assumption)))) : @Ne Nat _ _) | exact Ne.symm ((And.left (And.right (And.left (by with_reducible assumption)))) : @Ne Nat _ _) | exact ((And.right (And.right (And.left (by with_reducible assumption)))) : @Ne Nat _ _) | exact Ne.symm ((And.right (And.right (And.left (by with_reducible assumption)))) : @Ne Nat _ _) | exact ((And.left (And.left (And.right (by with_reducible assumption)))) : @Ne Nat _ _) | exact Ne.symm ((And.left (And.left (And.right (by with_reducible assumption)))) : @Ne Nat _ _) | exact ((And.left (And.right (And.left (And.right (by with_reducible assumption))))) : @Ne Nat _ _) | exact Ne.symm ((And.left (And.right (And.left (And.right (by with_reducible assumption))))) : @Ne Nat _ _) | exact ((And.right (And.right (And.left (And.right (by with_reducible assumption))))) : @Ne Nat _ _) | exact Ne.symm ((And.right (And.right (And.left (And.right (by with_reducible assumption))))) : @Ne Nat _ _) | exact ((And.left (And.left (And.right (And.right (by with_reducible assumption))))) : @Ne Nat _ _) | exact Ne.symm ((And.left (And.left (And.right (And.right (by with_reducible assumption))))) : @Ne Nat _ _) | exact ((And.left (And.right (And.left (And.right (And.right (by with_reducible assumption)))))) : @Ne Nat _ _) | exact Ne.symm ((And.left (And.right (And.left (And.right (And.right (by with_reducible assumption)))))) : @Ne Nat _ _) | exact ((And.right (And.right (And.left (And.right (And.right (by with_reducible assumption)))))) : @Ne Nat _ _) | exact Ne.symm ((And.right (And.right (And.left (And.right (And.right (by with_reducible assumption)))))) : @Ne Nat _ _) | exact ((And.left (And.left (And.right (And.right (And.right (by with_reducible assumption)))))) : @Ne Nat _ _) | exact Ne.symm ((And.left (And.left (And.right (And.right (And.right (by with_reducible assumption)))))) : @Ne Nat _ _) | exact ((And.left (And.right (And.left (And.right (And.right (And.right (by with_reducible assumption))))))) : @Ne Nat _ _) | exact Ne.symm ((And.left (And.right (And.left (And.right (And.right (And.right (by with_reducible assumption))))))) : @Ne Nat _ _) | exact ((And.right (And.right (And.left (And.right (And.right (And.right (by with_reducible assumption))))))) : @Ne Nat _ _) | exact Ne.symm ((And.right (And.right (And.left (And.right (And.right (And.right (by with_reducible assumption))))))) : @Ne Nat _ _) | exact ((And.left (And.left (And.right (And.right (And.right (And.right (by with_reducible assumption))))))) : @Ne Nat _ _) | exact Ne.symm ((And.left (And.left (And.right (And.right (And.right (And.right (by with_reducible assumption))))))) : @Ne Nat _ _) | exact ((And.left (And.right (And.left (And.right (And.right (And.right (And.right (by with_reducible assumption)))))))) : @Ne Nat _ _) | exact Ne.symm ((And.left (And.right (And.left (And.right (And.right (And.right (And.right (by with_reducible assumption)))))))) : @Ne Nat _ _) | exact ((And.right (And.right (And.left (And.right (And.right (And.right (And.right (by with_reducible assumption)))))))) : @Ne Nat _ _) | exact Ne.symm ((And.right (And.right (And.left (And.right (And.right (And.right (And.right (by with_reducible assumption)))))))) : @Ne Nat _ _) | exact ((And.left (And.left (And.right (And.right (And.right (And.right (And.right (by with_reducible assumption)))))))) : @Ne Nat _ _) | exact Ne.symm ((And.left (And.left (And.right (And.right (And.right (And.right (And.right (by with_reducible assumption)))))))) : @Ne Nat _ _) | exact ((And.left (And.right (And.left (And.right (And.right (And.right (And.right (And.right (by with_reducible assumption))))))))) : @Ne Nat _ _) | exact Ne.symm ((And.left (And.right (And.left (And.right (And.right (And.right (And.right (And.right (by with_reducible assumption))))))))) : @Ne Nat _ _) | exact ((And.right (And.right (And.left (And.right (And.right (And.right (And.right (And.right (by with_reducible assumption))))))))) : @Ne Nat _ _) | exact Ne.symm ((And.right (And.right (And.left (And.right (And.right (And.right (And.right (And.right (by with_reducible assumption))))))))) : @Ne Nat _ _) | exact ((And.left (And.left (And.right (And.right (And.right (And.right (And.right (And.right (by with_reducible assumption))))))))) : @Ne Nat _ _) | exact Ne.symm ((And.left (And.left (And.right (And.right (And.right (And.right (And.right (And.right (by with_reducible assumption))))))))) : @Ne Nat _ _) | exact ((And.left (And.right (And.left (And.right (And.right (And.right (And.right (And.right (And.right (by with_reducible assumption)))))))))) : @Ne Nat _ _) | exact Ne.symm ((And.left (And.right (And.left (And.right (And.right (And.right (And.right (And.right (And.right (by with_reducible assumption)))))))))) : @Ne Nat _ _) | exact ((And.right (And.right (And.left (And.right (And.right (And.right (And.right (And.right (And.right (by with_reducible assumption)))))))))) : @Ne Nat _ _) | exact Ne.symm ((And.right (And.right (And.left (And.right (And.right (And.right (And.right (And.right (And.right (by with_reducible assumption)))))))))) : @Ne Nat _ _) | omega)
  k_with "ktr_room" => ((try simp only [depth_under_make, depth_under_kw, depth_in1, depth_deeper, depth_caller]); (try dsimp only [ktrTop]); first | exact Nat.lt_of_le_of_lt (Nat.le_add_right _ _) (by with_reducible assumption) | exact roomStep (by with_reducible assumption) (by first | exact Nat.le_refl _ | decide | exact r2 _ | omega) | fail "room")
  k_with "ktr_units" => ((try simp only [units_in1, units_deeper, Around.mark_units, units_caller]); (try dsimp only [ktrTop]); first | exact unitStep (by with_reducible assumption) (by first | exact Nat.le_refl _ | decide | exact u20 _ | exact u40 _ | omega) | fail "units")
  k_with "k_mem" => first | exact tail_mem (by assumption) (by k_mem) | fail "k_mem"
  k_with "k_mem" => assumption
  k_with "k_mem" => first | exact List.mem_cons_of_mem _ (by assumption) | fail "k_mem"
  k_with "size_fits" => (simp only [List.size_toArray, Array.size_push, List.length_append, List.length_cons, List.length_nil, PySem.sizeLine_eq] <;> omega)
  k_with "exec If" => (k_here; k_fold)
  k_with "exec Assign" => (k_here; k_fold)
  k_with "exec Expr" => (k_here; k_fold)
  k_with "exec Return some" => (k_here; k_fold)
  k_with "execs cons" => (k_here; first | k_fold | ((with_reducible refine execsG ?_); intro t9; (try dsimp only)))
  k_with "execs nil" => (k_here; (with_reducible refine wpAny_execs_nil ?_); (try dsimp only))
  k_with "compareOp Eq ref ref" => (k_here; (with_reducible show wpAny _ _ (compareOp CmpOp.Eq (Value.ref _) (Value.ref _)) _ _ _); k_dflt (refine' eqKey ?N ?x ?y ?u ?_; (case N => k_asm); (case x => k_mem); (case y => k_mem); (case u => ktr_units)); generalize hg : hitT _ _ _ = b9; cases b9)
  k_with "ite" => (k_here; first | (refine ite_pos (by first | omega | (simp only [beq_iff_eq, bne_iff_ne, decide_eq_true_eq]; omega)) ?_) | (refine ite_neg (by first | omega | (simp only [beq_iff_eq, bne_iff_ne, decide_eq_true_eq]; omega)) ?_))
  k_with "exec For Name Subscript cons nil" => k_extra "exec For Name"
  k_with "exec For Tuple Subscript cons nil" => k_extra "exec For Tuple"
  k_with "subscriptTail" => (k_here; (with_reducible show wpAny _ _ (subscriptTail _ _ (Value.ref _) (Value.int _ _)) _ _ _); (with_unfolding_all refine' litItem ?N ?m ?a ?b ?c ?_ ?d; (case N => k_asm); (case m => k_mem); (case a => decide); (case b => decide); (case c => rfl); (case d => with_unfolding_all rfl); k_whole))
  k_with "call builtin:list.index" => (k_here; (with_reducible show wpAny _ _ (call (Value.builtin _) [Value.ref _, Value.str _ _]) _ _ _); k_dflt (refine' kindIndex ?k0 ?N ?m ?_; (case k0 => with_reducible assumption); (case N => k_asm); (case m => k_mem)); dsimp only [Wh.ixI])
  k_with "exec If" => (k_here; k_dflt (first | ((with_reducible refine' ifT ?xe9 ?xb9 ?_); (case xe9 => kaf_pre); (case xb9 => decide); k_whole) | ((with_reducible refine' ifF ?xe9 ?xb9 ?_); (case xe9 => kaf_pre); (case xb9 => decide); k_whole)))
  k_with "isTrue Compare" => (k_here; k_dflt (first | ((with_reducible refine' isT ?xe9 ?xb9 ?_); (case xe9 => kaf_pre); (case xb9 => decide); k_whole) | ((with_reducible refine' isF ?xe9 ?xb9 ?_); (case xe9 => kaf_pre); (case xb9 => decide); k_whole) | ((with_reducible refine' isI ?xe9 ?_); (case xe9 => kaf_pre); k_whole) | ((with_reducible refine' isIl ?xe9 ?_); (case xe9 => kaf_pre); k_whole) | ((with_reducible refine' isIg ?xe9 ?_); (case xe9 => kaf_pre); k_whole)))
  k_with "eval Subscript" => (k_here; k_dflt ((with_reducible refine' Ev.go ?xe9 ?_); (case xe9 => kaf_pre); k_whole))
  k_with "spliced" => (k_here; k_dflt ((with_reducible refine' EvL.go ?xe9 ?_); (case xe9 => kaf_suf); k_whole); (try dsimp only [List.nil_append, List.cons_append]))
  k_with "eval Call" => (k_here; (with_reducible show wpAny _ _ (eval (Expr.Call (Expr.Name _ _) (_ :: _) [] _) _) _ _ _); k_dflt (refine' evCall ?xF9 ?xX9 ?xT9 ?xe9 ?xk9 ?xl9 ?_ ?xs9 ?xa9 ?xb9 ?xc9; (case xF9 => k_asm); (case xX9 => k_asm); (case xT9 => k_asm); (case xa9 => rfl); (case xb9 => rfl); (case xc9 => rfl); (case xe9 => k_is); (case xk9 => k_is); (case xl9 => kaf_suf); (case xs9 => rfl); k_whole))
  k_with "exec For Name" => (k_here; (rename Fr _ _ _ _ => lF'); (with_unfolding_all refine' For_turns lF' ?_; k_whole))
  k_with "pyIter ref" => (k_here; (with_reducible show wpAny _ _ (pyIter (Value.ref _)) (fun it s₂ => TurnsAt _ _ _ _ _ _ _ _ _ it s₂) _ _); (rename Fr _ _ _ _ => lF'); (rename News _ _ _ _ => lN'); (first | (with_unfolding_all refine' iter_tupTurns (vs := [_, _]) (by rfl) lF' lN' (by k_mem) (by rfl) (by rfl) ?_) | (with_unfolding_all refine' iter_tupTurns (vs := [_]) (by rfl) lF' lN' (by k_mem) (by rfl) (by rfl) ?_)  | (with_unfolding_all refine' iter_tupTurns (vs := []) (by rfl) lF' lN' (by k_mem) (by rfl) (by rfl) ?_)); clear lF'; intro i' l1; dsimp only [List.map])
  k_with "UnrEndW" => ((rename Fr _ _ _ _ => lF'); (rename News _ _ _ _ => lN'); (refine unrKeepW lF' lN' (.head _) (fun p hp => .tail _ hp) (by assumption) ⟨⟨?hlp, trivial⟩, ?_⟩); (case hlp => assumption))
  cases hk0 <;> cases sb <;> first | exact hf.elim | skip
  all_goals (refine InsIn.tb0_elim (P := fun v => Ctr w mean mg mb 84 _ _ _ (v :: _) _) hx ?_; clear hx; intros)
  all_goals (
    unfold Ctr
    intro dp un gd cn cs a ccd cl outer A₀ base h₀ L m s Q E B F X N T hk hd hu hret
    refine wpAny_call ?_
    k_dflt ktr_enter; (refine letE ?_); intro e9; (refine letA ?_); intro A9; (rename Fr _ _ _ _ => F8); (refine letM F8 ?_); clear F8; intro m9 F9
    k_steps)
  all_goals (
    (rename Fr _ _ _ _ => kF)
    (rename News _ _ _ _ => kN)
    (refine hret _ R _ _ kF (newsSub kN (by intro p hp; first | exact hp | exact .tail _ hp)) ⟨rfl, int_ex ?_⟩)
    (first | rfl | (simp [tab1T, *]; done) | (subst_vars; simp [tab1T, hitT]; done) | (simp [tab1T, hitT]; omega)))
/-- one row met: what is found, whether the next row waits, the label to go to -/
def stepI (cnt : Int) (k : Key) : Ins → Option (Option Int × Bool × Int)
  | .lab n => if n < cnt then some (some n, false, -1) else some (none, true, -1)
  | .try_ l => some (none, true, l)
  | .retry l => some (none, true, l)
  | .trust l => some (none, false, l)
  | .sw a b c d => some (none, false, swT k a b c d)
  | .tb0 _ d => some (none, false, d)
  | .tb1 s a d => some (none, false, tab1T k s a d)
  | .tb2 s a b d => some (none, false, tab2T k s a b d)
  | .pro => none
  | .cal _ => none
def fitI (k : Key) : Ins → Prop
  | .tb0 s _ => fitT k s
  | .tb1 s _ _ => fitT k s
  | .tb2 s _ _ _ => fitT k s
  | _ => True
inductive Out | ok (l : List Int) | bad
/-- the run: how many rows are met, what is pending, what is found -/
inductive Run (is : List Ins) (cnt : Int) (k : Key) (W : List (Int × Int)) : Nat → List Int → List Int → Out → Prop
  | done {f} : Run is cnt k W 0 [] f (.ok f)
  | step {n : Nat} {p : Nat} {i : Ins} {st f : List Int} {o a b t} : is[p]? = some i → fitI k i → stepI cnt k i = some (a, b, t) → (t ≠ -1 → kdfHas W t = true) →
      Run is cnt k W n (st ++ (if b then [(p : Int) + 1] else []) ++ (if t = -1 then [] else [kdfLook W t 0])) (f ++ a.toList) o → Run is cnt k W (n + 1) (st ++ [(p : Int)]) f o
  | bad {n : Nat} {p : Nat} {i : Ins} {st f : List Int} : is[p]? = some i → stepI cnt k i = none → Run is cnt k W n (st ++ [(p : Int)]) f .bad
structure TS where
  vs : List Value
  st : List Int
  kp : Nat
  us : List Value
  f : List Int
  kf : Nat
  n : Nat
structure TInv (is : List Ins) (cnt : Int) (k : Key) (W : List (Int × Int)) (o : Out) (z : TS) : Prop where
  run : Run is cnt k W z.n z.st z.f o
  hv : IntsAre z.vs z.st
  hu : IntsAre z.us z.f
  h1 : z.st.length + z.n ≤ 3000
  h2 : z.f.length + z.n ≤ 3000
abbrev tsLed (pd fd : Addr) (R : Led) (z : TS) : Led := (pd, listOf z.vs.toArray z.kp) :: (fd, listOf z.us.toArray z.kf) :: R
abbrev tsSt : List Str := [Str.ofString "place", Str.ofString "ins", Str.ofString "name", Str.ofString "target"]
section
variable {prog : Program} {w : World} {A : Around} {E : Value → Shared → Prop} {Q : Flow → Shared → Prop} {s : Shared} {env : Env} {h₀ : Heap}
theorem triWhile {test : PySem.Expr} {body : List Stmt} {pos : Pos} {m₀ : Str → Option Value} {pd fd : Addr} {vs us : List Value} {st f : List Int} {kp kf n : Nat} {R : Led} {is : List Ins} {cnt : Int} {k : Key} {W : List (Int × Int)} {o : Out}
    (F : Fr h₀ env.locals s.heap m₀) (N : News h₀ env.locals s.heap ((pd, listOf vs.toArray kp) :: (fd, listOf us.toArray kf) :: R)) (hp : TInv is cnt k W o ⟨vs, st, kp, us, f, kf, n⟩)
    (turn : ∀ (vs : List Value) (st : List Int) (kp : Nat) (us : List Value) (f : List Int) (kf n : Nat) (u : Str → Option Value) (h : Heap) (tk : Nat), TInv is cnt k W o ⟨vs, st, kp, us, f, kf, n⟩ →
      Fr h₀ env.locals h (kstB (fun z => if tsSt.contains z then u z else m₀ z) []) → News h₀ env.locals h ((pd, listOf vs.toArray kp) :: (fd, listOf us.toArray kf) :: R) →
      wpAny (model prog w) A (isTrue test env (eval test env)) (fun b s₂ =>
        if b = true then wpAny (model prog w) A (execs body env) (KswPost h₀ env.locals s (tsLed pd fd R) (fun _ => []) (fun _ => True) tsSt m₀ (TInv is cnt k W o) (fun z => z.n) Q ⟨vs, st, kp, us, f, kf, n⟩) E s₂ else Q .next s₂) E { s with heap := h, toks := tk })
    (hE : PassesOwn (model prog w) A env E := by passes_own) :
    wpAny (model prog w) A (exec (.While test body [] pos) env) Q E s :=
  ksw_while (tsLed pd fd R) (fun _ => []) (fun _ => True) tsSt (TInv is cnt k W o) (fun z => z.n) ⟨vs, st, kp, us, f, kf, n⟩ F N trivial (fun p hp => nomatch hp) hp
    (fun ⟨vs, st, kp, us, f, kf, n⟩ u h tk _ hI F' N' => turn vs st kp us f kf n u h tk hI F' N') hE
end
section
variable {h₀ : Heap} {L : Addr} {s : Shared}
theorem triTurn {m₀ m' : Str → Option Value} {pd fd : Addr} {vs us vs' us' : List Value} {st f st' f' : List Int} {kp kf n kp' kf' n' : Nat} {R all : Led} {is : List Ins} {cnt : Int} {k : Key} {W : List (Int × Int)} {o : Out} {h' : Heap} {tk : Nat}
    (F : Fr h₀ L h' m') (N : News h₀ L h' all) (hs : ∀ p ∈ (pd, listOf vs'.toArray kp') :: (fd, listOf us'.toArray kf') :: R, p ∈ all) (hR : Run is cnt k W n' st' f' o) (hv : IntsAre vs' st') (hu : IntsAre us' f')
    (h1 : st'.length + n' ≤ 3000) (h2 : f'.length + n' ≤ 3000) (hn : n = n' + 1) (hr : ∀ z, (∀ p ∈ ([] : List (Str × Value)), z ≠ p.1) → [Str.ofString "place", Str.ofString "ins", Str.ofString "name", Str.ofString "target"].contains z = false → m' z = m₀ z) :
    KswEnd h₀ L s (tsLed pd fd R) (fun _ => []) (fun _ => True) tsSt m₀ (TInv is cnt k W o) (fun z => z.n) ⟨vs, st, kp, us, f, kf, n⟩ { s with heap := h', toks := tk } :=
  ksw_end ⟨vs', st', kp', us', f', kf', n'⟩ F N hs trivial (fun p hp => nomatch hp) hr ⟨hR, hv, hu, h1, h2⟩ (by subst hn; exact Nat.lt_succ_self _)
end
theorem ints_last {vs : List Value} {st : List Int} {p : Int} (h : IntsAre vs (st ++ [p])) : ∃ vs' t, vs = vs' ++ [Value.int p t] ∧ IntsAre vs' st := by
  induction st generalizing vs with
  | nil => cases h with | cons _ t r => cases r; exact ⟨[], t, rfl, .nil⟩
  | cons x st ih =>
    cases h with
    | cons _ t r =>
      obtain ⟨vs', t', e, h'⟩ := ih r
      exact ⟨_ :: vs', t', by rw [e]; rfl, .cons _ t h'⟩
theorem ints_snoc {vs : List Value} {st : List Int} {p : Int} {t : Tok} (h : IntsAre vs st) : IntsAre (vs ++ [Value.int p t]) (st ++ [p]) := by
  induction h with
  | nil => exact .cons _ _ .nil
  | cons _ _ _ ih => exact .cons _ _ ih
/-- what the run meets, where something is pending -/
theorem TInv.meet {is : List Ins} {cnt : Int} {k : Key} {W : List (Int × Int)} {o : Out} {vs us : List Value} {st f : List Int} {kp kf n : Nat} (h : TInv is cnt k W o ⟨vs, st, kp, us, f, kf, n⟩) (hp : 0 < vs.length) :
    ∃ p i st' vs' t, st = st' ++ [((p : Nat) : Int)] ∧ vs = vs' ++ [Value.int (p : Int) t] ∧ IntsAre vs' st' ∧ is[p]? = some i ∧ fitI k i ∧
      ((∃ n' a b t, n = n' + 1 ∧ stepI cnt k i = some (a, b, t) ∧ (t ≠ -1 → kdfHas W t = true) ∧
        Run is cnt k W n' (st' ++ (if b then [(p : Int) + 1] else []) ++ (if t = -1 then [] else [kdfLook W t 0])) (f ++ a.toList) o) ∨ (stepI cnt k i = none ∧ o = .bad)) := by
  obtain ⟨hr, hv, hu, h1, h2⟩ := h
  dsimp only at hr hv hu h1 h2
  have hl := hv.length
  cases hr with
  | done => simp only [List.length_nil] at hl; omega
  | @step n' p i st' f o a b t e1 e2 e3 e4 e5 =>
    obtain ⟨vs', t', e, h'⟩ := ints_last hv
    exact ⟨p, i, st', vs', t', rfl, e, h', e1, e2, .inl ⟨n', a, b, t, rfl, e3, e4, e5⟩⟩
  | @bad n p i st' f e1 e2 =>
    obtain ⟨vs', t', e, h'⟩ := ints_last hv
    refine ⟨p, i, st', vs', t', rfl, e, h', e1, ?_, .inr ⟨e2, rfl⟩⟩
    cases i <;> first | exact trivial | (simp only [stepI] at e2; first | (split at e2 <;> cases e2) | cases e2)
theorem TInv.fin {is : List Ins} {cnt : Int} {k : Key} {W : List (Int × Int)} {o : Out} {vs us : List Value} {st f : List Int} {kp kf n : Nat} (h : TInv is cnt k W o ⟨vs, st, kp, us, f, kf, n⟩) (hp : ¬ 0 < vs.length) : o = .ok f := by
  obtain ⟨hr, hv, hu, h1, h2⟩ := h
  dsimp only at hr hv hu h1 h2
  have hl := hv.length
  cases hr with
  | done => rfl
  | step => simp only [List.length_append, List.length_cons, List.length_nil] at hl; omega
  | bad => simp only [List.length_append, List.length_cons, List.length_nil] at hl; omega
section
variable {prog : Program} {w : World} {A : Around} {E : Value → Shared → Prop} {s : Shared} {h₀ : Heap} {L D : Addr} {m : Str → Option Value} {news news' : Led} {n : Nat}
theorem popLast {vs' : List Value} {y : Value} {Q : Value → Shared → Prop} (F : Fr h₀ L s.heap m) (N : News h₀ L s.heap news) (U : Upd D (listOf (vs' ++ [y]).toArray n) (listOf vs'.toArray (n + 1)) news news') (hz : vs'.length ≤ 4000)
    (h : ∀ h', Fr h₀ L h' m → News h₀ L h' news' → Q y { s with heap := h' }) : wpAny (model prog w) A (call (.builtin "list.pop") [.ref D]) Q E s :=
  kl_pop F N (p := vs') (y := y) (by have e := kpa_last y vs'; simpa using e) U (by simp only [List.length_append, List.length_cons, List.length_nil, PySem.sizeLine_eq]; omega) h
end
theorem raised_sub {base G h : Heap} {l : List Env} {e : Addr} {cls : Value} {news news' : Led} (R : RaisedSN base G l e cls news h) (hs : ∀ p ∈ news', p ∈ news) : RaisedSN base G l e cls news' h :=
  let ⟨B, a0, h1, h2, h3, h4⟩ := R
  ⟨B, a0, h1, h2, fun q hq => h3 q (hs q hq), h4⟩
/-- a contract of a def that may raise LinkFault -/
def CtrX (w : World) (mean : ExcName → Option Value) (mg mb : Str → Option Value) (f : Addr) (d u : Nat) (news : Led) (vs : List Value) (Post : Led → Value → Prop) (bad : Prop) : Prop :=
  ∀ (dp un : Nat) (gd : Option (List Code)) (cn : Str) (cs : Scope) (a : Addr) (ccd : Value) (cl : List (Str × Addr)) (outer : List Env) (A₀ : Around) (base h₀ : Heap) (L : Addr) (m : Str → Option Value) (s : Shared)
    (Q E : Value → Shared → Prop),
    Below A₀ base outer h₀ → Fr h₀ L s.heap m → (Mine.hd.heap_39 w.params).In h₀ → News h₀ L s.heap news → Top Mine.hd.view_39 (looseW Mine.hd.view_39 [Str.ofString "LinkFault"]) mean mg mb h₀ → cs.kind = .function → dp + d < recursionLimit → un + u < cLine →
    (∀ r news' h' tk', Fr h₀ L h' m → News h₀ L h' news' → Post news' r → Q r { s with heap := h', toks := tk' }) →
    (bad → ∀ e g h' tk', Fr h₀ L g m → g.UpToSlots h' → RaisedSN base g (envX cn cs L a ccd cl :: outer) e (.ref 45) news h' → E (.ref e) { s with heap := h', toks := tk' }) →
    wpAny (model Mine.pw w) (ktrTop dp un gd cn cs L a ccd cl outer) (call (.ref f) vs) Q E s
def TriPost (R : Led) (o : Out) (news : Led) (r : Value) : Prop := ∃ l fd us kf N, o = .ok l ∧ r = .ref fd ∧ news = N ++ R ∧ (fd, listOf (List.toArray us) kf) ∈ N ∧ IntsAre us l ∧ Fresh N R
theorem triPost {R : Led} {o : Out} {l : List Int} {fd : Addr} {us : List Value} {kf : Nat} (h : o = .ok l) (hu : IntsAre us l) (hf : ∀ p ∈ R, p.1 ≠ fd) : TriPost R o ((fd, listOf us.toArray kf) :: R) (.ref fd) :=
  ⟨l, fd, us, kf, [(fd, listOf us.toArray kf)], h, rfl, rfl, .head _, hu, fun p hp q hq => by rw [List.mem_singleton.mp hp]; exact Ne.symm (hf q hq)⟩
theorem Run.part {is : List Ins} {cnt : Int} {k : Key} {W : List (Int × Int)} {n : Nat} {st f : List Int} {o : Out} {t x : Int} (h : Run is cnt k W n (st ++ (if t = -1 then [] else [x])) f o) : (t = -1 → Run is cnt k W n st f o) ∧ (t ≠ -1 → Run is cnt k W n (st ++ [x]) f o) :=
  ⟨fun e => by rw [if_pos e, List.append_nil] at h; exact h, fun e => by rw [if_neg e] at h; exact h⟩
def isTb : Ins → Bool
  | .tb0 _ _ => true
  | .tb1 _ _ _ => true
  | .tb2 _ _ _ _ => true
  | _ => false
section
variable {w : World} {mean : ExcName → Option Value} {mg mb : Str → Option Value}
theorem tb_meet {h₀ h : Heap} {L : Addr} {R all : Led} {v kv : Value} {i : Ins} {k : Key} {a : Option Int} {b : Bool} {t : Int} (_N : News h₀ L h all) (hs : ∀ p ∈ R, p ∈ all) (hi : InsIn R v i) (hk : KeyAt R kv k) (hf : fitI k i) (he : stepI 5 k i = some (a, b, t)) (htb : isTb i = true) :
    a = none ∧ b = false ∧ ∃ s x q d t0 t1, v = .ref x ∧ (x, tupO [.str (Str.ofString (sname s)) t0, .ref q, .int d t1]) ∈ R ∧ Ctr w mean mg mb 84 2 120 all [.ref x, kv] (fun news r => news = all ∧ ∃ t', r = .int t t') := by
  have hi' := hi.mono hs
  have hk' := hk.mono hs
  cases hi with
  | tb0 h1 h2 =>
    simp only [stepI, Option.some.injEq, Prod.mk.injEq] at he
    obtain ⟨rfl, rfl, rfl⟩ := he
    exact ⟨rfl, rfl, _, _, _, _, _, _, rfl, h1, table_target0 w mean mg mb _ kv _ _ k all hi' hk' hf⟩
  | tb1 h1 h2 h3 h4 =>
    simp only [stepI, Option.some.injEq, Prod.mk.injEq] at he
    obtain ⟨rfl, rfl, rfl⟩ := he
    exact ⟨rfl, rfl, _, _, _, _, _, _, rfl, h1, table_target1 w mean mg mb _ kv _ _ _ k all hi' hk' hf⟩
  | tb2 h1 h2 h3 h4 h5 h6 =>
    simp only [stepI, Option.some.injEq, Prod.mk.injEq] at he
    obtain ⟨rfl, rfl, rfl⟩ := he
    exact ⟨rfl, rfl, _, _, _, _, _, _, rfl, h1, table_target2 w mean mg mb _ kv _ _ _ _ k all hi' hk' hf⟩
  | lab => cases htb
  | try_ => cases htb
  | retry => cases htb
  | trust => cases htb
  | sw => cases htb
  | pro => cases htb
  | cal => cases htb
theorem sw_meet {h₀ h : Heap} {L : Addr} {R all : Led} {v kv : Value} {a b c d : Int} {k : Key} (_N : News h₀ L h all) (hs : ∀ p ∈ R, p ∈ all) (hi : InsIn R v (.sw a b c d)) (hk : KeyAt R kv k) :
    Ctr w mean mg mb 77 2 20 all [v, kv] (fun news r => news = all ∧ ∃ t', r = .int (swT k a b c d) t') :=
  switch_target w mean mg mb v kv a b c d k all (hi.mono hs) (hk.mono hs)
end
set_option maxRecDepth 100000
section
variable (p : Params)
theorem lk_init : findIn (Mine.hd.heap_39 p) (.ref 45) "__init__" = some (some (.ref 42)) := by kernel_rfl
theorem lk_set : findIn (Mine.hd.heap_39 p) (.ref 45) "__setattr__" = some (some (.builtin "object.__setattr__")) := by kernel_rfl
theorem lk_what : findIn (Mine.hd.heap_39 p) (.ref 45) "what" = some none := by kernel_rfl
theorem lk_fn : typeIn (Mine.hd.heap_39 p) (.ref 42) = some (.type "function") := by kernel_rfl
theorem lk_obj : mroIn (Mine.hd.heap_39 p) 45 (.type "object") = some true := by kernel_rfl
theorem lk_cls : clsIn (Mine.hd.heap_39 p) 45 = some { name := Str.ofString "LinkFault", bases := [.ref 24], mro := [.ref 45, .ref 24, .type "Exception", .type "BaseException", .type "object"], ns := 44, qualname := Str.ofString "LinkFault" } := by kernel_rfl
end
abbrev linkBm : List Value := [.ref 24, .type "Exception", .type "BaseException", .type "object"]
abbrev excBm : List Value := [.type "Exception", .type "BaseException", .type "object"]
abbrev linkObj : Obj := excClassObj (Str.ofString "LinkFault") (Str.ofString "LinkFault") 45 44 [.ref 24] linkBm true [] [] false none none (some (.ref 28)) none (some (.str (Str.ofString "LinkFault") 209)) (some (.str (Str.ofString "LinkFault") 217)) (some (.bool true)) "Exception.__new__"
theorem link_obj {p : Params} {h : Heap} (X : (Mine.hd.heap_39 p).In h) : h.get? 45 = some linkObj := X _ _ (by kernel_rfl)
theorem link_tail {p : Params} {h : Heap} (X : (Mine.hd.heap_39 p).In h) : OwnTail h excBm linkBm := tail_of_in X (by kernel_rfl)
section
variable {prog : Program} {w : World} {A : Around} {E : Value → Shared → Prop} {s : Shared} {x : Addr}
theorem setWhat {fs : Array Value} {v : Value} {Q : Unit → Shared → Prop} (X : (Mine.hd.heap_39 w.params).In s.heap) (hx : s.heap.get? x = some { cls := .ref 45, data := .fields fs })
    (hq : ∀ h' d tk', h'.get? x = some { cls := .ref 45, dict := some d, data := .fields fs } → (∀ b o, b ≠ x → s.heap.get? b = some o → h'.get? b = some o) → Q () { s with heap := h', toks := tk' }) :
    wpAny (model prog w) A (setAttr (.ref x) (Str.ofString "what") v) Q E s := by
  have I : PySem.W.InstAt s.heap x { cls := .ref 45, data := .fields fs } 45 none := ⟨hx, rfl, rfl, trivial⟩
  refine set_plain X I (lk_set _) ?_
  have SF := PySem.F.store_Exception
  have sub : Looks (model prog w) s.heap (isInstance (.ref x) (.type "object")) true := I.type.andThen (looks_mroIn X (lk_obj _))
  refine codeAny_call_builtin SF.slot.plain SF.entry (@check_slot (model prog w) _ _ { s with toks := s.toks + 1 } "object.__setattr__" "object" "__setattr__" (.ref x) [.str (Str.ofString "what") s.toks, v] [] _ SF.kind SF.split sub (SF.args _ _ _) ?_)
  have hm : Looks (model prog w) s.heap (mroOf (.ref 45)) [.ref 45, .ref 24, .type "Exception", .type "BaseException", .type "object"] := (looks_clsIn X (lk_cls _)).andThen .now
  rw [osa_eq, refuse_eq]
  refine wpAny_bind (wpAny_bind (I.type _ _ _ { s with toks := s.toks + 1 } (fun _ _ e => e) (wpAny_bind (hm _ _ _ { s with toks := s.toks + 1 } (fun _ _ e => e) ?_))))
  rw [refuseLoop_ref, refuseLoop_ref, SF.passes]
  refine wpAny_pure (wpAny_bind (I.type _ _ _ { s with toks := s.toks + 1 } (fun _ _ e => e) (wpAny_bind (looks_findIn X (lk_what _) _ _ _ { s with toks := s.toks + 1 } (fun _ _ e => e) (wpAny_bind ?_)))))
  refine wpAny_pure (a := none) ?_
  obtain ⟨hp, g, dr, tk, os⟩ := s
  dsimp only at hx hq I ⊢
  unfold Builtin.ObjectAttr.storeInOwnDict Builtin.ObjectAttr.ownDictForStores
  repeat (first | (with_reducible refine wpAny_loadPart_at hx ?_) | wp_step)
  have hC := link_obj X
  dsimp only at hC
  refine wpAny_load' hC ?_
  refine wpAny_pure ?_
  simp only [Bool.not_true, Bool.false_eq_true, if_false, typeHasDict, Bool.or_self]
  have hx₁ : (hp.push { cls := .type "dict", data := .dict #[] }).get? x = some { cls := .ref 45, data := .fields fs } := Heap.get?_push_of_some _ hx
  have hxs : x ≠ hp.objs.size := Nat.ne_of_lt (Heap.lt_size hx)
  refine wpAny_bind (wpAny_alloc' (wpAny_bind (wpAny_update' hx₁ ?_)))
  refine wpAny_pure (a := some hp.objs.size) ?_
  dsimp only
  have hfr : hp.objs.size ≠ x := Ne.symm hxs
  have hgd : ((hp.push { cls := .type "dict", data := .dict #[] }).update x fun o => { cls := o.cls, dict := some hp.objs.size, data := o.data, slots := o.slots }).get? hp.objs.size = some { cls := .type "dict", data := .dict #[] } :=
    (Heap.get?_update_ne _ _ _ _ hfr).trans (Heap.get?_push_at rfl rfl)
  have hgx : ((hp.push { cls := .type "dict", data := .dict #[] }).update x fun o => { cls := o.cls, dict := some hp.objs.size, data := o.data, slots := o.slots }).get? x = some { cls := .ref 45, dict := some hp.objs.size, data := .fields fs } :=
    Heap.get?_update_self _ hx₁ rfl
  have hnd : ((hp.push { cls := .type "dict", data := .dict #[] }).update x fun o => { cls := o.cls, dict := some hp.objs.size, data := o.data, slots := o.slots }).Ns hp.objs.size (fun _ => none) :=
    ⟨_, #[], _, hgd, rfl, fun e he => absurd he (by simp), fun _ => rfl⟩
  unfold Builtin.ObjectAttr.storeInDict Builtin.ObjectAttr.newKeyGuard
  refine wpAny_bind (wpAny_pure (wpAny_bind (wpAny_nsSet1 (Heap.Ns1.of_empty hnd) fun h' hn' hs => ?_)))
  obtain ⟨oD, esD, epD, hoD, hdD, hcD⟩ := hn'.count (Within.cons (Str.ofString "what") v Within.nil)
  refine wpAny_bind (wpAny_lookBehind hoD (by rw [hdD]; exact pastItsLine_dict (Nat.le_trans hcD (by rw [List.length_cons, List.length_nil, sizeLine_eq]; omega))) ?_)
  refine wpAny_pure ?_
  refine hq h' hp.objs.size _ ((hs.2 x hxs).trans hgx) fun b o hb ho => ?_
  exact (hs.2 b (Nat.ne_of_lt (Heap.lt_size ho))).trans ((Heap.get?_update_ne _ _ _ _ hb).trans (Heap.get?_push_of_some _ ho))
theorem callLink {rest : List Value} {Q : Value → Shared → Prop} (X : (Mine.hd.heap_39 w.params).In s.heap) (hrest : rest.length ≤ sizeLine)
    (hq : ∀ h' e t, (∀ b o, s.heap.get? b = some o → h'.get? b = some o) → s.heap.get? e = none → h'.get? e = some { cls := .ref 45, data := .fields #[.ref t, .none, .none, .none, .bool false, .none] } →
      wpAny (model prog w) (A.under (.builtin "type.__call__" ⟨.ref 45 :: rest, []⟩)) (call (.ref 42) (.ref e :: rest)) (fun r s' => r = .none ∧ Q (.ref e) s') E { s with heap := h' }) :
    wpAny (model prog w) A (call (.ref 45) rest) Q E s := by
  have F := PySem.F.excBase_Exception
  have T := link_tail X
  have hC := link_obj X
  obtain ⟨h, g, d, t, os⟩ := s
  dsimp only at X T hC hq
  have f1 := tc_lookup
  have f2 := tc_bind (.ref 45)
  have hT : (⟨h, g, d, t, os⟩ : Shared).TypeIs (.ref 45) "type" := ⟨_, hC, rfl⟩
  refine wpAny_call (codeAny_of_tree ?_)
  show wpAny _ _ (callAny (.ref 45) _) _ _ _
  repeat (any_goals (first | assumption | with_reducible refine wpAny_loadPart_at hC ?_ | wp_step))
  refine ⟨rfl, ?_⟩
  refine codeAny_call_builtin_at (Code.quiet_builtin _ (by decide +kernel)) entry_typeCall (wpAny_check_type_call_sub hC ?_)
  repeat (first | with_reducible refine wpAny_loadPart_at hC ?_ | with_reducible refine wpAny_madeBy_exc hC ?_ | wp_step)
  refine codeAny_call_builtin_code (Code.quiet_builtin _ F.quiet) (wpAny_check_new_subT F T hC ?_)
  refine codeAny_exc_new_subT F T hC ?_ hrest
  show wpAny _ _ _ _ _ _
  have keep : ∀ b o, h.get? b = some o → ((h.push { cls := .type "tuple", data := .seq rest.toArray }).push { cls := .ref 45, data := .fields #[.ref h.objs.size, .none, .none, .none, .bool false, .none] }).get? b = some o :=
    fun b o e => Heap.get?_push_of_some _ (Heap.get?_push_of_some _ e)
  have hget : ((h.push { cls := .type "tuple", data := .seq rest.toArray }).push { cls := .ref 45, data := .fields #[.ref h.objs.size, .none, .none, .none, .bool false, .none] }).get? (h.objs.size + 1) = some
      { cls := .ref 45, data := .fields #[.ref h.objs.size, .none, .none, .none, .bool false, .none] } := by heap_get
  have hC₁ := keep _ _ hC
  have X₁ := X.keeps keep
  have hcC : (Value.ref 45 :: linkBm).contains (.ref 45) = true := by simp
  unfold isInstance
  repeat (first | with_reducible refine wpAny_loadPart_at hget ?_ | (with_reducible refine wpAny_isSubtype_exc hC₁ ?_; rw [hcC]) | wp_step)
  refine wpAny_isSubtype_exc hC₁ ?_
  rw [hcC]
  simp only [Bool.not_true, Bool.false_eq_true, if_false]
  have I : PySem.W.InstAt ((h.push { cls := .type "tuple", data := .seq rest.toArray }).push { cls := .ref 45, data := .fields #[.ref h.objs.size, .none, .none, .none, .bool false, .none] }) (h.objs.size + 1) { cls := .ref 45, data := .fields #[.ref h.objs.size, .none, .none, .none, .bool false, .none] } 45 none := ⟨hget, rfl, rfl, trivial⟩
  refine wpAny_bind (wpAny_holding (special_fn X₁ I (lk_init _) (lk_fn _) ?_))
  refine wpAny_mono (hq _ _ _ keep (Heap.get?_none_of_le (Nat.le_succ _)) hget) (fun r s' hr => ?_) fun _ _ x => x
  obtain ⟨rfl, hQ⟩ := hr
  wp_walk
  exact hQ
end
section
variable {M : Model} {A : Around} {E : Value → Shared → Prop} {s : Shared} {env : Env}
abbrev excD (t d : Addr) : Obj := { cls := .ref 45, dict := some d, data := .fields #[.ref t, .none, .none, .none, .bool false, .none] }
def RaisableO (E : Value → Shared → Prop) (v : Value) (s₁ : Shared) : Prop :=
  ∃ a t d, v = .ref a ∧ s₁.heap.get? a = some (excD t d) ∧ s₁.heap.get? 45 = some linkObj ∧ E (.ref a) s₁
theorem raiseO {e : PySem.Expr} {pos : Pos} {Q : Flow → Shared → Prop} (hh : A.handled = none) (h : wpAny M A (eval e env) (RaisableO E) E s) : wpAny M A (exec (.Raise (some e) none pos) env) Q E s := by
  show wpAny M A (do standAt pos; raiseStmt env (some (do let v ← eval e env; standAt pos; pure v)) none) Q E s
  refine wpAny_bind (wpAny_standAt ?_)
  unfold raiseStmt
  dsimp only
  refine wpAny_bind (wpAny_bind (wpAny_mono h (fun v s₁ h₁ => wpAny_bind (wpAny_standAt (wpAny_pure ?_))) fun _ _ x => x))
  obtain ⟨a, t, d, rfl, he, hC, hE⟩ := h₁
  obtain ⟨hp, g, d, tk, os⟩ := s₁
  dsimp only at he hC
  have hcB : (Value.ref 45 :: linkBm).contains (.type "BaseException") = true := by decide
  repeat (first | with_reducible refine wpAny_loadPart_at he ?_ | with_reducible refine wpAny_loadPart_at hC ?_ | (refine wpAny_isSubtype_exc hC ?_; rw [hcB]) | wp_step)
  exact wpAny_raiseNew_none hh hE
end
section
variable {M : Model} {A : Around} {E : Value → Shared → Prop} {s' : Shared} {base g : Heap} {outer : List Env} {L a e : Addr} {m : Str → Option Value} {name : Str} {scope : Scope} {cd : Value} {Q : Unit → Shared → Prop} {news : Led}
theorem leaveO {t d : Addr} (K : Below A base outer g) (F : Fr g L s'.heap m) (N : News g L s'.heap ((e, excD t d) :: news)) (hoff : ∀ p ∈ news, p.1 ≠ e)
    (hQ : ∀ h', RaisedSN base g outer e (.ref 45) news h' → g.UpToSlots h' → Q () { s' with heap := h' }) (hk : scope.kind = .function := by rfl) :
    wpAny M (A.deeper (envOf name scope L a cd)) (leaving (envOf name scope L a cd) (.ref e)) Q E s' := by
  have K' := K.push (name := name) (a := a) (cd := cd) F hk
  obtain ⟨he, heL, heg⟩ := N _ (.head _)
  have hin : ∀ env ∈ (envOf name scope L a cd :: outer), ∀ b, env.frame = some b → b ∈ e :: (envOf name scope L a cd :: outer).filterMap (·.frame) := fun env he b hb => .tail _ (List.mem_filterMap.mpr ⟨env, he, hb⟩)
  have hbe : base.get? e = none := fresh_of_stays K.stays heg
  have st : base.StaysIn (hideAll s'.heap (e :: (envOf name scope L a cd :: outer).filterMap (·.frame))) := fun b o q => hideAll_get _ (K'.stays b o q) fun hm => by
    rcases List.mem_cons.mp hm with rfl | hm
    · rw [hbe] at q; cases q
    · rw [(K'.frames.mem hm).1] at q; cases q
  have sg : ∀ b o, g.get? b = some o → b ∉ outer.filterMap (·.frame) → (hideAll s'.heap (e :: (envOf name scope L a cd :: outer).filterMap (·.frame))).get? b = some o := fun b o q nm => hideAll_get _ (F.keep b o q) fun hm => by
    rcases List.mem_cons.mp hm with rfl | hm
    · rw [heg] at q; cases q
    · rcases kts_mem hm with z | z
      · rw [z, kts_self F] at q; cases q
      · exact nm z
  have hl : ∀ q ∈ news, (hideAll s'.heap (e :: (envOf name scope L a cd :: outer).filterMap (·.frame))).get? q.1 = some q.2 ∧ g.get? q.1 = none ∧ base.get? q.1 = none := fun q hq => by
    have z := N q (.tail _ hq)
    refine ⟨hideAll_get _ z.1 fun hm => ?_, z.2.2, fresh_of_stays K.stays z.2.2⟩
    rcases List.mem_cons.mp hm with h1 | hm
    · exact hoff q hq h1
    · obtain ⟨env, he', hf⟩ := List.mem_filterMap.mp hm
      rcases List.mem_cons.mp he' with rfl | he'
      · exact z.2.1 (Option.some.inj hf).symm
      · obtain ⟨o, ho, _⟩ := (K.frames.mem (List.mem_filterMap.mpr ⟨env, he', hf⟩)).2
        rw [z.2.2] at ho; cases ho
  have hen : (hideAll s'.heap (e :: (envOf name scope L a cd :: outer).filterMap (·.frame))).get? e = none := hideAll_none _ (.head _)
  refine wpAny_leaving_firstW (a0 := .ref t) K'.stack (funFrames_hide K'.frames hin) rfl he (fun b o hb => of_hideAll _ hb) hen rfl rfl rfl fun h' hL => ?_
  obtain ⟨k1, ⟨_, _, k2⟩, k3, k4⟩ := hL
  exact hQ h' ⟨_, .ref t, st, sg, hl, k1, hen, k2, k3⟩ ((Heap.UpToSlots.of_keeps F.keep).trans k4)
end
abbrev excO (t : Addr) : Obj := { cls := .ref 45, data := .fields #[.ref t, .none, .none, .none, .bool false, .none] }
section
variable {prog : Program} {w : World} {A : Around} {E : Value → Shared → Prop} {s : Shared} {h₀ : Heap} {L : Addr} {m : Str → Option Value} {news : Led}
theorem callLinkK {rest : List Value} {Q : Value → Shared → Prop} (F : Fr h₀ L s.heap m) (N : News h₀ L s.heap news) (X : (Mine.hd.heap_39 w.params).In h₀) (hrest : rest.length ≤ sizeLine)
    (hq : ∀ h' e t, Fr h₀ L h' m → News h₀ L h' ((e, excO t) :: news) → (∀ p ∈ news, p.1 ≠ e) →
      wpAny (model prog w) (A.under (.builtin "type.__call__" ⟨.ref 45 :: rest, []⟩)) (call (.ref 42) (.ref e :: rest)) (fun r s' => r = .none ∧ Q (.ref e) s') E { s with heap := h' }) :
    wpAny (model prog w) A (call (.ref 45) rest) Q E s := by
  refine callLink (X.keeps F.keep) hrest fun h' e t k1 k2 k3 => ?_
  have F' := F.keeps k1
  have hen : h₀.get? e = none := by
    cases q : h₀.get? e with
    | none => rfl
    | some o => have := F.keep _ _ q; rw [k2] at this; cases this
  have hoff : ∀ p ∈ news, p.1 ≠ e := fun p hp z => by have := (N p hp).1; rw [z, k2] at this; cases this
  refine hq h' e t F' (News.more F' (fun p hp => ⟨k1 _ _ (N p hp).1, (N p hp).2⟩) k3 (fun es n q => by cases q) hen) hoff
theorem setWhatK {t e : Addr} {v : Value} {Q : Unit → Shared → Prop} (F : Fr h₀ L s.heap m) (N : News h₀ L s.heap ((e, excO t) :: news)) (X : (Mine.hd.heap_39 w.params).In h₀) (hoff : ∀ p ∈ news, p.1 ≠ e)
    (hq : ∀ h' d tk', Fr h₀ L h' m → News h₀ L h' ((e, excD t d) :: news) → Q () { s with heap := h', toks := tk' }) :
    wpAny (model prog w) A (setAttr (.ref e) (Str.ofString "what") v) Q E s := by
  obtain ⟨he, heL, heg⟩ := N _ (.head _)
  refine setWhat (X.keeps F.keep) he fun h' d tk' k1 k2 => ?_
  have hk : ∀ b o, b ∉ [e] → s.heap.get? b = some o → h'.get? b = some o := fun b o hb ho => k2 b o (fun q => hb (by rw [q]; exact .head _)) ho
  have F' := LCg.fr_but F hk (Ne.symm heL) heg
  have N' := LCg.news_but (fun p hp => N p (.tail _ hp)) hk hoff
  exact hq h' d tk' F' (News.more F' N' k1 (fun es n q => by cases q) heg)
theorem raisableK {t d e : Addr} (F : Fr h₀ L s.heap m) (X : (Mine.hd.heap_39 w.params).In h₀) (N : News h₀ L s.heap ((e, excD t d) :: news)) (hE : E (.ref e) s) : RaisableO E (.ref e) s :=
  ⟨e, t, d, rfl, (N _ (.head _)).1, link_obj (X.keeps F.keep), hE⟩
end
section
variable {prog : Program} {w : World} {A₀ : Around} {E : Value → Shared → Prop} {s' : Shared} {base g g₀ G : Heap} {outer : List Env} {L a e : Addr} {m : Str → Option Value} {name : Str} {scope : Scope} {cd : Value}
  {b₀ : Stmt} {suite : List Stmt} {pos np : Pos} {rest : List ExceptHandler} {Q : Flow → Shared → Prop} {news : Led} {p : Program} {loose : List Str} {mean : ExcName → Option Value} {mg mb : Str → Option Value}
theorem lk_name (q : Params) : nsIn (Mine.hd.heap_39 q) mainGlobals (Str.ofString "LinkFault") = some (some (.ref 45)) := by kernel_rfl
theorem caughtO (R : RaisedSN base G (envOf name scope L a cd :: outer) e (.ref 45) news s'.heap) (F : Fr g L G m) (K : Below A₀ base outer g) (hsm : G.UpToSlots s'.heap) (XB : (Mine.hd.heap_39 w.params).In base) (TB : Top p loose mean mg mb base)
    (D : KtsDicts (outer.filterMap (·.frame)) g) (T0 : KtsTurn (outer.filterMap (·.frame)) g₀ g)
    (k : ∀ h' g', KtsTurn (outer.filterMap (·.frame)) g₀ g' → Fr g' L h' m → News g' L h' news → Below A₀ base outer g' → (Mine.hd.heap_39 w.params).In g' → Top p loose mean mg mb g' → KtsDicts (outer.filterMap (·.frame)) g' →
      wpAny (model prog w) ((A₀.deeper (envOf name scope L a cd)).mark (some (.ref e))) (execs (b₀ :: suite) (envOf name scope L a cd)) Q E { s' with heap := h' })
    (hk : scope.kind = .function := by rfl) (hx : (envOf name scope L a cd).kindOf (Str.ofString "LinkFault") = some .globalImplicit := by rfl)
    (hE : PassesOwnAt (model prog w) ((A₀.deeper (envOf name scope L a cd)).mark (some (.ref e))) (A₀.deeper (envOf name scope L a cd)) (envOf name scope L a cd) E := by passes_own) :
    wpAny (model prog w) (A₀.deeper (envOf name scope L a cd)) (noteFrame (.ref e) (envOf name scope L a cd))
      (fun _ s₂ => wpAny (model prog w) (A₀.deeper (envOf name scope L a cd)) (setFlight (.ref e) none) (fun _ s₃ =>
        wpAny (model prog w) (A₀.deeper (envOf name scope L a cd)) (handleBy (.ref e) (envOf name scope L a cd) (.ExceptHandler (some (.Name (Str.ofString "LinkFault") np)) none (b₀ :: suite) pos :: rest)) Q E s₃) E s₂) E s' := by
  obtain ⟨B, a0, hB, hBG, hl, hfl⟩ := R
  have hL : B.get? L = none := by
    obtain ⟨_, ⟨L', _, hf, hn', _⟩, _⟩ := hfl.2.2.1
    obtain rfl : L = L' := Option.some.inj hf
    exact hn'
  refine wpAny_looks_onW (Around.frames_deeper K.stack) rfl hfl fun h₄ hheld₄ hsm₄ => ?_
  refine wpAny_landsW hheld₄ fun h₅ hheld hsm₅' => ?_
  have hsm₅ := hsm₄.trans hsm₅'
  obtain ⟨g₅, T₅, F₅, K₅⟩ := kts_ground K F hBG hheld.1 (hsm.trans hsm₅)
  have X₅ : (Mine.hd.heap_39 w.params).In g₅ := XB.keeps K₅.stays
  have P₅ : TopRead p loose mg mb g₅ := topRead_of (TB.keeps K₅.stays)
  obtain ⟨ob, hob, hobc⟩ := hheld.there
  refine wpAny_handleBy_cons (codeAny_handlers_test (name_K F₅ X₅ P₅ (lk_name _) ?_ hk hx (by decide))) (by intro q; cases q)
  refine wpAny_excMatches_sub_self (link_obj (X₅.keeps F₅.keep)) hob hobc (by decide) (codeAny_handlers_suite ?_)
  refine lands_againW hheld fun h₆ hfl₆ hsm₆ => ?_
  obtain ⟨g₆, T₆, F₆, K₆⟩ := kts_ground K F hBG hfl₆.1 ((hsm.trans hsm₅).trans hsm₆)
  have Nl : News g₆ L h₆ news := fun q hq => ⟨hfl₆.1 _ _ (hl q hq).1, (fun z => by have := (hl q hq).1; rw [z, hL] at this; cases this), T₆.none_ _ (kts_none F.keep (hl q hq).2.1)⟩
  exact wpAny_passesOwnAt hE (k h₆ g₆ (T0.trans T₆) F₆ Nl K₆ (XB.keeps K₆.stays) (TB.keeps K₆.stays) (D.turn T₆))
end
set_option maxRecDepth 100000 in
set_option maxHeartbeats 8000000 in
theorem tried_clauses (w : World) (mean : ExcName → Option Value) (mg mb : Str → Option Value) (bl : Addr) (bs : List Value) (is : List Ins) (kb : Nat) (R : Led) (kv : Value) (k : Key) (tc : Tok) (n0 : Nat) (o : Out) (hm : (bl, listOf bs.toArray kb) ∈ R) (hb : BIn R bs is) (hz : is.length ≤ 800) (hk0 : KeyAt R kv k) (hn0 : n0 ≤ 2000) (hr0 : Run is 5 k (placesT is) n0 [0] [] o) :
    CtrX w mean mg mb 91 6 300 R [.ref bl, .int 5 tc, kv] (TriPost R o) (o = .bad) := by
  have hz2 := hb.length
  k_with_none
  k_with "k_all" => first | with_reducible assumption | (refine' List.forall_mem_cons.mpr ⟨?qa9, ?qb9⟩; (case qa9 => k_ne); (case qb9 => k_all)) | exact allLt_ne (by with_reducible assumption) | exact off1_ne4 (by with_reducible assumption) | exact allLt_ne1 (by with_reducible assumption) | exact allLt_ne2 (by with_reducible assumption) | exact allLt_ne3 (by with_reducible assumption) | exact allLt_ne4 (by with_reducible assumption) | exact allLt_ne5 (by with_reducible assumption) | exact allLt_ne6 (by with_reducible assumption) | exact allLt_ne7 (by with_reducible assumption) | exact allLt_ne8 (by with_reducible assumption) | exact allLt_ne9 (by with_reducible assumption) | exact allLt_ne10 (by with_reducible assumption) | exact allLt_ne11 (by with_reducible assumption) | exact allLt_ne12 (by with_reducible assumption) | exact tail_ne (by with_reducible assumption) (fresh_ne (by with_reducible assumption) (by k_mem)) (by k_all) | fail "k_all"
  k_with "k_updF" => first | (refine' UpT.head ?ua9 ?ub9; (case ub9 => k_all); (case ua9 => k_updF)) | (refine' UpT.tail ?ua9 ?ub9; (case ua9 => k_ne); (case ub9 => k_updF)) | (refine' TailOf.cons ?ua9; (case ua9 => k_updF)) | exact TailOf.nil | fail "updT"
  k_with "k_all" => first | exact fun p hp => Nat.ne_of_lt ((by assumption : ∀ p ∈ _, Prod.fst p < _) p hp) | fail "lt"
  k_with "kaf_pre" => first | (refine' evI ?pe9 ?pN9 ?pm9 ?px9; (case pe9 => kaf_pre); (case pN9 => k_asm); (case pm9 => k_mem); (case px9 => rfl)) | (refine' evL ?pF9 ?pv9 ?pa9 ?pb9 ?pc9; (case pF9 => k_asm); (case pa9 => rfl); (case pb9 => rfl); (case pc9 => rfl); (case pv9 => rfl)) | (refine' evC ?pN9 ?pl9 ?pm9 ?pd9 ?pa9 ?pb9 ?pc9; (case pa9 => rfl); (case pb9 => rfl); (case pc9 => rfl); (case pN9 => k_asm); (case pl9 => rfl); (case pm9 => k_mem); (case pd9 => k_asm)) | (refine' evK ?pF9 ?pX9 ?pT9 ?pe9 ?pa9 ?pb9 ?pc9; (case pF9 => k_asm); (case pX9 => k_asm); (case pT9 => k_asm); (case pa9 => rfl); (case pb9 => rfl); (case pc9 => rfl); (case pe9 => k_is))
  k_with "kaf_suf" => first | exact evl0 | (refine' evlI ?sl9; (case sl9 => kaf_suf)) | (refine' evlS ?sl9; (case sl9 => kaf_suf)) | (refine' evlN ?se9 ?sl9 ?sn9; (case sn9 => rfl); (case se9 => kaf_pre); (case sl9 => kaf_suf)) | (refine' evlE ?se9 ?sl9 ?sn9; (case sn9 => rfl); (case se9 => kaf_pre); (case sl9 => kaf_suf))
  k_with "k_ne" => (refine neN ?_; (try dsimp only); first | with_reducible assumption | exact Ne.symm (by with_reducible assumption) | (refine Nat.ne_of_gt ((?_ : ChainTo _ _ _ _) (by with_reducible assumption)); intro hch; with_reducible (first | exact And.left hch | exact And.left (And.right hch) | exact And.left (And.right (And.right hch)) | exact And.left (And.right (And.right (And.right hch))) | exact And.left (And.right (And.right (And.right (And.right hch)))) | exact And.left (And.right (And.right (And.right (And.right (And.right hch))))) | exact And.left (And.right (And.right (And.right (And.right (And.right (And.right hch)))))) | exact And.left (And.right (And.right (And.right (And.right (And.right (And.right (And.right hch))))))) | exact And.left (And.right (And.right (And.right (And.right (And.right (And.right (And.right (And.right hch)))))))) | exact And.left (And.right (And.right (And.right (And.right (And.right (And.right (And.right (And.right (And.right hch))))))))) | exact And.left (And.right (And.right (And.right (And.right (And.right (And.right (And.right (And.right (And.right (And.right hch)))))))))) | exact And.left (And.right (And.right (And.right (And.right (And.right (And.right (And.right (And.right (And.right (And.right (And.right hch))))))))))) | exact And.left (And.right (And.right (And.right (And.right (And.right (And.right (And.right (And.right (And.right (And.right (And.right (And.right hch)))))))))))) | exact And.left (And.right (And.right (And.right (And.right (And.right (And.right (And.right (And.right (And.right (And.right (And.right (And.right (And.right hch))))))))))))))) | (refine Nat.ne_of_lt ((?_ : ChainTo _ _ _ _) (by with_reducible assumption)); intro hch; with_reducible (first | exact And.left hch | exact And.left (And.right hch) | exact And.left (And.right (And.right hch)) | exact And.left (And.right (And.right (And.right hch))) | exact And.left (And.right (And.right (And.right (And.right hch)))) | exact And.left (And.right (And.right (And.right (And.right (And.right hch))))) | exact And.left (And.right (And.right (And.right (And.right (And.right (And.right hch)))))) | exact And.left (And.right (And.right (And.right (And.right (And.right (And.right (And.right hch))))))) | exact And.left (And.right (And.right (And.right (And.right (And.right (And.right (And.right (And.right hch)))))))) | exact And.left (And.right (And.right (And.right (And.right (And.right (And.right (And.right (And.right (And.right hch))))))))) | exact And.left (And.right (And.right (And.right (And.right (And.right (And.right (And.right (And.right (And.right (And.right hch)))))))))) | exact And.left (And.right (And.right (And.right (And.right (And.right (And.right (And.right (And.right (And.right (And.right (And.right hch))))))))))) | exact And.left (And.right (And.right (And.right (And.right (And.right (And.right (And.right (And.right (And.right (And.right (And.right (And.right hch)))))))))))) | exact And.left (And.right (And.right (And.right (And.right (And.right (And.right (And.right (And.right (And.right (And.right (And.right (And.right (And.right hch))))))))))))))) | exact Nat.ne_of_gt (Nat.lt_succ_of_lt (And.left (by with_reducible assumption))) | exact Nat.ne_of_lt (Nat.lt_succ_of_lt (And.left (by with_reducible assumption))) | exact Nat.ne_of_gt (Nat.lt_succ_of_lt (And.left (And.right (by with_reducible assumption)))) | exact Nat.ne_of_lt (Nat.lt_succ_of_lt (And.left (And.right (by with_reducible assumption)))) | exact Nat.ne_of_gt (Nat.lt_succ_of_lt (And.left (And.right (And.right (by with_reducible assumption))))) | exact Nat.ne_of_lt (Nat.lt_succ_of_lt (And.left (And.right (And.right (by with_reducible assumption))))) | exact Nat.ne_of_gt (Nat.lt_succ_of_lt (Nat.lt_succ_of_lt (And.left (by with_reducible assumption)))) | exact Nat.ne_of_lt (Nat.lt_succ_of_lt (Nat.lt_succ_of_lt (And.left (by with_reducible assumption)))) | exact Nat.ne_of_gt (Nat.lt_succ_of_lt (Nat.lt_succ_of_lt (And.left (And.right (by with_reducible assumption))))) | exact Nat.ne_of_lt (Nat.lt_succ_of_lt (Nat.lt_succ_of_lt (And.left (And.right (by with_reducible assumption))))) | exact Nat.ne_of_gt (Nat.lt_succ_of_lt (Nat.lt_succ_of_lt (And.left (And.right (And.right (by with_reducible assumption)))))) | exact Nat.ne_of_lt (Nat.lt_succ_of_lt (Nat.lt_succ_of_lt (And.left (And.right (And.right (by with_reducible assumption)))))) | exact Nat.ne_of_gt (Nat.lt_succ_of_lt (Nat.lt_succ_of_lt (Nat.lt_succ_of_lt (And.left (by with_reducible assumption))))) | exact Nat.ne_of_lt (Nat.lt_succ_of_lt (Nat.lt_succ_of_lt (Nat.lt_succ_of_lt (And.left (by with_reducible assumption))))) | exact Nat.ne_of_gt (Nat.lt_succ_of_lt (Nat.lt_succ_of_lt (Nat.lt_succ_of_lt (And.left (And.right (by with_reducible assumption)))))) | exact Nat.ne_of_lt (Nat.lt_succ_of_lt (Nat.lt_succ_of_lt (Nat.lt_succ_of_lt (And.left (And.right (by with_reducible assumption)))))) | exact Nat.ne_of_gt (Nat.lt_succ_of_lt (Nat.lt_succ_of_lt (Nat.lt_succ_of_lt (And.left (And.right (And.right (by with_reducible assumption))))))) | exact Nat.ne_of_lt (Nat.lt_succ_of_lt (Nat.lt_succ_of_lt (Nat.lt_succ_of_lt (And.left (And.right (And.right (by with_reducible assumption))))))) | exact Nat.ne_of_gt (Nat.lt_succ_self _) | exact Nat.ne_of_lt (Nat.lt_succ_self _) | exact Nat.ne_of_gt (Nat.lt_succ_of_lt (Nat.lt_succ_self _)) | exact Nat.ne_of_lt (Nat.lt_succ_of_lt (Nat.lt_succ_self _)) | exact ((And.left (And.left (by with_reducible assumption))) : @Ne Nat _ _) | exact Ne.symm ((And.left (And.left (by with_reducible assumption))) : @Ne Nat _ _) | exact ((And.left (And.right (And.left (by with_reducible assumption)))) : @Ne Nat _ _) | exact Ne.symm ((And.left (And.right (And.left (by with_reducible assumption)))) : @Ne Nat _ _) | exact ((And.right (And.right (And.left (by with_reducible assumption)))) : @Ne Nat _ _) | exact Ne.symm ((And.right (And.right (And.left (by with_reducible assumption)))) : @Ne Nat _ _) | exact ((And.left (And.left (And.right (by with_reducible assumption)))) : @Ne Nat _ _) | exact Ne.symm ((And.left (And.left (And.right (by with_reducible assumption)))) : @Ne Nat _ _) | exact ((And.left (And.right (And.left (And.right (by with_reducible assumption))))) : @Ne Nat _ _) | exact Ne.symm ((And.left (And.right (And.left (And.right (by with_reducible assumption))))) : @Ne Nat _ _) | exact ((And.right (And.right (And.left (And.right (by with_reducible assumption))))) : @Ne Nat _ _) | exact Ne.symm ((And.right (And.right (And.left (And.right (by with_reducible assumption))))) : @Ne Nat _ _) | exact ((And.left (And.left (And.right (And.right (by with_reducible assumption))))) : @Ne Nat _ _) | exact Ne.symm ((And.left (And.left (And.right (And.right (by with_reducible assumption))))) : @Ne Nat _ _) | exact ((And.left (And.right (And.left (And.right (And.right (by with_reducible assumption)))))) : @Ne Nat _ _) | exact Ne.symm ((And.left (And.right (And.left (And.right (And.right (by with_reducible assumption)))))) : @Ne Nat _ _) | exact ((And.right (And.right (And.left (And.right (And.right (by with_reducible assumption)))))) : @Ne Nat _ _) | exact Ne.symm ((And.right (And.right (And.left (And.right (And.right (by with_reducible assumption)))))) : @Ne Nat _ _) | exact ((And.left (And.left (And.right (And.right (And.right (by with_reducible assumption)))))) : @Ne Nat _ _) | exact Ne.symm ((And.left (And.left (And.right (And.right (And.right (by with_reducible assumption)))))) : @Ne Nat _ _) | exact ((And.left (And.right (And.left (And.right (And.right (And.right (by with_reducible assumption))))))) : @Ne Nat _ _) | exact Ne.symm ((And.left (And.right (And.left (And.right (And.right (And.right (by with_reducible assumption))))))) : @Ne Nat _ _) | exact ((And.right (And.right (And.left (And.right (And.right (And.right (by with_reducible assumption))))))) : @Ne Nat _ _) | exact Ne.symm ((And.right (And.right (And.left (And.right (And.right (And.right (by with_reducible assumption))))))) : @Ne Nat _ _) | exact ((And.left (And.left (And.right (And.right (And.right (And.right (by with_reducible assumption))))))) : @Ne Nat _ _) | exact Ne.symm ((And.left (And.left (And.right (And.right (And.right (And.right (by with_reducible assumption))))))) : @Ne Nat _ _) | exact ((And.left (And.right (And.left (And.right (And.right (And.right (And.right (by with_reducible assumption)))))))) : @Ne Nat _ _) | exact Ne.symm ((And.left (And.right (And.left (And.right (And.right (And.right (And.right (by with_reducible assumption)))))))) : @Ne Nat _ _) | exact ((And.right (And.right (And.left (And.right (And.right (And.right (And.right (by with_reducible assumption)))))))) : @Ne Nat _ _) | exact Ne.symm ((And.right (And.right (And.left (And.right (And.right (And.right (And.right (by with_reducible assumption)))))))) : @Ne Nat _ _) | exact ((And.left (And.left (And.right (And.right (And.right (And.right (And.right (by with_reducible assumption)))))))) : @Ne Nat _ _) | exact Ne.symm ((And.left (And.left (And.right (And.right (And.right (And.right (And.right (by with_reducible assumption)))))))) : @Ne Nat _ _) | exact ((And.left (And.right (And.left (And.right (And.right (And.right (And.right (And.right (by with_reducible assumption))))))))) : @Ne Nat _ _) | exact Ne.symm ((And.left (And.right (And.left (And.right (And.right (And.right (And.right (And.right (by with_reducible assumption))))))))) : @Ne Nat _ _) | exact ((And.right (And.right (And.left (And.right (And.right (And.right (And.right (And.right (by with_reducible assumption))))))))) : @Ne Nat _ _) | exact Ne.symm ((And.right (And.right (And.left (And.right (And.right (And.right (And.right (And.right (by with_reducible assumption))))))))) : @Ne Nat _ _) | exact ((And.left (And.left (And.right (And.right (And.right (And.right (And.right (And.right (by with_reducible assumption))))))))) : @Ne Nat _ _) | exact Ne.symm ((And.left (And.left (And.right (And.right (And.right (And.right (And.right (And.right (by with_reducible assumption))))))))) : @Ne Nat _ _) | exact ((And.left (And.right (And.left (And.right (And.right (And.right (And.right (And.right (And.right (by with_reducible assumption)))))))))) : @Ne Nat _ _) | exact Ne.symm ((And.left (And.right (And.left (And.right (And.right (And.right (And.right (And.right (And.right (by with_reducible assumption)))))))))) : @Ne Nat _ _) | exact ((And.right (And.right (And.left (And.right (And.right (And.right (And.right (And.right (And.right (by with_reducible assumption)))))))))) : @Ne Nat _ _) | exact Ne.symm ((And.right (And.right (And.left (And.right (And.right (And.right (And.right (And.right (And.right (by with_reducible assumption)))))))))) : @Ne Nat _ _) | omega)
  k_with "ktr_room" => ((try simp only [depth_under_make, depth_under_kw, depth_in1, depth_deeper, depth_caller]); (try dsimp only [ktrTop]); first | exact Nat.lt_of_le_of_lt (Nat.le_add_right _ _) (by with_reducible assumption) | exact roomStep (by with_reducible assumption) (by first | exact Nat.le_refl _ | decide | exact r2 _ | omega) | fail "room")
  k_with "ktr_units" => ((try simp only [units_in1, units_deeper, Around.mark_units, units_caller]); (try dsimp only [ktrTop]); first | exact unitStep (by with_reducible assumption) (by first | exact Nat.le_refl _ | decide | exact u20 _ | exact u40 _ | omega) | fail "units")
  k_with "k_mem" => first | exact tail_mem (by assumption) (by k_mem) | fail "k_mem"
  k_with "k_mem" => assumption
  k_with "k_mem" => first | exact List.mem_cons_of_mem _ (by assumption) | fail "k_mem"
  k_with "size_fits" => (simp only [List.size_toArray, Array.size_push, List.length_append, List.length_cons, List.length_nil, PySem.sizeLine_eq] <;> omega)
  k_with "exec If" => (k_here; k_fold)
  k_with "exec Assign" => (k_here; k_fold)
  k_with "exec Expr" => (k_here; k_fold)
  k_with "exec Return some" => (k_here; k_fold)
  k_with "execs cons" => (k_here; first | k_fold | ((with_reducible refine execsG ?_); intro t9; (try dsimp only)))
  k_with "execs nil" => (k_here; (with_reducible refine wpAny_execs_nil ?_); (try dsimp only))
  k_with "call builtin:len" => (k_here; (with_reducible show wpAny _ _ (call (Value.builtin _) [Value.ref _]) _ _ _); k_dflt (refine' len_list (News.isList ?k1 ?k2) ?k3 ?_; (case k1 => k_asm); (case k2 => k_mem); (case k3 => (simp only [List.size_toArray]; omega)); k_whole); (try simp only [List.size_toArray]))
  k_with "ite" => (k_here; first | (refine ite_pos (by first | omega | (simp only [beq_iff_eq, bne_iff_ne, decide_eq_true_eq]; omega)) ?_) | (refine ite_neg (by first | omega | (simp only [beq_iff_eq, bne_iff_ne, decide_eq_true_eq]; omega)) ?_))
  k_with "exec For Tuple Subscript cons nil" => k_extra "exec For Tuple"
  k_with "subscriptTail" => (k_here; (with_reducible show wpAny _ _ (subscriptTail _ _ (Value.ref _) (Value.int _ _)) _ _ _); (with_unfolding_all refine' litItem ?N ?m ?a ?b ?c ?_ ?d; (case N => k_asm); (case m => k_mem); (case a => decide); (case b => decide); (case c => rfl); (case d => with_unfolding_all rfl); k_whole))
  k_with "call builtin:list.index" => (k_here; (with_reducible show wpAny _ _ (call (Value.builtin _) [Value.ref _, Value.str _ _]) _ _ _); k_dflt (refine' kindIndex ?k0 ?N ?m ?_; (case k0 => with_reducible assumption); (case N => k_asm); (case m => k_mem)); dsimp only [Wh.ixI])
  k_with "exec If" => (k_here; k_dflt (first | ((with_reducible refine' ifT ?xe9 ?xb9 ?_); (case xe9 => kaf_pre); (case xb9 => decide); k_whole) | ((with_reducible refine' ifF ?xe9 ?xb9 ?_); (case xe9 => kaf_pre); (case xb9 => decide); k_whole)))
  k_with "isTrue Compare" => (k_here; k_dflt (first | ((with_reducible refine' isT ?xe9 ?xb9 ?_); (case xe9 => kaf_pre); (case xb9 => decide); k_whole) | ((with_reducible refine' isF ?xe9 ?xb9 ?_); (case xe9 => kaf_pre); (case xb9 => decide); k_whole) | ((with_reducible refine' isI ?xe9 ?_); (case xe9 => kaf_pre); k_whole) | ((with_reducible refine' isIl ?xe9 ?_); (case xe9 => kaf_pre); k_whole) | ((with_reducible refine' isIg ?xe9 ?_); (case xe9 => kaf_pre); k_whole)))
  k_with "eval Subscript" => (k_here; k_dflt ((with_reducible refine' Ev.go ?xe9 ?_); (case xe9 => kaf_pre); k_whole))
  k_with "spliced" => (k_here; k_dflt ((with_reducible refine' EvL.go ?xe9 ?_); (case xe9 => kaf_suf); k_whole); (try dsimp only [List.nil_append, List.cons_append]))
  k_with "eval Call" => (k_here; (with_reducible show wpAny _ _ (eval (Expr.Call (Expr.Name _ _) (_ :: _) [] _) _) _ _ _); k_dflt (refine' evCall ?xF9 ?xX9 ?xT9 ?xe9 ?xk9 ?xl9 ?_ ?xs9 ?xa9 ?xb9 ?xc9; (case xF9 => k_asm); (case xX9 => k_asm); (case xT9 => k_asm); (case xa9 => rfl); (case xb9 => rfl); (case xc9 => rfl); (case xe9 => k_is); (case xk9 => k_is); (case xl9 => kaf_suf); (case xs9 => rfl); k_whole))
  k_with "call ref" => (k_here; (with_reducible show wpAny _ _ (call (Value.ref 70) [_]) _ _ _); k_dflt (refine' Ctr.use (label_places w mean mg mb bl bs is kb R hm hb hz) ?k1 ?k2 ?k3 ?k4 ?k5 ?kK ?kd ?ku ?_; (case k4 => k_asm); (case k1 => k_asm); (case k2 => k_asm); (case k3 => k_asm); (case k5 => k_asm); (case kK => first | exact rfl | assumption); (case kd => ktr_room); (case ku => ktr_units)); rintro r1 news1 h1 tk1 F9 N9 ⟨D9, o9, kvs9, e9, e8, lo9, hD9, off9⟩; subst e9 e8)
  k_with "exec While Compare cons nil" => (k_here; (rename Fr _ _ _ _ => lF'); (rename News _ _ _ _ => lN'); (with_unfolding_all refine' triWhile (vs := [_]) (us := []) (st := [0]) (f := []) lF' lN' ⟨hr0, .cons _ _ .nil, .nil, ?z1, ?z2⟩ ?_; (case z1 => (show 1 + n0 ≤ 3000; omega)); (case z2 => (show 0 + n0 ≤ 3000; omega)); (clear lF' lN'); intro vs st kp us f kf n u h tk hI F' N'; have hvl := hI.hv.length; have hul := hI.hu.length; have hz3 := hI.h1; have hz4 := hI.h2; dsimp only at hvl hul hz3 hz4))
  k_with "call builtin:list.pop" => (k_here; (with_reducible show wpAny _ _ (call (Value.builtin _) [Value.ref _]) _ _ _); refine' Mine.halt ?_)
  k_with "subscriptTail" => (k_here; (try dsimp only); (with_reducible show wpAny _ _ (subscriptTail _ _ (Value.ref _) (Value.int (Nat.cast p) _)) _ _ _); (with_unfolding_all refine' litItem ?N ?m ?a ?b ?c ?_ ?d; (case N => k_asm); (case m => exact .tail _ (.tail _ (.tail _ hm))); (case a => omega); (case b => omega); (case c => exact e9); (case d => with_unfolding_all rfl); k_whole))
  k_with "subscriptTail" => (k_here; (try dsimp only); (with_reducible show wpAny _ _ (subscriptTail _ _ (Value.ref D9) (Value.int _ _)) _ _ _); (rename News _ _ _ _ => kN); k_dflt (refine' kdf_item (TabAt.ofObj lo9 (kN _ (.tail _ (.tail _ (.head _)))).1 hD9.1 hD9.2) (hh9 (by omega)) ?_); intro t8)
  k_with "call ref" => (k_here; (with_reducible show wpAny _ _ (call (Value.ref 77) [_, _]) _ _ _); k_dflt (refine' Ctr.use hT9 ?k1 ?k2 ?k3 ?k4 ?k5 ?kK ?kd ?ku ?_; (case k4 => k_asm); (case k1 => k_asm); (case k2 => k_asm); (case k3 => k_asm); (case k5 => k_asm); (case kK => first | exact rfl | assumption); (case kd => ktr_room); (case ku => ktr_units)); rintro r2 news2 h2 tk2 F9 N9 ⟨e7, t7, e6⟩; subst e7 e6)
  k_with "call ref" => (k_here; (with_reducible show wpAny _ _ (call (Value.ref 84) [_, _]) _ _ _); k_dflt (refine' Ctr.use hT9 ?k1 ?k2 ?k3 ?k4 ?k5 ?kK ?kd ?ku ?_; (case k4 => k_asm); (case k1 => k_asm); (case k2 => k_asm); (case k3 => k_asm); (case k5 => k_asm); (case kK => first | exact rfl | assumption); (case kd => ktr_room); (case ku => ktr_units)); rintro r2 news2 h2 tk2 F9 N9 ⟨e7, t7, e6⟩; subst e7 e6)
  k_with "KswEnd" => (k_here; (rename Fr _ _ _ _ => kF); (rename News _ _ _ _ => kN); (try simp only [List.push_toArray] at kN); (with_unfolding_all first
    | refine' triTurn kF kN (fun p hp => hp) (hrA (by omega)) ?hv ?hu ?h1 ?h2 rfl ?hr
    | refine' triTurn kF kN (fun p hp => hp) (hrB (by omega)) ?hv ?hu ?h1 ?h2 rfl ?hr); (case hv => first | exact hv' | exact ints_snoc hv' | exact ints_snoc (ints_snoc hv')); (case hu => first | exact hu' | exact ints_snoc hu'); (case h1 => first | omega | (simp only [List.length_append, List.length_cons, List.length_nil]; omega)); (case h2 => first | omega | (simp only [List.length_append, List.length_cons, List.length_nil]; omega)); (case hr => (intro z h2 h3; (simp only [List.contains_cons, List.contains_nil, Bool.or_false, Bool.or_eq_false_iff, beq_eq_false_iff_ne, ne_eq] at h3); simp [kstB, h3])))
  k_with "exec Raise some none" => (k_here; k_dflt (refine' raiseO ?hh ?_; (case hh => rfl)))
  k_with "call ref" => (k_here; (with_reducible show wpAny _ _ (call (Value.ref 45) [_]) _ _ _); k_dflt (refine' callLinkK ?F ?N ?X ?z ?_; (case F => k_asm); (case N => k_asm); (case X => k_asm); (case z => (simp only [List.length_cons, List.length_nil, PySem.sizeLine_eq]; omega))); intro h9 e9 t9 F9 N9 off8)
  k_with "call ref" => (k_here; (with_reducible show wpAny _ _ (call (Value.ref 42) [_, _]) _ _ _); (refine wpAny_call ?_); k_dflt (refine' code_def ?k1 ?k2 ?k3 ?k4 ?k5 ?kA ?kF ?kK ?k6 ?k7 ?k8 ?k9 ?kB ?_ ?c2 ?c3 ?c4 ?c5; (case kA => exact rfl); (case kF => exact rfl); (case kK => exact rfl); (case k1 => k_asm); (case k2 => k_asm); (case k3 => k_asm); (case k4 => k_asm); (case k5 => k_asm); (case k6 => k_is); (case k7 => k_is); (case k8 => ktr_room); (case k9 => exact binds_K (by k_in) rfl (by k_is) rfl rfl rfl); (case c5 => decide); (case kB => exact locs rfl); (case c2 => exact rfl); (case c3 => exact rfl); (case c4 => exact rfl); k_whole; intro g' L' h' FG' F' N' B' X' T'; (try dsimp only); (try k_fold)))
  k_with "setAttr ref" => (k_here; k_dflt (refine' setWhatK ?F ?N ?X ?o ?_; (case F => k_asm); (case N => k_asm); (case X => k_asm); (case o => exact off8)); intro h7 d7 tk7 F7 N7)
  k_with "RaisableO" => ((rename Fr _ _ _ _ => kF); (rename News _ _ _ _ => kN); k_dflt (refine' raisableK kF ?X kN ?_; (case X => k_asm)))
  k_with "leaving ref" => (k_here; (rename Fr _ _ _ _ => kF); (rename News _ _ _ _ => kN); k_dflt (refine' leaveO ?K kF kN ?o ?_; (case K => assumption); (case o => exact off8)); intro h6 R6 U6; exact hbad ho _ _ _ _ (by assumption) U6 (raised_sub R6 (fun p hp => .tail _ (.tail _ (.tail _ hp)))))
  unfold CtrX
  intro dp un gd cn cs a ccd cl outer A₀ base h₀ L m s Q E B F X N T hk hd hu hret hbad
  refine wpAny_call ?_
  k_dflt ktr_enter; (refine letE ?_); intro e9; (refine letA ?_); intro A9; (rename Fr _ _ _ _ => F8); (refine letM F8 ?_); clear F8; intro m9 F9
  k_steps
  · unfold Mine.Halt
    obtain ⟨p, i, st', vs', t, rfl, rfl, hv', hi, hf, hstep⟩ := hI.meet (by omega)
    have hu' : IntsAre us f := hI.hu
    have hz5 : vs'.length ≤ 3000 := by have := hv'.length; simp only [List.length_append, List.length_cons, List.length_nil] at hz3; omega
    have hz6 : us.length ≤ 3000 := by omega
    have hz7 : st'.length + n ≤ 2999 := by simp only [List.length_append, List.length_cons, List.length_nil] at hz3; omega
    have hz8 : p < is.length := (List.getElem?_eq_some_iff.mp hi).1
    k_dflt (refine' popLast ?F ?N ?U ?z ?_; (case F => k_asm); (case N => k_asm); (case U => k_upd); (case z => omega))
    intro hp9 F9 N9
    obtain ⟨v9, e9, hi9⟩ := hb.get hi
    rw [← List.getElem?_toArray] at e9
    clear hI hi
    rcases hstep with ⟨n', a9, b9, tt, rfl, hs, hh9, hr9⟩ | ⟨hs, ho⟩
    · by_cases htb : isTb i = true
      · obtain ⟨rfl, rfl, sb, x9, q9, d9, u0, u1, rfl, hx9, hT9⟩ := tb_meet (w := w) (mean := mean) (mg := mg) (mb := mb) N9 (fun p hp => .tail _ (.tail _ (.tail _ hp))) hi9 hk0 hf hs htb
        obtain ⟨hrA, hrB⟩ := hr9.part
        clear hr9 hi9 hs
        simp only [Bool.false_eq_true, if_false, List.append_nil, Option.toList_none] at hrA hrB
        cases sb
        all_goals k_steps
      · cases hi9
        case tb0 => exact absurd rfl htb
        case tb1 => exact absurd rfl htb
        case tb2 => exact absurd rfl htb
        case pro => cases hs
        case cal => cases hs
        case sw =>
          have hT9 := sw_meet (w := w) (mean := mean) (mg := mg) (mb := mb) N9 (fun p hp => .tail _ (.tail _ (.tail _ hp))) (.sw (by assumption)) hk0
          simp only [stepI, Option.some.injEq, Prod.mk.injEq] at hs
          obtain ⟨rfl, rfl, rfl⟩ := hs
          obtain ⟨hrA, hrB⟩ := hr9.part
          clear hr9
          simp only [Bool.false_eq_true, if_false, List.append_nil, Option.toList_none] at hrA hrB
          k_steps
        case lab =>
          simp only [stepI] at hs
          split at hs
          all_goals (
            simp only [Option.some.injEq, Prod.mk.injEq] at hs
            obtain ⟨rfl, rfl, rfl⟩ := hs
            have hrC := hr9.part.1 rfl
            clear hr9
            simp only [Bool.false_eq_true, if_false, if_true, List.append_nil, Option.toList_none, Option.toList_some] at hrC
            have hrA := fun (_ : (-1 : Int) = -1) => hrC
            k_steps)
        all_goals (
          simp only [stepI, Option.some.injEq, Prod.mk.injEq] at hs
          obtain ⟨rfl, rfl, rfl⟩ := hs
          obtain ⟨hrA, hrB⟩ := hr9.part
          clear hr9
          simp only [Bool.false_eq_true, if_false, if_true, List.append_nil, Option.toList_none, Option.toList_some] at hrA hrB
          k_steps)
    · cases hi9
      case lab => simp only [stepI] at hs; split at hs <;> cases hs
      case pro =>
        clear hv' hz3 hz7 hvl
        k_steps
      case cal =>
        clear hv' hz3 hz7 hvl
        k_steps
      all_goals (first | cases hs | skip)
  · exact hret _ _ _ _ (by assumption) (newsSub (by assumption) (fun p hp => by
      rcases List.mem_cons.mp hp with rfl | hp
      · exact .tail _ (.head _)
      · exact .tail _ (.tail _ (.tail _ hp)))) (triPost (hI.fin (by omega)) hI.hu (by k_all))
/-- a contract for the law's own frame -/
def CtrT (w : World) (mean : ExcName → Option Value) (mg mb : Str → Option Value) (f : Addr) (d u : Nat) (news : Led) (vs : List Value) (Post : Led → Value → Prop) : Prop :=
  ∀ (dp un : Nat) (gd : Option (List Code)) (cn : Str) (cs : Scope) (a : Addr) (ccd : Value) (A₀ : Around) (h₀ : Heap) (L : Addr) (m : Str → Option Value) (s : Shared)
    (Q E : Value → Shared → Prop),
    Below A₀ h₀ [] h₀ → Fr h₀ L s.heap m → (Mine.hd.heap_39 w.params).In h₀ → News h₀ L s.heap news → Top Mine.hd.view_39 (looseW Mine.hd.view_39 [Str.ofString "LinkFault"]) mean mg mb h₀ → cs.kind = .function → dp + d < recursionLimit → un + u < cLine →
    (∀ r news' h' tk', Fr h₀ L h' m → News h₀ L h' news' → Post news' r → Q r { s with heap := h', toks := tk' }) →
    wpAny (model Mine.pw w) (ktrTop dp un gd cn cs L a ccd [] []) (call (.ref f) vs) Q E s
theorem CtrX.use {w : World} {mean : ExcName → Option Value} {mg mb : Str → Option Value} {f : Addr} {d u : Nat} {news : Led} {vs : List Value} {Post : Led → Value → Prop} {bad : Prop} {dp un : Nat} {gd : Option (List Code)} {cn : Str} {cs : Scope} {a : Addr} {ccd : Value} {cl : List (Str × Addr)} {outer : List Env} {A₀ : Around} {base h₀ : Heap} {L : Addr} {m : Str → Option Value} {s : Shared}
    {Q E : Value → Shared → Prop} (C : CtrX w mean mg mb f d u news vs Post bad) (B : Below A₀ base outer h₀) (F : Fr h₀ L s.heap m) (X : (Mine.hd.heap_39 w.params).In h₀) (N : News h₀ L s.heap news)
    (T : Top Mine.hd.view_39 (looseW Mine.hd.view_39 [Str.ofString "LinkFault"]) mean mg mb h₀) (hk : cs.kind = .function) (hd : dp + d < recursionLimit) (hu : un + u < cLine)
    (ret : ∀ r news' h' tk', Fr h₀ L h' m → News h₀ L h' news' → Post news' r → Q r { s with heap := h', toks := tk' })
    (hb : bad → ∀ e g h' tk', Fr h₀ L g m → g.UpToSlots h' → RaisedSN base g (envX cn cs L a ccd cl :: outer) e (.ref 45) news h' → E (.ref e) { s with heap := h', toks := tk' }) :
    wpAny (model Mine.pw w) (ktrTop dp un gd cn cs L a ccd cl outer) (call (.ref f) vs) Q E s := C _ _ _ _ _ _ _ _ _ _ _ _ _ _ _ _ _ B F X N T hk hd hu ret hb
theorem tri_bad {R news : Led} {r : Value} (h : TriPost R .bad news r) : False := by obtain ⟨l, _, _, _, _, e, _⟩ := h; cases e
set_option maxRecDepth 100000 in
set_option maxHeartbeats 8000000 in
theorem law_refused (w : World) (mean : ExcName → Option Value) (mg mb : Str → Option Value) (bl : Addr) (kv : Value) (R : Led)
    (hC : ∀ tc, CtrX w mean mg mb 91 6 300 R [.ref bl, .int 5 tc, kv] (TriPost R .bad) (Out.bad = .bad)) :
    CtrT w mean mg mb 136 8 320 R [.ref bl, kv] (fun news r => news = R ∧ r = .bool true) := by
  k_with_none
  k_with "k_all" => first | with_reducible assumption | (refine' List.forall_mem_cons.mpr ⟨?qa9, ?qb9⟩; (case qa9 => k_ne); (case qb9 => k_all)) | exact allLt_ne (by with_reducible assumption) | exact off1_ne4 (by with_reducible assumption) | exact allLt_ne1 (by with_reducible assumption) | exact allLt_ne2 (by with_reducible assumption) | exact allLt_ne3 (by with_reducible assumption) | exact allLt_ne4 (by with_reducible assumption) | exact allLt_ne5 (by with_reducible assumption) | exact allLt_ne6 (by with_reducible assumption) | exact allLt_ne7 (by with_reducible assumption) | exact allLt_ne8 (by with_reducible assumption) | exact allLt_ne9 (by with_reducible assumption) | exact allLt_ne10 (by with_reducible assumption) | exact allLt_ne11 (by with_reducible assumption) | exact allLt_ne12 (by with_reducible assumption) | exact tail_ne (by with_reducible assumption) (fresh_ne (by with_reducible assumption) (by k_mem)) (by k_all) | fail "k_all"
  k_with "k_updF" => first | (refine' UpT.head ?ua9 ?ub9; (case ub9 => k_all); (case ua9 => k_updF)) | (refine' UpT.tail ?ua9 ?ub9; (case ua9 => k_ne); (case ub9 => k_updF)) | (refine' TailOf.cons ?ua9; (case ua9 => k_updF)) | exact TailOf.nil | fail "updT"
  k_with "kaf_pre" => first | (refine' evI ?pe9 ?pN9 ?pm9 ?px9; (case pe9 => kaf_pre); (case pN9 => k_asm); (case pm9 => k_mem); (case px9 => rfl)) | (refine' evL ?pF9 ?pv9 ?pa9 ?pb9 ?pc9; (case pF9 => k_asm); (case pa9 => rfl); (case pb9 => rfl); (case pc9 => rfl); (case pv9 => rfl)) | (refine' evC ?pN9 ?pl9 ?pm9 ?pd9 ?pa9 ?pb9 ?pc9; (case pa9 => rfl); (case pb9 => rfl); (case pc9 => rfl); (case pN9 => k_asm); (case pl9 => rfl); (case pm9 => k_mem); (case pd9 => k_asm)) | (refine' evK ?pF9 ?pX9 ?pT9 ?pe9 ?pa9 ?pb9 ?pc9; (case pF9 => k_asm); (case pX9 => k_asm); (case pT9 => k_asm); (case pa9 => rfl); (case pb9 => rfl); (case pc9 => rfl); (case pe9 => k_is))
  k_with "kaf_suf" => first | exact evl0 | (refine' evlI ?sl9; (case sl9 => kaf_suf)) | (refine' evlS ?sl9; (case sl9 => kaf_suf)) | (refine' evlN ?se9 ?sl9 ?sn9; (case sn9 => rfl); (case se9 => kaf_pre); (case sl9 => kaf_suf)) | (refine' evlE ?se9 ?sl9 ?sn9; (case sn9 => rfl); (case se9 => kaf_pre); (case sl9 => kaf_suf))
  k_with "k_ne" => (refine neN ?_; (try dsimp only); first | with_reducible assumption | exact Ne.symm (by with_reducible assumption) | (refine Nat.ne_of_gt ((?_ : ChainTo _ _ _ _) (by with_reducible assumption)); intro hch; with_reducible (first | exact And.left hch | exact And.left (And.right hch) | exact And.left (And.right (And.right hch)) | exact And.left (And.right (And.right (And.right hch))) | exact And.left (And.right (And.right (And.right (And.right hch)))) | exact And.left (And.right (And.right (And.right (And.right (And.right hch))))) | exact And.left (And.right (And.right (And.right (And.right (And.right (And.right hch)))))) | exact And.left (And.right (And.right (And.right (And.right (And.right (And.right (And.right hch))))))) | exact And.left (And.right (And.right (And.right (And.right (And.right (And.right (And.right (And.right hch)))))))) | exact And.left (And.right (And.right (And.right (And.right (And.right (And.right (And.right (And.right (And.right hch))))))))) | exact And.left (And.right (And.right (And.right (And.right (And.right (And.right (And.right (And.right (And.right (And.right hch)))))))))) | exact And.left (And.right (And.right (And.right (And.right (And.right (And.right (And.right (And.right (And.right (And.right (And.right hch))))))))))) | exact And.left (And.right (And.right (And.right (And.right (And.right (And.right (And.right (And.right (And.right (And.right (And.right (And.right hch)))))))))))) | exact And.left (And.right (And.right (And.right (And.right (And.right (And.right (And.right (And.right (And.right (And.right (And.right (And.right (And.right hch))))))))))))))) | (refine Nat.ne_of_lt ((?_ : ChainTo _ _ _ _) (by with_reducible assumption)); intro hch; with_reducible (first | exact And.left hch | exact And.left (And.right hch) | exact And.left (And.right (And.right hch)) | exact And.left (And.right (And.right (And.right hch))) | exact And.left (And.right (And.right (And.right (And.right hch)))) | exact And.left (And.right (And.right (And.right (And.right (And.right hch))))) | exact And.left (And.right (And.right (And.right (And.right (And.right (And.right hch)))))) | exact And.left (And.right (And.right (And.right (And.right (And.right (And.right (And.right hch))))))) | exact And.left (And.right (And.right (And.right (And.right (And.right (And.right (And.right (And.right hch)))))))) | exact And.left (And.right (And.right (And.right (And.right (And.right (And.right (And.right (And.right (And.right hch))))))))) | exact And.left (And.right (And.right (And.right (And.right (And.right (And.right (And.right (And.right (And.right (And.right hch)))))))))) | exact And.left (And.right (And.right (And.right (And.right (And.right (And.right (And.right (And.right (And.right (And.right (And.right hch))))))))))) | exact And.left (And.right (And.right (And.right (And.right (And.right (And.right (And.right (And.right (And.right (And.right (And.right (And.right hch)))))))))))) | exact And.left (And.right (And.right (And.right (And.right (And.right (And.right (And.right (And.right (And.right (And.right (And.right (And.right (And.right hch))))))))))))))) | exact Nat.ne_of_gt (Nat.lt_succ_of_lt (And.left (by with_reducible assumption))) | exact Nat.ne_of_lt (Nat.lt_succ_of_lt (And.left (by with_reducible assumption))) | exact Nat.ne_of_gt (Nat.lt_succ_of_lt (And.left (And.right (by with_reducible assumption)))) | exact Nat.ne_of_lt (Nat.lt_succ_of_lt (And.left (And.right (by with_reducible assumption)))) | exact Nat.ne_of_gt (Nat.lt_succ_of_lt (And.left (And.right (And.right (by with_reducible assumption))))) | exact Nat.ne_of_lt (Nat.lt_succ_of_lt (And.left (And.right (And.right (by with_reducible assumption))))) | exact Nat.ne_of_gt (Nat.lt_succ_of_lt (Nat.lt_succ_of_lt (And.left (by with_reducible assumption)))) | exact Nat.ne_of_lt (Nat.lt_succ_of_lt (Nat.lt_succ_of_lt (And.left (by with_reducible assumption)))) | exact Nat.ne_of_gt (Nat.lt_succ_of_lt (Nat.lt_succ_of_lt (And.left (And.right (by with_reducible assumption))))) | exact Nat.ne_of_lt (Nat.lt_succ_of_lt (Nat.lt_succ_of_lt (And.left (And.right (by with_reducible assumption))))) | exact Nat.ne_of_gt (Nat.lt_succ_of_lt (Nat.lt_succ_of_lt (And.left (And.right (And.right (by with_reducible assumption)))))) | exact Nat.ne_of_lt (Nat.lt_succ_of_lt (Nat.lt_succ_of_lt (And.left (And.right (And.right (by with_reducible assumption)))))) | exact Nat.ne_of_gt (Nat.lt_succ_of_lt (Nat.lt_succ_of_lt (Nat.lt_succ_of_lt (And.left (by with_reducible assumption))))) | exact Nat.ne_of_lt (Nat.lt_succ_of_lt (Nat.lt_succ_of_lt (Nat.lt_succ_of_lt (And.left (by with_reducible assumption))))) | exact Nat.ne_of_gt (Nat.lt_succ_of_lt (Nat.lt_succ_of_lt (Nat.lt_succ_of_lt (And.left (And.right (by with_reducible assumption)))))) | exact Nat.ne_of_lt (Nat.lt_succ_of_lt (Nat.lt_succ_of_lt (Nat.lt_succ_of_lt (And.left (And.right (by with_reducible assumption)))))) | exact Nat.ne_of_gt (Nat.lt_succ_of_lt (Nat.lt_succ_of_lt (Nat.lt_succ_of_lt (And.left (And.right (And.right (by with_reducible assumption))))))) | exact Nat.ne_of_lt (Nat.lt_succ_of_lt (Nat.lt_succ_of_lt (Nat.lt_succ_of_lt (And.left (And.right (And.right (by with_reducible assumption))))))) | exact Nat.ne_of_gt (Nat.lt_succ_self _) | exact Nat.ne_of_lt (Nat.lt_succ_self _) | exact Nat.ne_of_gt (Nat.lt_succ_of_lt (Nat.lt_succ_self _)) | exact Nat.ne_of_lt (Nat.lt_succ_of_lt (Nat.lt_succ_self _)) | exact ((And.left (And.left (by with_reducible assumption))) : @Ne Nat _ _) | exact Ne.symm ((And.left (And.left (by with_reducible assumption))) : @Ne Nat _ _) | exact ((And.left (And.right (And.left (by with_reducible assumption)))) : @Ne Nat _ _) | exact Ne.symm ((And.left (And.right (And.left (by with_reducible assumption)))) : @Ne Nat _ _) | exact ((And.right (And.right (And.left (by with_reducible assumption)))) : @Ne Nat _ _) | exact Ne.symm ((And.right (And.right (And.left (by with_reducible assumption)))) : @Ne Nat _ _) | exact ((And.left (And.left (And.right (by with_reducible assumption)))) : @Ne Nat _ _) | exact Ne.symm ((And.left (And.left (And.right (by with_reducible assumption)))) : @Ne Nat _ _) | exact ((And.left (And.right (And.left (And.right (by with_reducible assumption))))) : @Ne Nat _ _) | exact Ne.symm ((And.left (And.right (And.left (And.right (by with_reducible assumption))))) : @Ne Nat _ _) | exact ((And.right (And.right (And.left (And.right (by with_reducible assumption))))) : @Ne Nat _ _) | exact Ne.symm ((And.right (And.right (And.left (And.right (by with_reducible assumption))))) : @Ne Nat _ _) | exact ((And.left (And.left (And.right (And.right (by with_reducible assumption))))) : @Ne Nat _ _) | exact Ne.symm ((And.left (And.left (And.right (And.right (by with_reducible assumption))))) : @Ne Nat _ _) | exact ((And.left (And.right (And.left (And.right (And.right (by with_reducible assumption)))))) : @Ne Nat _ _) | exact Ne.symm ((And.left (And.right (And.left (And.right (And.right (by with_reducible assumption)))))) : @Ne Nat _ _) | exact ((And.right (And.right (And.left (And.right (And.right (by with_reducible assumption)))))) : @Ne Nat _ _) | exact Ne.symm ((And.right (And.right (And.left (And.right (And.right (by with_reducible assumption)))))) : @Ne Nat _ _) | exact ((And.left (And.left (And.right (And.right (And.right (by with_reducible assumption)))))) : @Ne Nat _ _) | exact Ne.symm ((And.left (And.left (And.right (And.right (And.right (by with_reducible assumption)))))) : @Ne Nat _ _) | exact ((And.left (And.right (And.left (And.right (And.right (And.right (by with_reducible assumption))))))) : @Ne Nat _ _) | exact Ne.symm ((And.left (And.right (And.left (And.right (And.right (And.right (by with_reducible assumption))))))) : @Ne Nat _ _) | exact ((And.right (And.right (And.left (And.right (And.right (And.right (by with_reducible assumption))))))) : @Ne Nat _ _) | exact Ne.symm ((And.right (And.right (And.left (And.right (And.right (And.right (by with_reducible assumption))))))) : @Ne Nat _ _) | exact ((And.left (And.left (And.right (And.right (And.right (And.right (by with_reducible assumption))))))) : @Ne Nat _ _) | exact Ne.symm ((And.left (And.left (And.right (And.right (And.right (And.right (by with_reducible assumption))))))) : @Ne Nat _ _) | exact ((And.left (And.right (And.left (And.right (And.right (And.right (And.right (by with_reducible assumption)))))))) : @Ne Nat _ _) | exact Ne.symm ((And.left (And.right (And.left (And.right (And.right (And.right (And.right (by with_reducible assumption)))))))) : @Ne Nat _ _) | exact ((And.right (And.right (And.left (And.right (And.right (And.right (And.right (by with_reducible assumption)))))))) : @Ne Nat _ _) | exact Ne.symm ((And.right (And.right (And.left (And.right (And.right (And.right (And.right (by with_reducible assumption)))))))) : @Ne Nat _ _) | exact ((And.left (And.left (And.right (And.right (And.right (And.right (And.right (by with_reducible assumption)))))))) : @Ne Nat _ _) | exact Ne.symm ((And.left (And.left (And.right (And.right (And.right (And.right (And.right (by with_reducible assumption)))))))) : @Ne Nat _ _) | exact ((And.left (And.right (And.left (And.right (And.right (And.right (And.right (And.right (by with_reducible assumption))))))))) : @Ne Nat _ _) | exact Ne.symm ((And.left (And.right (And.left (And.right (And.right (And.right (And.right (And.right (by with_reducible assumption))))))))) : @Ne Nat _ _) | exact ((And.right (And.right (And.left (And.right (And.right (And.right (And.right (And.right (by with_reducible assumption))))))))) : @Ne Nat _ _) | exact Ne.symm ((And.right (And.right (And.left (And.right (And.right (And.right (And.right (And.right (by with_reducible assumption))))))))) : @Ne Nat _ _) | exact ((And.left (And.left (And.right (And.right (And.right (And.right (And.right (And.right (by with_reducible assumption))))))))) : @Ne Nat _ _) | exact Ne.symm ((And.left (And.left (And.right (And.right (And.right (And.right (And.right (And.right (by with_reducible assumption))))))))) : @Ne Nat _ _) | exact ((And.left (And.right (And.left (And.right (And.right (And.right (And.right (And.right (And.right (by with_reducible assumption)))))))))) : @Ne Nat _ _) | exact Ne.symm ((And.left (And.right (And.left (And.right (And.right (And.right (And.right (And.right (And.right (by with_reducible assumption)))))))))) : @Ne Nat _ _) | exact ((And.right (And.right (And.left (And.right (And.right (And.right (And.right (And.right (And.right (by with_reducible assumption)))))))))) : @Ne Nat _ _) | exact Ne.symm ((And.right (And.right (And.left (And.right (And.right (And.right (And.right (And.right (And.right (by with_reducible assumption)))))))))) : @Ne Nat _ _) | omega)
  k_with "ktr_room" => ((try simp only [depth_under_make, depth_under_kw, depth_in1, depth_deeper, depth_caller]); (try dsimp only [ktrTop]); first | exact Nat.lt_of_le_of_lt (Nat.le_add_right _ _) (by with_reducible assumption) | exact roomStep (by with_reducible assumption) (by first | exact Nat.le_refl _ | decide | exact r2 _ | omega) | fail "room")
  k_with "ktr_units" => ((try simp only [units_in1, units_deeper, Around.mark_units, units_caller]); (try dsimp only [ktrTop]); first | exact unitStep (by with_reducible assumption) (by first | exact Nat.le_refl _ | decide | exact u20 _ | exact u40 _ | omega) | fail "units")
  k_with "k_mem" => first | exact tail_mem (by assumption) (by k_mem) | fail "k_mem"
  k_with "k_mem" => assumption
  k_with "k_mem" => first | exact List.mem_cons_of_mem _ (by assumption) | fail "k_mem"
  k_with "size_fits" => (simp only [List.size_toArray, Array.size_push, List.length_append, List.length_cons, List.length_nil, PySem.sizeLine_eq] <;> omega)
  k_with "exec If" => (k_here; k_fold)
  k_with "exec Assign" => (k_here; k_fold)
  k_with "exec Expr" => (k_here; k_fold)
  k_with "exec Return some" => (k_here; k_fold)
  k_with "execs cons" => (k_here; first | k_fold | ((with_reducible refine execsG ?_); intro t9; (try dsimp only)))
  k_with "execs nil" => (k_here; (with_reducible refine wpAny_execs_nil ?_); (try dsimp only))
  k_with "ite" => (k_here; first | (refine ite_pos (by first | omega | (simp only [beq_iff_eq, bne_iff_ne, decide_eq_true_eq]; omega)) ?_) | (refine ite_neg (by first | omega | (simp only [beq_iff_eq, bne_iff_ne, decide_eq_true_eq]; omega)) ?_))
  k_with "exec For Tuple Subscript cons nil" => k_extra "exec For Tuple"
  k_with "subscriptTail" => (k_here; (with_reducible show wpAny _ _ (subscriptTail _ _ (Value.ref _) (Value.int _ _)) _ _ _); (with_unfolding_all refine' litItem ?N ?m ?a ?b ?c ?_ ?d; (case N => k_asm); (case m => k_mem); (case a => decide); (case b => decide); (case c => rfl); (case d => with_unfolding_all rfl); k_whole))
  k_with "call builtin:list.index" => (k_here; (with_reducible show wpAny _ _ (call (Value.builtin _) [Value.ref _, Value.str _ _]) _ _ _); k_dflt (refine' kindIndex ?k0 ?N ?m ?_; (case k0 => with_reducible assumption); (case N => k_asm); (case m => k_mem)); dsimp only [Wh.ixI])
  k_with "exec If" => (k_here; k_dflt (first | ((with_reducible refine' ifT ?xe9 ?xb9 ?_); (case xe9 => kaf_pre); (case xb9 => decide); k_whole) | ((with_reducible refine' ifF ?xe9 ?xb9 ?_); (case xe9 => kaf_pre); (case xb9 => decide); k_whole)))
  k_with "isTrue Compare" => (k_here; k_dflt (first | ((with_reducible refine' isT ?xe9 ?xb9 ?_); (case xe9 => kaf_pre); (case xb9 => decide); k_whole) | ((with_reducible refine' isF ?xe9 ?xb9 ?_); (case xe9 => kaf_pre); (case xb9 => decide); k_whole) | ((with_reducible refine' isI ?xe9 ?_); (case xe9 => kaf_pre); k_whole) | ((with_reducible refine' isIl ?xe9 ?_); (case xe9 => kaf_pre); k_whole) | ((with_reducible refine' isIg ?xe9 ?_); (case xe9 => kaf_pre); k_whole)))
  k_with "eval Subscript" => (k_here; k_dflt ((with_reducible refine' Ev.go ?xe9 ?_); (case xe9 => kaf_pre); k_whole))
  k_with "spliced" => (k_here; k_dflt ((with_reducible refine' EvL.go ?xe9 ?_); (case xe9 => kaf_suf); k_whole); (try dsimp only [List.nil_append, List.cons_append]))
  k_with "eval Call" => (k_here; (with_reducible show wpAny _ _ (eval (Expr.Call (Expr.Name _ _) (_ :: _) [] _) _) _ _ _); k_dflt (refine' evCall ?xF9 ?xX9 ?xT9 ?xe9 ?xk9 ?xl9 ?_ ?xs9 ?xa9 ?xb9 ?xc9; (case xF9 => k_asm); (case xX9 => k_asm); (case xT9 => k_asm); (case xa9 => rfl); (case xb9 => rfl); (case xc9 => rfl); (case xe9 => k_is); (case xk9 => k_is); (case xl9 => kaf_suf); (case xs9 => rfl); k_whole))
  k_with "call ref" => (k_here; (with_reducible show wpAny _ _ (call (Value.ref 91) [_, _, _]) _ _ _); k_dflt (refine' CtrX.use (hC _) ?k1 ?k2 ?k3 ?k4 ?k5 ?kK ?kd ?ku (fun r n h t _ _ p => (tri_bad p).elim) ?_; (case k4 => k_asm); (case k1 => k_asm); (case k2 => k_asm); (case k3 => k_asm); (case k5 => k_asm); (case kK => first | exact rfl | assumption); (case kd => ktr_room); (case ku => ktr_units)); intro _ e9 g9 h9 tk9 FG9 U9 R9)
  k_with "noteFrame ref" => (k_here; k_dflt (refine' caughtO ?R ?F ?K ?U ?XB ?TB ?D ?T0 ?_; (case R => assumption); (case F => assumption); (case K => assumption); (case U => assumption); (case XB => assumption); (case TB => assumption); (case D => assumption); (case T0 => exact KtsTurn.refl)); intro h8 g8 T8 F8 N8 K8 X8 P8 D8)
  unfold CtrT
  intro dp un gd cn cs a ccd A₀ h₀ L m s Q E B F X N T hk hd hu hret
  refine wpAny_call ?_
  k_dflt (refine' code_defS0 ?k1 ?k2 ?k3 ?k4 ?k5 ?kA ?k6 ?k7 ?k8 ?k9 ?kB ?_ ?cK ?c2 ?c3 ?c4 ?c5; (case kA => exact rfl); (case k2 => k_asm); (case k1 => k_asm); (case k3 => k_asm); (case k4 => k_asm); (case k5 => k_asm); (case k6 => k_is); (case k7 => k_is); (case k8 => ktr_room); (case k9 => exact BindsTo.of_eq rfl); (case kB => exact locs rfl); (case cK => exact hk); (case c2 => exact rfl); (case c3 => exact rfl); (case c4 => exact rfl); (case c5 => decide); k_whole; intro g' L' h' FG' F' N' B' X' T' D'; (try dsimp only); (try k_fold))
  k_steps
  exact hret _ _ _ _ (by assumption) (by assumption) ⟨rfl, rfl⟩
/-- the key is of a kind and a number -/
structure Match (kd : Wh) (num : Int) (k : Key) : Prop where
  ne : kd ≠ .any
  sw : ∀ a b c d, swT k a b c d = match kd with | .var => a | .con => b | .lst => c | _ => d
  con : kd = .con → fitT k false ∧ (hitT k false 3 = decide ((3 : Int) = num)) ∧ (hitT k false 5 = decide ((5 : Int) = num))
  str : kd = .str → fitT k true ∧ (hitT k true 3 = decide ((3 : Int) = num)) ∧ (hitT k true 5 = decide ((5 : Int) = num))
theorem Match.var (num : Int) : Match .var num .var := ⟨by simp, fun _ _ _ _ => rfl, by simp, by simp⟩
theorem Match.lst (num : Int) : Match .lst num .lst := ⟨by simp, fun _ _ _ _ => rfl, by simp, by simp⟩
theorem Match.con4 (num : Int) : Match .con num (.con 4 num) := ⟨by simp, fun _ _ _ _ => rfl, fun _ => ⟨trivial, by simp [hitT], by simp [hitT]⟩, by simp⟩
theorem Match.con5 : Match .con (-1) (.con 5 3) := ⟨by simp, fun _ _ _ _ => rfl, fun _ => ⟨trivial, by decide, by decide⟩, by simp⟩
theorem Match.str0 (num : Int) : Match .str num (.str num) := ⟨by simp, fun _ _ _ _ => rfl, by simp, fun _ => ⟨trivial, by simp [hitT], by simp [hitT]⟩⟩
/-- the label of a part, told by what waits -/
def OwnL (L : List (Int × T)) (z : T) (l : Int) : Prop :=
  match z with
  | .cl n => l = n
  | .fail => l = -1
  | z => (l, z) ∈ L
theorem OwnL.inn {L : List (Int × T)} {z : T} {l : Int} (h : OwnL L z l) (hz : 0 < z.inn) : (l, z) ∈ L := by
  cases z <;> first | exact h | exact absurd hz (Nat.lt_irrefl 0)
theorem OwnL.mono {L L' : List (Int × T)} {z : T} {l : Int} (h : OwnL L z l) (hs : ∀ p ∈ L, p ∈ L') : OwnL L' z l := by
  cases z <;> first | exact h | exact hs _ h
theorem labT_own (x : T) (ls : List (Int × T)) (n : Int) : OwnL (labT x ls n).2.1 x (labT x ls n).1 := by
  cases x <;> simp [labT, OwnL]
theorem labT_sub (x : T) (ls : List (Int × T)) (n : Int) : ∀ p ∈ ls, p ∈ (labT x ls n).2.1 := fun p hp => by rw [labT_ls]; exact List.mem_append_left _ hp
/-- the rows of a part, at a place -/
def RowsO (B : List Ins) (L : List (Int × T)) (z : T) (p : Nat) : Prop :=
  match z with
  | .ch2 a b => ∃ l1 l2, B[p]? = some (.try_ l1) ∧ B[p + 1]? = some (.trust l2) ∧ OwnL L a l1 ∧ OwnL L b l2
  | .ch3 a b c => ∃ l1 l2 l3, B[p]? = some (.try_ l1) ∧ B[p + 1]? = some (.retry l2) ∧ B[p + 2]? = some (.trust l3) ∧ OwnL L a l1 ∧ OwnL L b l2 ∧ OwnL L c l3
  | .sw a b c d => ∃ l1 l2 l3 l4, B[p]? = some (.sw l1 l2 l3 l4) ∧ OwnL L a l1 ∧ OwnL L b l2 ∧ OwnL L c l3 ∧ OwnL L d l4
  | .tb0 s d => ∃ l1, B[p]? = some (.tb0 s l1) ∧ OwnL L d l1
  | .tb1 s a d => ∃ l1 l2, B[p]? = some (.tb1 s l1 l2) ∧ OwnL L a l1 ∧ OwnL L d l2
  | .tb2 s a b d => ∃ l1 l2 l3, B[p]? = some (.tb2 s l1 l2 l3) ∧ OwnL L a l1 ∧ OwnL L b l2 ∧ OwnL L d l3
  | _ => True
theorem RowsO.mono {B B' : List Ins} {L L' : List (Int × T)} {z : T} {p : Nat} (h : RowsO B L z p) (hB : ∀ (i : Nat) v, B[i]? = some v → B'[i]? = some v) (hL : ∀ p ∈ L, p ∈ L') : RowsO B' L' z p := by
  cases z with
  | cl => trivial
  | fail => trivial
  | ch2 => obtain ⟨l1, l2, a1, a2, b1, b2⟩ := h; exact ⟨l1, l2, hB _ _ a1, hB _ _ a2, b1.mono hL, b2.mono hL⟩
  | ch3 => obtain ⟨l1, l2, l3, a1, a2, a3, b1, b2, b3⟩ := h; exact ⟨l1, l2, l3, hB _ _ a1, hB _ _ a2, hB _ _ a3, b1.mono hL, b2.mono hL, b3.mono hL⟩
  | sw => obtain ⟨l1, l2, l3, l4, a1, b1, b2, b3, b4⟩ := h; exact ⟨l1, l2, l3, l4, hB _ _ a1, b1.mono hL, b2.mono hL, b3.mono hL, b4.mono hL⟩
  | tb0 => obtain ⟨l1, a1, b1⟩ := h; exact ⟨l1, hB _ _ a1, b1.mono hL⟩
  | tb1 => obtain ⟨l1, l2, a1, b1, b2⟩ := h; exact ⟨l1, l2, hB _ _ a1, b1.mono hL, b2.mono hL⟩
  | tb2 => obtain ⟨l1, l2, l3, a1, b1, b2, b3⟩ := h; exact ⟨l1, l2, l3, hB _ _ a1, b1.mono hL, b2.mono hL, b3.mono hL⟩
theorem rowsT_at (y : T) (ls : List (Int × T)) (n : Int) (is : List Ins) : RowsO (is ++ (rowsT y ls n).1) (rowsT y ls n).2.1 y is.length := by
  have g : ∀ (r : List Ins) (j : Nat) (v : Ins), r[j]? = some v → (is ++ r)[is.length + j]? = some v := fun r j v h => by
    rw [List.getElem?_append_right (Nat.le_add_right _ _), Nat.add_sub_cancel_left]; exact h
  cases y with
  | cl => trivial
  | fail => trivial
  | ch2 a b =>
    exact ⟨_, _, g _ 0 _ rfl, g _ 1 _ rfl, (labT_own a _ _).mono (labT_sub b _ _), labT_own b _ _⟩
  | ch3 a b c =>
    exact ⟨_, _, _, g _ 0 _ rfl, g _ 1 _ rfl, g _ 2 _ rfl, ((labT_own a _ _).mono (labT_sub b _ _)).mono (labT_sub c _ _), (labT_own b _ _).mono (labT_sub c _ _), labT_own c _ _⟩
  | sw a b c d =>
    exact ⟨_, _, _, _, g _ 0 _ rfl, (((labT_own a _ _).mono (labT_sub b _ _)).mono (labT_sub c _ _)).mono (labT_sub d _ _), ((labT_own b _ _).mono (labT_sub c _ _)).mono (labT_sub d _ _), (labT_own c _ _).mono (labT_sub d _ _), labT_own d _ _⟩
  | tb0 s d => exact ⟨_, g _ 0 _ rfl, labT_own d _ _⟩
  | tb1 s a d => exact ⟨_, _, g _ 0 _ rfl, (labT_own a _ _).mono (labT_sub d _ _), labT_own d _ _⟩
  | tb2 s a b d => exact ⟨_, _, _, g _ 0 _ rfl, ((labT_own a _ _).mono (labT_sub b _ _)).mono (labT_sub d _ _), (labT_own b _ _).mono (labT_sub d _ _), labT_own d _ _⟩
theorem rowsT_nolab (y : T) (ls : List (Int × T)) (n : Int) : ∀ k, Ins.lab k ∉ (rowsT y ls n).1 := by
  intro k
  cases y <;> simp [rowsT]
/-- the keys of what waits: 10, 11, .. -/
def KeysOk (ls : List (Int × T)) (n : Int) : Prop := n = 9 + (ls.length : Int) ∧ ∀ (i : Nat) k y, ls[i]? = some (k, y) → k = 10 + (i : Int)
theorem keys_snoc {ls : List (Int × T)} {n : Int} {z : T} (h : KeysOk ls n) : KeysOk (ls ++ [(n + 1, z)]) (n + 1) := by
  refine ⟨by simp only [List.length_append, List.length_cons, List.length_nil]; have := h.1; omega, fun i k y e => ?_⟩
  by_cases hi : i < ls.length
  · rw [List.getElem?_append_left hi] at e
    exact h.2 i k y e
  · rw [List.getElem?_append_right (by omega)] at e
    have hj : i - ls.length = 0 := by
      cases q : i - ls.length with
      | zero => rfl
      | succ j => rw [q] at e; simp at e
    rw [hj] at e
    simp only [List.getElem?_cons_zero, Option.some.injEq, Prod.mk.injEq] at e
    have := h.1
    omega
theorem keys_lab {ls : List (Int × T)} {n : Int} (x : T) (h : KeysOk ls n) : KeysOk (labT x ls n).2.1 (labT x ls n).2.2 := by
  cases x with
  | cl => exact h
  | fail => exact h
  | _ => exact keys_snoc h
theorem keys_rows {ls : List (Int × T)} {n : Int} (x : T) (h : KeysOk ls n) : KeysOk (rowsT x ls n).2.1 (rowsT x ls n).2.2 := by
  cases x with
  | cl => exact h
  | fail => exact h
  | ch2 a b => exact keys_lab b (keys_lab a h)
  | ch3 a b c => exact keys_lab c (keys_lab b (keys_lab a h))
  | sw a b c d => exact keys_lab d (keys_lab c (keys_lab b (keys_lab a h)))
  | tb0 s d => exact keys_lab d h
  | tb1 s a d => exact keys_lab d (keys_lab a h)
  | tb2 s a b d => exact keys_lab d (keys_lab b (keys_lab a h))
/-- a block under way -/
structure Way (x : T) (d : Nat) (is : List Ins) (ls : List (Int × T)) (n : Int) : Prop where
  root : RowsO is ls x 0
  seen : ∀ (i : Nat) k y, i < d → ls[i]? = some (k, y) → ∃ p, is[p]? = some (.lab k) ∧ RowsO is ls y (p + 1)
  keys : KeysOk ls n
  labs : ∀ (p : Nat) k, is[p]? = some (.lab k) → 10 ≤ k ∧ k < 10 + (d : Int)
  once : ∀ (p q : Nat) k, is[p]? = some (.lab k) → is[q]? = some (.lab k) → p = q
  inn : ∀ p ∈ ls, 0 < p.2.inn
  le : d ≤ ls.length
theorem get_app {α : Type} {a b : List α} : ∀ (i : Nat) (v : α), a[i]? = some v → (a ++ b)[i]? = some v := fun i v h => by
  obtain ⟨hi, _⟩ := List.getElem?_eq_some_iff.mp h
  rw [List.getElem?_append_left hi]; exact h
theorem Way.start {x : T} (hx : 0 < x.inn) : Way x 0 (rowsT x [] 9).1 (rowsT x [] 9).2.1 (rowsT x [] 9).2.2 := by
  obtain ⟨new, e, h1, _, _⟩ := rows_new x [] 9 hx
  have nl : ∀ (p : Nat) k, (rowsT x [] 9).1[p]? ≠ some (.lab k) := fun p k e => rowsT_nolab x [] 9 k (List.mem_of_getElem? e)
  exact ⟨rowsT_at x [] 9 [], fun i _ _ h => absurd h (Nat.not_lt_zero _), keys_rows x ⟨rfl, fun i k y h => by simp at h⟩, fun p k h => absurd h (nl p k), fun p _ k h => absurd h (nl p k), fun p hp => h1 p (by rw [show (rowsT x [] 9).2.1 = new from e] at hp; exact hp), Nat.zero_le _⟩
theorem Way.step {x y : T} {d : Nat} {is : List Ins} {ls : List (Int × T)} {n k : Int} (h : Way x d is ls n) (e : ls[d]? = some (k, y)) :
    Way x (d + 1) (is ++ (.lab k :: (rowsT y ls n).1)) (rowsT y ls n).2.1 (rowsT y ls n).2.2 := by
  obtain ⟨hd, e'⟩ := List.getElem?_eq_some_iff.mp e
  have hy : 0 < y.inn := by have := h.inn _ (List.getElem_mem hd); rwa [e'] at this
  obtain ⟨new, en, h1, _, _⟩ := rows_new y ls n hy
  have hL : ∀ p ∈ ls, p ∈ (rowsT y ls n).2.1 := fun p hp => by rw [en]; exact List.mem_append_left _ hp
  have hk := h.keys.2 d k y e
  have hlab : ∀ (p : Nat) j, (is ++ (.lab k :: (rowsT y ls n).1))[p]? = some (.lab j) → is[p]? = some (.lab j) ∨ (p = is.length ∧ j = k) := fun p j hp => by
    by_cases hi : p < is.length
    · rw [List.getElem?_append_left hi] at hp; exact .inl hp
    · rw [List.getElem?_append_right (by omega)] at hp
      cases q : p - is.length with
      | zero =>
        rw [q] at hp
        simp only [List.getElem?_cons_zero, Option.some.injEq, Ins.lab.injEq] at hp
        exact .inr ⟨by omega, hp.symm⟩
      | succ j' =>
        rw [q, List.getElem?_cons_succ] at hp
        exact absurd (List.mem_of_getElem? hp) (rowsT_nolab y ls n j)
  refine ⟨h.root.mono get_app hL, ?_, keys_rows y h.keys, ?_, ?_, ?_, ?_⟩
  · intro i j z hi ez
    by_cases hid : i < d
    · rw [en, List.getElem?_append_left (by omega)] at ez
      obtain ⟨p, a1, a2⟩ := h.seen i j z hid ez
      exact ⟨p, get_app _ _ a1, a2.mono get_app hL⟩
    · have hid' : i = d := by omega
      subst hid'
      rw [en, List.getElem?_append_left (by omega), e] at ez
      simp only [Option.some.injEq, Prod.mk.injEq] at ez
      obtain ⟨rfl, rfl⟩ := ez
      refine ⟨is.length, by rw [List.getElem?_append_right (Nat.le_refl _), Nat.sub_self]; rfl, ?_⟩
      have := rowsT_at y ls n (is ++ [.lab k])
      rw [List.append_assoc, List.length_append] at this
      exact this
  · intro p j hp
    rcases hlab p j hp with a | ⟨_, rfl⟩
    · have := h.labs p j a; omega
    · omega
  · intro p q j hp hq
    rcases hlab p j hp with a | ⟨a1, rfl⟩
    · rcases hlab q j hq with b | ⟨b1, b2⟩
      · exact h.once p q j a b
      · have := h.labs p j a; omega
    · rcases hlab q j hq with b | ⟨b1, b2⟩
      · have := h.labs q j b; omega
      · omega
  · intro p hp
    rw [en] at hp
    rcases List.mem_append.mp hp with hp | hp
    · exact h.inn p hp
    · exact h1 p hp
  · rw [en, List.length_append]; omega
theorem way_end {x : T} : ∀ (f d : Nat) (is : List Ins) (ls : List (Int × T)) (n : Int), Way x d is ls n → f = wt (ls.drop d) → ∃ ls' n', Way x ls'.length (blkT f d is ls n) ls' n' := by
  intro f
  induction f with
  | zero =>
    intro d is ls n h hf
    have h1 := wt_len (l := ls.drop d) fun p hp => h.inn p (List.mem_of_mem_drop hp)
    rw [List.length_drop] at h1
    have h2 := h.le
    have e : d = ls.length := by omega
    exact ⟨ls, n, by subst e; exact h⟩
  | succ f ih =>
    intro d is ls n h hf
    have hd : d < ls.length := by
      rcases Nat.lt_or_ge d ls.length with hd | hd
      · exact hd
      · rw [List.drop_eq_nil_of_le hd] at hf; simp [wt] at hf
    have e : ls[d]? = some (ls[d].1, ls[d].2) := List.getElem?_eq_getElem hd
    have hy := h.inn _ (List.getElem_mem hd)
    obtain ⟨new, en, _, h2, _⟩ := rows_new ls[d].2 ls n hy
    simp only [blkT, e]
    refine ih _ _ _ _ (h.step e) ?_
    rw [drop_wt e] at hf
    rw [en, List.drop_append_of_le_length (by omega), wt_append]
    omega
theorem body_way {x : T} (hx : 0 < x.inn) : ∃ L n, Way x L.length (bodyT x) L n := way_end _ _ _ _ _ (Way.start hx) (by rw [List.drop_zero])
/-- where a label that stands once is -/
theorem look_put (c : List (Int × Int)) (k v j : Int) : kdfLook (kdfPut c k v) j 0 = if j = k then v else kdfLook c j 0 := by
  unfold kdfLook kdfPut
  by_cases hc : (c.any fun p => decide (p.1 = k)) = true
  · rw [if_pos hc]
    induction c with
    | nil => simp at hc
    | cons p r ih =>
      by_cases hp : p.1 = k
      · by_cases hj : j = k
        · subst hj; simp [hp]
        · have hj' : ¬ k = j := fun e => hj e.symm
          simp only [List.map_cons, hp, decide_true, if_true, List.find?_cons, hj', decide_false, if_neg hj]
          by_cases hr : (r.any fun p => decide (p.1 = k)) = true
          · have := ih hr; rw [if_neg hj] at this; exact this
          · have hm : (r.map fun p => if decide (p.1 = k) = true then (p.1, v) else p) = r := by
              have hn : ∀ q ∈ r, ¬ q.1 = k := fun q hq e => hr (List.any_eq_true.mpr ⟨q, hq, by simp [e]⟩)
              clear ih hc hr
              induction r with
              | nil => rfl
              | cons q r ih => rw [List.map_cons, if_neg (by simpa using hn q (.head _)), ih fun z hz => hn z (.tail _ hz)]
            rw [hm]
      · have hr : (r.any fun p => decide (p.1 = k)) = true := by simpa [hp] using hc
        have := ih hr
        simp only [List.map_cons, hp, decide_false, Bool.false_eq_true, if_false, List.find?_cons]
        by_cases hj : p.1 = j
        · have hjk : ¬ j = k := fun e => hp (by omega)
          simp [hj, hjk]
        · simp only [hj, decide_false]; exact this
  · rw [if_neg hc]
    have hn : ∀ q ∈ c, ¬ q.1 = k := fun q hq e => hc (List.any_eq_true.mpr ⟨q, hq, by simp [e]⟩)
    rw [List.find?_append]
    by_cases hj : j = k
    · subst hj
      have : (c.find? fun p => decide (p.1 = j)) = none := List.find?_eq_none.mpr fun q hq => by simpa using hn q hq
      simp [this]
    · have hj' : ¬ k = j := fun e => hj e.symm
      simp [hj, hj']
theorem places_get (is : List Ins) : ∀ (j : Int) (p : Nat), is[p]? = some (.lab j) → (∀ q, is[q]? = some (.lab j) → q = p) → kdfHas (placesT is) j = true ∧ kdfLook (placesT is) j 0 = (p : Int) := by
  suffices h : ∀ m, m ≤ is.length → ∀ (j : Int) (p : Nat), p < m → is[p]? = some (.lab j) → (∀ q, is[q]? = some (.lab j) → q = p) → kdfHas (placesT (is.take m)) j = true ∧ kdfLook (placesT (is.take m)) j 0 = (p : Int) by
    intro j p hp hu
    have hlt := (List.getElem?_eq_some_iff.mp hp).1
    have := h is.length (Nat.le_refl _) j p hlt hp hu
    rwa [List.take_length] at this
  intro m
  induction m with
  | zero => intro _ j p hp; exact absurd hp (Nat.not_lt_zero _)
  | succ m ih =>
    intro hm j p hp hj hu
    have e : is[m]? = some is[m] := List.getElem?_eq_getElem (by omega)
    rw [placesT_take e]
    by_cases hpm : p = m
    · subst hpm
      have e2 : is[p] = .lab j := Option.some.inj (e.symm.trans hj)
      rw [e2]
      refine ⟨?_, ?_⟩
      · show kdfHas (kdfPut _ j _) j = true
        rw [kdyHas_put]; simp
      · show kdfLook (kdfPut _ j _) j 0 = _
        rw [look_put, if_pos rfl]
    · obtain ⟨h1, h2⟩ := ih (by omega) j p (by omega) hj hu
      cases hi : is[m] with
      | lab i =>
        have hij : j ≠ i := fun q => hpm (hu m (by rw [e, hi, q])).symm
        refine ⟨?_, ?_⟩
        · show kdfHas (kdfPut _ i _) j = true
          rw [kdyHas_put, h1]; simp
        · show kdfLook (kdfPut _ i _) j 0 = _
          rw [look_put, if_neg hij]; exact h2
      | _ => exact ⟨h1, h2⟩
/-- a whole block: its parts and its clauses can be gone to -/
structure Good (B : List Ins) (L : List (Int × T)) (W : List (Int × Int)) : Prop where
  part : ∀ l z, (l, z) ∈ L → ∃ p : Nat, 5 ≤ l ∧ kdfHas W l = true ∧ kdfLook W l 0 = (p : Int) ∧ B[p]? = some (.lab l) ∧ RowsO B L z (p + 1)
  clause : ∀ n : Int, 0 ≤ n → n < 5 → ∃ p : Nat, kdfHas W n = true ∧ kdfLook W n 0 = (p : Int) ∧ B[p]? = some (.lab n)
theorem tail_lab : ∀ (i : Nat) (k : Int), tailI[i]? = some (.lab k) → (i : Int) = 2 * k ∧ 0 ≤ k ∧ k < 5 := by
  intro i k h
  have all : ∀ j : Fin 11, (match tailI[j.1]? with | some (.lab k) => decide ((j.1 : Int) = 2 * k ∧ 0 ≤ k ∧ k < 5) | _ => true) = true := by decide
  by_cases hi : i < 11
  · have q := all ⟨i, hi⟩
    simp only [h] at q
    exact of_decide_eq_true q
  · rw [List.getElem?_eq_none (Nat.le_trans (by decide) (Nat.le_of_not_lt hi))] at h
    cases h
theorem tail_get (k : Int) (h0 : 0 ≤ k) (h5 : k < 5) : tailI[(2 * k).toNat]? = some (.lab k) := by
  obtain rfl | rfl | rfl | rfl | rfl : k = 0 ∨ k = 1 ∨ k = 2 ∨ k = 3 ∨ k = 4 := by omega
  all_goals rfl
theorem block_good {x : T} (hx : 0 < x.inn) : ∃ L, Good (blockT x) L (placesT (blockT x)) ∧ RowsO (blockT x) L x 0 := by
  obtain ⟨L, n, h⟩ := body_way hx
  have hs : ∀ (p : Nat) k, (blockT x)[p]? = some (.lab k) → (bodyT x)[p]? = some (.lab k) ∨ (0 ≤ k ∧ k < 5 ∧ (p : Int) = (bodyT x).length + 2 * k) := fun p k hp => by
    by_cases hi : p < (bodyT x).length
    · rw [blockT, List.getElem?_append_left hi] at hp; exact .inl hp
    · rw [blockT, List.getElem?_append_right (by omega)] at hp
      have := tail_lab _ _ hp
      exact .inr ⟨this.2.1, this.2.2, by omega⟩
  refine ⟨L, ⟨?_, ?_⟩, h.root.mono get_app fun _ h => h⟩
  · intro l z hz
    obtain ⟨i, hi⟩ := List.mem_iff_getElem?.mp hz
    obtain ⟨p, a1, a2⟩ := h.seen i l z (List.getElem?_eq_some_iff.mp hi).1 hi
    have hk := h.labs p l a1
    obtain ⟨b1, b2⟩ := places_get (blockT x) l p (get_app _ _ a1) fun q hq => by
      rcases hs q l hq with c | ⟨_, c, _⟩
      · exact h.once q p l c a1
      · omega
    exact ⟨p, by omega, b1, b2, get_app _ _ a1, a2.mono get_app fun _ h => h⟩
  · intro k h0 h5
    have hg : (blockT x)[(bodyT x).length + (2 * k).toNat]? = some (.lab k) := by
      rw [blockT, List.getElem?_append_right (Nat.le_add_right _ _), Nat.add_sub_cancel_left]; exact tail_get k h0 h5
    obtain ⟨b1, b2⟩ := places_get (blockT x) k _ hg fun q hq => by
      rcases hs q k hq with c | ⟨_, _, c⟩
      · have := h.labs q k c; omega
      · omega
    exact ⟨_, b1, b2, hg⟩
/-- the run comes from one state to another -/
def Adv (B : List Ins) (k : Key) (W : List (Int × Int)) (n : Nat) (st f st' f' : List Int) : Prop := ∀ m o, Run B 5 k W m st' f' o → Run B 5 k W (m + n) st f o
section
variable {B : List Ins} {k : Key} {W : List (Int × Int)} {kd : Wh} {num : Int}
theorem Adv.nil {st f : List Int} : Adv B k W 0 st f st f := fun _ _ h => h
theorem Adv.trans {n1 n2 : Nat} {s1 f1 s2 f2 s3 f3 : List Int} (h : Adv B k W n1 s1 f1 s2 f2) (h' : Adv B k W n2 s2 f2 s3 f3) : Adv B k W (n2 + n1) s1 f1 s3 f3 := fun m o r => by
  have := h _ o (h' m o r)
  rwa [Nat.add_assoc] at this
theorem Adv.one {p : Nat} {i : Ins} {st f : List Int} {a : Option Int} {b : Bool} {t : Int} (hi : B[p]? = some i) (hf : fitI k i) (hs : stepI 5 k i = some (a, b, t)) (ht : t ≠ -1 → kdfHas W t = true) :
    Adv B k W 1 (st ++ [(p : Int)]) f (st ++ (if b then [(p : Int) + 1] else []) ++ (if t = -1 then [] else [kdfLook W t 0])) (f ++ a.toList) := fun m o r => .step hi hf hs ht r
/-- to come to a part by its label -/
def Ent (B : List Ins) (k : Key) (W : List (Int × Int)) (kd : Wh) (num : Int) (z : T) (l : Int) : Prop :=
  (l ≠ -1 → kdfHas W l = true) ∧ ∃ n, n ≤ 4 * z.cnt ∧ ∀ st f, Adv B k W n (st ++ (if l = -1 then [] else [kdfLook W l 0])) f st (f ++ readT kd num z)
def Ro (B : List Ins) (k : Key) (W : List (Int × Int)) (kd : Wh) (num : Int) (z : T) (p : Nat) : Prop :=
  ∃ n, n + 1 ≤ 4 * z.cnt ∧ ∀ st f, Adv B k W n (st ++ [(p : Int)]) f st (f ++ readT kd num z)
theorem ent_cl {L : List (Int × T)} (G : Good B L W) {n : Int} (h0 : 0 ≤ n) (h5 : n < 5) : Ent B k W kd num (.cl n) n := by
  obtain ⟨p, a1, a2, a3⟩ := G.clause n h0 h5
  refine ⟨fun _ => a1, 1, by simp [T.cnt], fun st f => ?_⟩
  rw [if_neg (by omega), a2]
  have := Adv.one (B := B) (k := k) (W := W) (st := st) (f := f) (a := some n) (b := false) (t := -1) a3 trivial (by simp [stepI, h5]) (fun h => absurd rfl h)
  simpa [readT] using this
theorem ent_fail : Ent B k W kd num .fail (-1) := ⟨fun h => absurd rfl h, 0, Nat.zero_le _, fun st f => by simp [readT, Adv.nil]⟩
theorem ent_in {L : List (Int × T)} (G : Good B L W) {z : T} {l : Int} (hz : (l, z) ∈ L) (ih : ∀ p, RowsO B L z p → Ro B k W kd num z p) : Ent B k W kd num z l := by
  obtain ⟨p, h5, a1, a2, a3, a4⟩ := G.part l z hz
  obtain ⟨n, hn, h⟩ := ih _ a4
  refine ⟨fun _ => a1, n + 1, hn, fun st f => ?_⟩
  rw [if_neg (by omega), a2]
  have h1 := Adv.one (B := B) (k := k) (W := W) (st := st) (f := f) (a := none) (b := true) (t := -1) a3 trivial (by simp only [stepI]; rw [if_neg (by omega)]) (fun h => absurd rfl h)
  simp only [if_true, List.append_nil, Option.toList_none] at h1
  exact h1.trans (h st f)
theorem wf_cl {d : Nat} {w : Wh} {n : Int} (h : Wf d w (.cl n)) : 0 ≤ n ∧ n < 5 := by
  cases d <;> exact ⟨h.1, h.2.1⟩
theorem ent {L : List (Int × T)} (G : Good B L W) {z : T} {l : Int} {d : Nat} {w : Wh} (hw : Wf d w z) (h : OwnL L z l) (ih : 0 < z.inn → ∀ p, RowsO B L z p → Ro B k W kd num z p) : Ent B k W kd num z l := by
  cases z with
  | cl n => obtain rfl : l = n := h; exact ent_cl G (wf_cl hw).1 (wf_cl hw).2
  | fail => obtain rfl : l = -1 := h; exact ent_fail
  | _ => exact ent_in G h (ih (by simp [T.inn]))
/-- a row with a target and nothing behind it -/
theorem ro_one {z y : T} {p : Nat} {i : Ins} {l : Int} (hi : B[p]? = some i) (hf : fitI k i) (hs : stepI 5 k i = some (none, false, l)) (he : Ent B k W kd num y l) (hc : y.cnt + 1 ≤ z.cnt) (hr : readT kd num z = readT kd num y) : Ro B k W kd num z p := by
  obtain ⟨e1, n, hn, h⟩ := he
  refine ⟨n + 1, by omega, fun st f => ?_⟩
  have h1 := Adv.one (B := B) (k := k) (W := W) (st := st) (f := f) hi hf hs e1
  simp only [Bool.false_eq_true, if_false, List.append_nil, Option.toList_none] at h1
  rw [hr]
  exact h1.trans (h st f)
theorem Adv.more {p : Nat} {i : Ins} {y : T} {l : Int} (hi : B[p]? = some i) (hf : fitI k i) (hs : stepI 5 k i = some (none, true, l)) (he : Ent B k W kd num y l) :
    ∃ n, n ≤ 4 * y.cnt + 1 ∧ ∀ st f, Adv B k W n (st ++ [(p : Int)]) f (st ++ [((p + 1 : Nat) : Int)]) (f ++ readT kd num y) := by
  obtain ⟨e1, n, hn, h⟩ := he
  refine ⟨n + 1, by omega, fun st f => ?_⟩
  have h1 := Adv.one (B := B) (k := k) (W := W) (st := st) (f := f) hi hf hs e1
  simp only [if_true, Option.toList_none, List.append_nil] at h1
  exact h1.trans (h _ f)
theorem Adv.last {p : Nat} {i : Ins} {y : T} {l : Int} (hi : B[p]? = some i) (hf : fitI k i) (hs : stepI 5 k i = some (none, false, l)) (he : Ent B k W kd num y l) :
    ∃ n, n ≤ 4 * y.cnt + 1 ∧ ∀ st f, Adv B k W n (st ++ [(p : Int)]) f st (f ++ readT kd num y) := by
  obtain ⟨e1, n, hn, h⟩ := he
  refine ⟨n + 1, by omega, fun st f => ?_⟩
  have h1 := Adv.one (B := B) (k := k) (W := W) (st := st) (f := f) hi hf hs e1
  simp only [Bool.false_eq_true, if_false, List.append_nil, Option.toList_none] at h1
  exact h1.trans (h _ f)
theorem ro_all {L : List (Int × T)} (G : Good B L W) (M : Match kd num k) (z : T) : ∀ (d : Nat) (w : Wh) (p : Nat), 0 < z.inn → Wf d w z → (w = .any ∨ w = kd) → RowsO B L z p → Ro B k W kd num z p := by
  have E : ∀ {z : T}, (∀ (d : Nat) (w : Wh) (p : Nat), 0 < z.inn → Wf d w z → (w = .any ∨ w = kd) → RowsO B L z p → Ro B k W kd num z p) → ∀ {d : Nat} {w : Wh} {l : Int}, Wf d w z → (w = .any ∨ w = kd) → OwnL L z l → Ent B k W kd num z l :=
    fun ih _ _ _ hw hk ho => ent G hw ho fun hi p hr => ih _ _ p hi hw hk hr
  induction z with
  | cl n => intro d w p h; exact absurd h (Nat.lt_irrefl 0)
  | fail => intro d w p h; exact absurd h (Nat.lt_irrefl 0)
  | ch2 a b ia ib =>
    intro d w p _ hw hk h
    cases d with
    | zero => exact hw.elim
    | succ d =>
      obtain ⟨l1, l2, a1, a2, b1, b2⟩ := h
      obtain ⟨n1, c1, h1⟩ := Adv.more (kd := kd) (num := num) a1 trivial rfl (E ia hw.1 hk b1)
      obtain ⟨n2, c2, h2⟩ := Adv.last (kd := kd) (num := num) a2 trivial rfl (E ib hw.2 hk b2)
      refine ⟨n2 + n1, by simp only [T.cnt]; omega, fun st f => ?_⟩
      have := (h1 st f).trans (h2 st _)
      rwa [List.append_assoc] at this
  | ch3 a b c ia ib ic =>
    intro d w p _ hw hk h
    cases d with
    | zero => exact hw.elim
    | succ d =>
      obtain ⟨l1, l2, l3, a1, a2, a3, b1, b2, b3⟩ := h
      obtain ⟨n1, c1, h1⟩ := Adv.more (kd := kd) (num := num) a1 trivial rfl (E ia hw.1 hk b1)
      obtain ⟨n2, c2, h2⟩ := Adv.more (kd := kd) (num := num) a2 trivial rfl (E ib hw.2.1 hk b2)
      obtain ⟨n3, c3, h3⟩ := Adv.last (kd := kd) (num := num) a3 trivial rfl (E ic hw.2.2 hk b3)
      refine ⟨n3 + (n2 + n1), by simp only [T.cnt]; omega, fun st f => ?_⟩
      have := ((h1 st f).trans (h2 st _)).trans (h3 st _)
      rwa [List.append_assoc, List.append_assoc, ← List.append_assoc (readT kd num a)] at this
  | sw a b c e ia ib ic ie =>
    intro d w p _ hw hk h
    cases d with
    | zero => exact hw.elim
    | succ d =>
      obtain ⟨l1, l2, l3, l4, a1, b1, b2, b3, b4⟩ := h
      have hs := M.sw l1 l2 l3 l4
      cases kd with
      | any => exact absurd rfl M.ne
      | var => exact ro_one (y := a) a1 trivial (by simp only [stepI, hs]) (E ia hw.2.1 (.inr rfl) b1) (Nat.succ_le_succ (addL _ (addL _ (addL _ (Nat.le_refl _))))) rfl
      | con => exact ro_one (y := b) a1 trivial (by simp only [stepI, hs]) (E ib hw.2.2.1 (.inr rfl) b2) (Nat.succ_le_succ (addL _ (addL _ (addR _ (Nat.le_refl _))))) rfl
      | lst => exact ro_one (y := c) a1 trivial (by simp only [stepI, hs]) (E ic hw.2.2.2.1 (.inr rfl) b3) (Nat.succ_le_succ (addL _ (addR _ (Nat.le_refl _)))) rfl
      | str => exact ro_one (y := e) a1 trivial (by simp only [stepI, hs]) (E ie hw.2.2.2.2 (.inr rfl) b4) (Nat.succ_le_succ (addR _ (Nat.le_refl _))) rfl
  | tb0 s a ia =>
    intro d w p _ hw hk h
    cases d with
    | zero => exact hw.elim
    | succ d =>
      obtain ⟨l1, a1, b1⟩ := h
      have hF : fitT k s := by
        rcases hk with hk | hk <;> cases s <;> (have h1 := hw.1; simp only [cond_true, cond_false] at h1; subst h1) <;> first | (cases hk; done) | exact (M.con hk.symm).1 | exact (M.str hk.symm).1
      exact ro_one (y := a) a1 hF rfl (E ia hw.2 hk b1) (Nat.succ_le_succ (Nat.le_refl _)) rfl
  | tb1 s a b ia ib =>
    intro d w p _ hw hk h
    cases d with
    | zero => exact hw.elim
    | succ d =>
      obtain ⟨l1, l2, a1, b1, b2⟩ := h
      have hF : fitT k s ∧ hitT k s 3 = decide ((3 : Int) = num) := by
        rcases hk with hk | hk <;> cases s <;> (have h1 := hw.1; simp only [cond_true, cond_false] at h1; subst h1) <;> first | (cases hk; done) | exact ⟨(M.con hk.symm).1, (M.con hk.symm).2.1⟩ | exact ⟨(M.str hk.symm).1, (M.str hk.symm).2.1⟩
      by_cases h3 : (3 : Int) = num
      · exact ro_one (y := a) a1 hF.1 (by simp only [stepI, tab1T, hF.2, decide_eq_true h3, if_true]) (E ia hw.2.1 hk b1) (Nat.succ_le_succ (addL _ (Nat.le_refl _))) (by simp only [readT, if_pos h3])
      · exact ro_one (y := b) a1 hF.1 (by simp only [stepI, tab1T, hF.2, decide_eq_false h3, Bool.false_eq_true, if_false]) (E ib hw.2.2 hk b2) (Nat.succ_le_succ (addR _ (Nat.le_refl _))) (by simp only [readT, if_neg h3])
  | tb2 s a b c ia ib ic =>
    intro d w p _ hw hk h
    cases d with
    | zero => exact hw.elim
    | succ d =>
      obtain ⟨l1, l2, l3, a1, b1, b2, b3⟩ := h
      have hF : fitT k s ∧ hitT k s 3 = decide ((3 : Int) = num) ∧ hitT k s 5 = decide ((5 : Int) = num) := by
        rcases hk with hk | hk <;> cases s <;> (have h1 := hw.1; simp only [cond_true, cond_false] at h1; subst h1) <;> first | (cases hk; done) | exact M.con hk.symm | exact M.str hk.symm
      by_cases h3 : (3 : Int) = num
      · exact ro_one (y := a) a1 hF.1 (by simp only [stepI, tab2T, hF.2.1, decide_eq_true h3, if_true]) (E ia hw.2.1 hk b1) (Nat.succ_le_succ (addL _ (addL _ (Nat.le_refl _)))) (by simp only [readT, if_pos h3])
      · by_cases h5 : (5 : Int) = num
        · exact ro_one (y := b) a1 hF.1 (by simp only [stepI, tab2T, hF.2.1, hF.2.2, decide_eq_false h3, decide_eq_true h5, Bool.false_eq_true, if_false, if_true]) (E ib hw.2.2.1 hk b2) (Nat.succ_le_succ (addL _ (addR _ (Nat.le_refl _)))) (by simp only [readT, if_neg h3, if_pos h5])
        · exact ro_one (y := c) a1 hF.1 (by simp only [stepI, tab2T, hF.2.1, hF.2.2, decide_eq_false h3, decide_eq_false h5, Bool.false_eq_true, if_false]) (E ic hw.2.2.2 hk b3) (Nat.succ_le_succ (addR _ (Nat.le_refl _))) (by simp only [readT, if_neg h3, if_neg h5])
end
/-- the plain law -/
theorem plain {x : T} {k : Key} {kd : Wh} {num : Int} (hw : Wf 3 .any x) (hx : 0 < x.inn) (M : Match kd num k) : ∃ n, n ≤ 2000 ∧ Run (blockT x) 5 k (placesT (blockT x)) n [0] [] (.ok (readT kd num x)) := by
  obtain ⟨L, G, h⟩ := block_good hx
  obtain ⟨n, hn, h⟩ := ro_all G M x 3 .any 0 hx hw (.inl rfl) h
  have hc := wf_cnt hw
  have e : bd 3 = 85 := rfl
  refine ⟨n, by omega, ?_⟩
  have := h [] [] 0 (.ok (readT kd num x)) .done
  simpa using this
theorem plain_spoiled (B : List Ins) (k : Key) : Run (.pro :: B) 5 k (placesT (.pro :: B)) 1 [0] [] .bad := Run.bad (p := 0) (st := []) (i := .pro) (n := 1) rfl rfl
theorem plain_small (k : Key) : Run [.try_ 11, .trust 0, .lab 11, .cal 1, .lab 0] 5 k (placesT [.try_ 11, .trust 0, .lab 11, .cal 1, .lab 0]) 3 [0] [] .bad := by
  refine Run.step (p := 0) (st := []) (a := none) (b := true) (t := 11) rfl trivial rfl (fun _ => by decide) ?_
  refine Run.step (p := 2) (st := [1]) (a := none) (b := true) (t := -1) rfl trivial rfl (fun h => absurd rfl h) ?_
  exact Run.bad (p := 3) (st := [1]) (i := .cal 1) (n := 1) rfl rfl
theorem ht_le (x : T) : x.ht ≤ x.cnt := by
  induction x with
  | cl => exact Nat.zero_le _
  | fail => exact Nat.zero_le _
  | ch2 a b ia ib => exact Nat.succ_le_succ (mxs ia ib)
  | ch3 a b c ia ib ic => exact Nat.succ_le_succ (mxs (mxs ia ib) ic)
  | sw a b c d ia ib ic id => exact Nat.succ_le_succ (Nat.le_trans (mxs (mxs ia ib) (mxs ic id)) (Nat.le_of_eq (Nat.add_assoc _ _ _).symm))
  | tb0 _ d id => exact Nat.succ_le_succ id
  | tb1 _ a d ia id => exact Nat.succ_le_succ (mxs ia id)
  | tb2 _ a b d ia ib id => exact Nat.succ_le_succ (mxs (mxs ia ib) id)
theorem wf3 {x : T} (h : Wf 3 .any x) : 0 < x.inn := by
  cases x with
  | cl n => exact absurd h.2.2 (Nat.lt_irrefl 3)
  | fail => exact absurd h (Nat.lt_irrefl 3)
  | _ => simp [T.inn]
theorem wf3_inn {x : T} (h : Wf 3 .any x) : x.inn ≤ 85 := Nat.le_trans (inn_le_cnt x) (wf_cnt h)
theorem wf3_kind {R : Led} {v : Value} {x : T} (h : Wf 3 .any x) (hT : TIn R v x) : ∃ a l t, v = .ref a ∧ ((a, tupO [.str (Str.ofString "chain") t, .ref l]) ∈ R ∨ (a, tupO [.str (Str.ofString "switch") t, .ref l]) ∈ R) := by
  cases hT with
  | cl => exact absurd h.2.2 (Nat.lt_irrefl 3)
  | fail => exact absurd h (Nat.lt_irrefl 3)
  | ch2 h1 => exact ⟨_, _, _, rfl, .inl h1⟩
  | ch3 h1 => exact ⟨_, _, _, rfl, .inl h1⟩
  | sw h1 => exact ⟨_, _, _, rfl, .inr h1⟩
  | @tb0 s => have := h.1; cases s <;> cases this
  | @tb1 s => have := h.1; cases s <;> cases this
  | @tb2 s => have := h.1; cases s <;> cases this
section
variable (w : World) (mean : ExcName → Option Value) (mg mb : Str → Option Value)
theorem tree3 : TreeOK w mean mg mb 3 .any := by
  have z := tree_zero w mean mg mb
  have s1 : ∀ k, TreeOK w mean mg mb 1 k := fun k => tree_step w mean mg mb 0 (by decide) k fun j _ => z j
  have s2 : ∀ k, TreeOK w mean mg mb 2 k := fun k => tree_step w mean mg mb 1 (by decide) k fun j _ => s1 j
  exact tree_step w mean mg mb 2 (by decide) .any fun j _ => s2 j
end
section
variable {w : World} {mean : ExcName → Option Value} {mg mb : Str → Option Value}
/-- _law_tree, used by the law -/
theorem treeTop {b sl : Addr} {i : Int} {ti td tw : Tok} {vs : List Value} {ns : List Int} {k : Nat} {R all : Led} {dp un : Nat} {gd : Option (List Code)} {cn : Str} {cs : Scope} {a : Addr} {ccd : Value} {cl : List (Str × Addr)} {outer : List Env} {A₀ : Around} {base h₀ : Heap} {L : Addr} {m : Str → Option Value} {s : Shared}
    {Q E : Value → Shared → Prop} (hv : IntsAre vs ns) (hn : ns.length ≤ 63) (hi : 0 ≤ i) (hm : (sl, listOf vs.toArray 0) ∈ R) (hb : (b, belt sl i ti k) ∈ all) (hR : ∀ p ∈ R, p ∈ all) (hne : ∀ p ∈ R, p.1 ≠ b)
    (B : Below A₀ base outer h₀) (F : Fr h₀ L s.heap m) (X : (Mine.hd.heap_39 w.params).In h₀) (N : News h₀ L s.heap all)
    (T : Top Mine.hd.view_39 (looseW Mine.hd.view_39 [Str.ofString "LinkFault"]) mean mg mb h₀) (hk : cs.kind = .function) (hd : dp + 7 < recursionLimit) (hu : un + 64 < cLine)
    (ret : ∀ v N h' tk' x, Fr h₀ L h' m → News h₀ L h' N → TIn N v x → Wf 3 .any x → Q v { s with heap := h', toks := tk' }) :
    wpAny (model Mine.pw w) (ktrTop dp un gd cn cs L a ccd cl outer) (call (.ref 103) [.ref b, .int 3 td, .str (Str.ofString "any") tw]) Q E s := by
  refine Ctr.use (tree3 w mean mg mb b sl i ti k 3 td tw vs ns R rfl hv hn hne hm hi) B F X (newsSub N fun p hp => ?_) T hk hd hu ?_
  · rcases List.mem_cons.mp hp with rfl | hp
    · exact hb
    · exact hR p hp
  · rintro r news' h' tk' F' N' ⟨o', N₁, rfl, _, i', t', x, _, rfl, hT, hw⟩
    exact ret r _ h' tk' x F' (newsSub N' fun p hp => .tail _ (List.mem_append_left _ hp)) hT hw
theorem blockTop {tv : Value} {x : T} {R : Led} {dp un : Nat} {gd : Option (List Code)} {cn : Str} {cs : Scope} {a : Addr} {ccd : Value} {cl : List (Str × Addr)} {outer : List Env} {A₀ : Around} {base h₀ : Heap} {L : Addr} {m : Str → Option Value} {s : Shared}
    {Q E : Value → Shared → Prop} (hT : TIn R tv x) (hw : Wf 3 .any x)
    (B : Below A₀ base outer h₀) (F : Fr h₀ L s.heap m) (X : (Mine.hd.heap_39 w.params).In h₀) (N : News h₀ L s.heap R)
    (T : Top Mine.hd.view_39 (looseW Mine.hd.view_39 [Str.ofString "LinkFault"]) mean mg mb h₀) (hk : cs.kind = .function) (hd : dp + 6 < recursionLimit) (hu : un + 60 < cLine)
    (ret : ∀ bl bs kb R' h' tk', Fr h₀ L h' m → News h₀ L h' R' → TIn R' tv x → (bl, listOf (List.toArray bs) kb) ∈ R' → BIn R' bs (blockT x) → bs.length ≤ 710 → Q (.ref bl) { s with heap := h', toks := tk' }) :
    wpAny (model Mine.pw w) (ktrTop dp un gd cn cs L a ccd cl outer) (call (.ref 129) [tv]) Q E s := by
  refine Ctr.use (law_block w mean mg mb tv x R hT (wf3 hw) (wf3_inn hw)) B F X N T hk hd hu ?_
  rintro r news' h' tk' F' N' ⟨bl, bs, kb, N₁, rfl, rfl, hm, hb, _, hz⟩
  exact ret bl bs kb _ h' tk' F' N' (hT.mono fun p hp => List.mem_append_right _ hp) (List.mem_append_left _ hm) hb hz
end
/-- a test's one answer; what it made is forgotten -/
def TestH (v : Bool) (h₀ : Heap) (L : Addr) (m : Str → Option Value) (news : Led) (s : Shared) (b : Bool) (s' : Shared) : Prop := b = v ∧ ∃ h' tk, s' = { s with heap := h', toks := tk } ∧ Fr h₀ L h' m ∧ News h₀ L h' news
theorem testJoinH {M : Model} {A : Around} {E : Value → Shared → Prop} {s : Shared} {t : Sem Bool} {Q : Bool → Shared → Prop} {h₀ : Heap} {L : Addr} {m : Str → Option Value} {news : Led} (v : Bool) (_F : Fr h₀ L s.heap m) (_N : News h₀ L s.heap news)
    (h : wpAny M A t (TestH v h₀ L m news s) E s) (k : ∀ h' tk, Fr h₀ L h' m → News h₀ L h' news → Q v { s with heap := h', toks := tk }) : wpAny M A t Q E s :=
  wpAny_mono h (fun b s' ⟨e1, h', tk, e2, F, N⟩ => by subst e1 e2; exact k h' tk F N) fun _ _ e => e
theorem testH {v : Bool} {h₀ : Heap} {L : Addr} {m : Str → Option Value} {news all : Led} {s : Shared} {h' : Heap} {tk : Nat} (F : Fr h₀ L h' m) (N : News h₀ L h' all) (hs : ∀ p ∈ news, p ∈ all) : TestH v h₀ L m news s v { s with heap := h', toks := tk } := ⟨rfl, h', tk, rfl, F, newsSub N hs⟩
section
variable {prog : Program} {w : World} {A : Around} {E : Value → Shared → Prop} {s : Shared} {env : Env} {h₀ : Heap} {x : Str} {body : List Stmt} {Q : Flow → Shared → Prop}
def NumEnd (h₀ : Heap) (L : Addr) (x : Str) (stored : List Str) (m₀ : Str → Option Value) (Rw : Led) (s₁ s₂ : Shared) : Prop :=
  ∃ h' tk m', s₂ = { s₁ with heap := h', toks := tk } ∧ Fr h₀ L h' m' ∧ News h₀ L h' Rw ∧ ∀ z, z ≠ x → stored.contains z = false → m' z = m₀ z
def NumPost (h₀ : Heap) (L : Addr) (x : Str) (stored : List Str) (m₀ : Str → Option Value) (Rw : Led) (s₁ : Shared) (Q : Flow → Shared → Prop) (f : Flow) (s₂ : Shared) : Prop :=
  match f with
  | .ret v => Q (.ret v) s₂
  | .brk => Q .next s₂
  | _ => NumEnd h₀ L x stored m₀ Rw s₁ s₂
theorem numEnd {L : Addr} {stored : List Str} {m₀ m' : Str → Option Value} {Rw all : Led} {s₁ : Shared} {h' : Heap} {tk : Nat} (F : Fr h₀ L h' m') (N : News h₀ L h' all) (hs : ∀ p ∈ Rw, p ∈ all) (hm : ∀ z, z ≠ x → stored.contains z = false → m' z = m₀ z) :
    NumEnd h₀ L x stored m₀ Rw s₁ { s₁ with heap := h', toks := tk } := ⟨h', tk, m', rfl, F, newsSub N hs, hm⟩
theorem numLoop {l : Addr} {vs : List Value} {ns : List Int} {nn : Nat} {m₀ : Str → Option Value} {R : Led} (stored : List Str)
    (hh : A.handled = none) (hi : IntsAre vs ns) (F : Fr h₀ env.locals s.heap m₀) (N : News h₀ env.locals s.heap ((l, listOf vs.toArray nn) :: R))
    (turn : ∀ (n : Int) t (u : Str → Option Value) h tk Rw, (∀ p ∈ R, p ∈ Rw) → Fr h₀ env.locals h (fun y => if y = x then some (.int n t) else kstB (fun z => if stored.contains z then u z else m₀ z) [] y) → News h₀ env.locals h Rw →
      wpAny (model prog w) A (execs body env) (NumPost h₀ env.locals x stored m₀ Rw { s with heap := h, toks := tk } Q) E { s with heap := h, toks := tk })
    (done : ∀ (u : Str → Option Value) h tk, Fr h₀ env.locals h (fun y => if y = x then u y else kstB (fun z => if stored.contains z then u z else m₀ z) [] y) → News h₀ env.locals h R → Q .next { s with heap := h, toks := tk }) :
    wpAny (model prog w) A (pyIter (.ref l)) (fun it s₂ => LoopAtV prog w A h₀ env x body Q E it s₂) E s := by
  refine kst_listL (σ := Unit) (nn := nn) (fun _ => (l, listOf vs.toArray nn) :: R) (fun _ => []) (fun _ => True) stored (fun _ _ => True) () hh (fun _ => .head _) hi F N trivial (fun _ h => nomatch h) trivial ?_ ?_
  · rintro _ pre post n t u h tk own _ _ _ _ _ F₁ N₁
    refine wpAny_mono (turn n t u h tk (((l, listOf vs.toArray nn) :: R) ++ own) (fun p hp => List.mem_append_left _ (.tail _ hp)) F₁ N₁) (fun f s₂ p => ?_) fun _ _ e => e
    have up : NumEnd h₀ env.locals x stored m₀ (((l, listOf vs.toArray nn) :: R) ++ own) { s with heap := h, toks := tk } s₂ →
        InvEndN h₀ env.locals (KstS (fun _ : Unit => (l, listOf vs.toArray nn) :: R) (fun _ => []) (fun _ => True) x stored m₀ (fun _ _ => True) (pre ++ [n])) own (((l, listOf vs.toArray nn) :: R).map (·.1)) { s with heap := h, toks := tk } s₂ := by
      rintro ⟨h', tk', m', rfl, F', N', hm⟩
      exact kst_end () F' N' (fun p hp => List.mem_append_left _ hp) (fun p hp => List.mem_append_right _ hp) rfl trivial (fun _ h => nomatch h) (fun z h1 _ h3 => hm z h1 h3) trivial
    cases f with
    | ret v => exact p
    | brk => exact p
    | next => exact up p
    | cont => exact up p
  · rintro _ u h tk _ _ F₁ N₁
    exact done u h tk F₁ (newsSub N₁ fun p hp => .tail _ hp)
end
section
variable {w : World} {mean : ExcName → Option Value} {mg mb : Str → Option Value}
theorem triedTop {bl : Addr} {bs : List Value} {kb : Nat} {B : List Ins} {kv : Value} {k : Key} {tc : Tok} {l : List Int} {R all : Led} {dp un : Nat} {gd : Option (List Code)} {cn : Str} {cs : Scope} {a : Addr} {ccd : Value} {cl : List (Str × Addr)} {outer : List Env} {A₀ : Around} {base h₀ : Heap} {L : Addr} {m : Str → Option Value} {s : Shared}
    {Q E : Value → Shared → Prop} (hm : (bl, listOf bs.toArray kb) ∈ R) (hb : BIn R bs B) (hz : bs.length ≤ 710) (hr : ∃ n, n ≤ 2000 ∧ Run B 5 k (placesT B) n [0] [] (.ok l)) (hs : ∀ p ∈ R, p ∈ all) (hk0 : KeyAt all kv k)
    (Bl : Below A₀ base outer h₀) (F : Fr h₀ L s.heap m) (X : (Mine.hd.heap_39 w.params).In h₀) (N : News h₀ L s.heap all)
    (T : Top Mine.hd.view_39 (looseW Mine.hd.view_39 [Str.ofString "LinkFault"]) mean mg mb h₀) (hk : cs.kind = .function) (hd : dp + 6 < recursionLimit) (hu : un + 300 < cLine)
    (ret : ∀ fd us kf R' h' tk', Fr h₀ L h' m → News h₀ L h' R' → (∀ p ∈ all, p ∈ R') → (fd, listOf (List.toArray us) kf) ∈ R' → IntsAre us l → Q (.ref fd) { s with heap := h', toks := tk' }) :
    wpAny (model Mine.pw w) (ktrTop dp un gd cn cs L a ccd cl outer) (call (.ref 91) [.ref bl, .int 5 tc, kv]) Q E s := by
  obtain ⟨n, hn, hr⟩ := hr
  have hl := hb.length
  refine CtrX.use (tried_clauses w mean mg mb bl bs B kb all kv k tc n (.ok l) (hs _ hm) (hb.mono hs) (by omega) hk0 hn hr) Bl F X N T hk hd hu ?_ (fun h => by cases h)
  rintro r news' h' tk' F' N' ⟨l', fd, us, kf, N₁, e, rfl, rfl, h1, h2, _⟩
  cases e
  exact ret fd us kf _ h' tk' F' N' (fun p hp => List.mem_append_right _ hp) (List.mem_append_left _ h1) h2
theorem readTop {kd : Wh} {num : Int} {x : T} {R all : Led} {v : Value} {tk tn : Tok} {dp un : Nat} {gd : Option (List Code)} {cn : Str} {cs : Scope} {a : Addr} {ccd : Value} {cl : List (Str × Addr)} {outer : List Env} {A₀ : Around} {base h₀ : Heap} {L : Addr} {m : Str → Option Value} {s : Shared}
    {Q E : Value → Shared → Prop} (C : ReadOK w mean mg mb kd num x) (hv : TIn R v x) (hw : Wf 3 .any x) (hs : ∀ p ∈ R, p ∈ all) (Bl : Below A₀ base outer h₀) (F : Fr h₀ L s.heap m) (X : (Mine.hd.heap_39 w.params).In h₀) (N : News h₀ L s.heap all)
    (T : Top Mine.hd.view_39 (looseW Mine.hd.view_39 [Str.ofString "LinkFault"]) mean mg mb h₀) (hk : cs.kind = .function) (hd : dp + 100 < recursionLimit) (hu : un + 800 < cLine)
    (ret : ∀ l vs R' h' tk', Fr h₀ L h' m → News h₀ L h' R' → (∀ p ∈ all, p ∈ R') → (l, listOf (List.toArray vs) 0) ∈ R' → IntsAre vs (readT kd num x) → Q (.ref l) { s with heap := h', toks := tk' }) :
    wpAny (model Mine.pw w) (ktrTop dp un gd cn cs L a ccd cl outer) (call (.ref 110) [v, .str (Str.ofString kd.name) tk, .int num tn]) Q E s := by
  have hc := wf_cnt hw
  have e : bd 3 = 85 := rfl
  have hh : x.ht ≤ x.cnt := ht_le x
  exact readUse C hv hs (by omega) Bl F X N T hk (by omega) (by omega) fun l vs N' h' tk' F' N₁ h1 h2 _ => ret l vs _ h' tk' F' N₁ (fun p hp => List.mem_append_right _ hp) (List.mem_append_left _ h1) h2
end
section
variable {w : World} {mean : ExcName → Option Value} {mg mb : Str → Option Value}
theorem refusedTop {sp : Addr} {bs : List Value} {kb : Nat} {B : List Ins} {kv : Value} {k : Key} {all : Led} {dp un : Nat} {gd : Option (List Code)} {cn : Str} {cs : Scope} {a : Addr} {ccd : Value} {A₀ : Around} {h₀ : Heap} {L : Addr} {m : Str → Option Value} {s : Shared}
    {Q E : Value → Shared → Prop} (hm : (sp, listOf bs.toArray kb) ∈ all) (hb : BIn all bs B) (hz : bs.length ≤ 800) (hr : ∃ n, n ≤ 2000 ∧ Run B 5 k (placesT B) n [0] [] .bad) (hk0 : KeyAt all kv k)
    (Bl : Below A₀ h₀ [] h₀) (F : Fr h₀ L s.heap m) (X : (Mine.hd.heap_39 w.params).In h₀) (N : News h₀ L s.heap all)
    (T : Top Mine.hd.view_39 (looseW Mine.hd.view_39 [Str.ofString "LinkFault"]) mean mg mb h₀) (hk : cs.kind = .function) (hd : dp + 8 < recursionLimit) (hu : un + 320 < cLine)
    (ret : ∀ h' tk', Fr h₀ L h' m → News h₀ L h' all → Q (.bool true) { s with heap := h', toks := tk' }) :
    wpAny (model Mine.pw w) (ktrTop dp un gd cn cs L a ccd [] []) (call (.ref 136) [.ref sp, kv]) Q E s := by
  obtain ⟨n, hn, hr⟩ := hr
  have hl := hb.length
  refine law_refused w mean mg mb sp kv all (fun tc => tried_clauses w mean mg mb sp bs B kb all kv k tc n .bad hm hb (by omega) hk0 hn hr) dp un gd cn cs a ccd A₀ h₀ L m s Q E Bl F X N T hk hd hu ?_
  rintro r news' h' tk' F' N' ⟨rfl, rfl⟩
  exact ret h' tk' F' N'
end
set_option maxRecDepth 100000 in
set_option maxHeartbeats 8000000 in
theorem law_holdsQ : Mine.rwq.Holds := by
  k_with_none
  k_with "k_all" => first | with_reducible assumption | (refine' List.forall_mem_cons.mpr ⟨?qa9, ?qb9⟩; (case qa9 => k_ne); (case qb9 => k_all)) | exact allLt_ne (by with_reducible assumption) | exact off1_ne4 (by with_reducible assumption) | exact allLt_ne1 (by with_reducible assumption) | exact allLt_ne2 (by with_reducible assumption) | exact allLt_ne3 (by with_reducible assumption) | exact allLt_ne4 (by with_reducible assumption) | exact allLt_ne5 (by with_reducible assumption) | exact allLt_ne6 (by with_reducible assumption) | exact allLt_ne7 (by with_reducible assumption) | exact allLt_ne8 (by with_reducible assumption) | exact allLt_ne9 (by with_reducible assumption) | exact allLt_ne10 (by with_reducible assumption) | exact allLt_ne11 (by with_reducible assumption) | exact allLt_ne12 (by with_reducible assumption) | exact tail_ne (by with_reducible assumption) (fresh_ne (by with_reducible assumption) (by k_mem)) (by k_all) | fail "k_all"
  k_with "k_updF" => first | (refine' UpT.head ?ua9 ?ub9; (case ub9 => k_all); (case ua9 => k_updF)) | (refine' UpT.tail ?ua9 ?ub9; (case ua9 => k_ne); (case ub9 => k_updF)) | (refine' TailOf.cons ?ua9; (case ua9 => k_updF)) | exact TailOf.nil | fail "updT"
  k_with "k_all" => first | exact fun p hp => Nat.ne_of_lt ((by assumption : ∀ p ∈ _, Prod.fst p < _) p hp) | fail "lt"
  k_with "kaf_pre" => first | (refine' evI ?pe9 ?pN9 ?pm9 ?px9; (case pe9 => kaf_pre); (case pN9 => k_asm); (case pm9 => k_mem); (case px9 => rfl)) | (refine' evL ?pF9 ?pv9 ?pa9 ?pb9 ?pc9; (case pF9 => k_asm); (case pa9 => rfl); (case pb9 => rfl); (case pc9 => rfl); (case pv9 => rfl)) | (refine' evC ?pN9 ?pl9 ?pm9 ?pd9 ?pa9 ?pb9 ?pc9; (case pa9 => rfl); (case pb9 => rfl); (case pc9 => rfl); (case pN9 => k_asm); (case pl9 => rfl); (case pm9 => k_mem); (case pd9 => k_asm)) | (refine' evK ?pF9 ?pX9 ?pT9 ?pe9 ?pa9 ?pb9 ?pc9; (case pF9 => k_asm); (case pX9 => k_asm); (case pT9 => k_asm); (case pa9 => rfl); (case pb9 => rfl); (case pc9 => rfl); (case pe9 => k_is))
  k_with "kaf_suf" => first | exact evl0 | (refine' evlI ?sl9; (case sl9 => kaf_suf)) | (refine' evlS ?sl9; (case sl9 => kaf_suf)) | (refine' evlN ?se9 ?sl9 ?sn9; (case sn9 => rfl); (case se9 => kaf_pre); (case sl9 => kaf_suf)) | (refine' evlE ?se9 ?sl9 ?sn9; (case sn9 => rfl); (case se9 => kaf_pre); (case sl9 => kaf_suf))
  k_with "call ref" => (k_here; (with_reducible show wpAny _ A9 (call (Value.ref _) _) _ _ _); (change wpAny _ (Around.deeper callerA _) _ _ _ _); k_dflt (refine wpAny_call ?_; k_enter))
  k_with "k_ne" => (refine neN ?_; (try dsimp only); first | with_reducible assumption | exact Ne.symm (by with_reducible assumption) | (refine Nat.ne_of_gt ((?_ : ChainTo _ _ _ _) (by with_reducible assumption)); intro hch; with_reducible (first | exact And.left hch | exact And.left (And.right hch) | exact And.left (And.right (And.right hch)) | exact And.left (And.right (And.right (And.right hch))) | exact And.left (And.right (And.right (And.right (And.right hch)))) | exact And.left (And.right (And.right (And.right (And.right (And.right hch))))) | exact And.left (And.right (And.right (And.right (And.right (And.right (And.right hch)))))) | exact And.left (And.right (And.right (And.right (And.right (And.right (And.right (And.right hch))))))) | exact And.left (And.right (And.right (And.right (And.right (And.right (And.right (And.right (And.right hch)))))))) | exact And.left (And.right (And.right (And.right (And.right (And.right (And.right (And.right (And.right (And.right hch))))))))) | exact And.left (And.right (And.right (And.right (And.right (And.right (And.right (And.right (And.right (And.right (And.right hch)))))))))) | exact And.left (And.right (And.right (And.right (And.right (And.right (And.right (And.right (And.right (And.right (And.right (And.right hch))))))))))) | exact And.left (And.right (And.right (And.right (And.right (And.right (And.right (And.right (And.right (And.right (And.right (And.right (And.right hch)))))))))))) | exact And.left (And.right (And.right (And.right (And.right (And.right (And.right (And.right (And.right (And.right (And.right (And.right (And.right (And.right hch))))))))))))))) | (refine Nat.ne_of_lt ((?_ : ChainTo _ _ _ _) (by with_reducible assumption)); intro hch; with_reducible (first | exact And.left hch | exact And.left (And.right hch) | exact And.left (And.right (And.right hch)) | exact And.left (And.right (And.right (And.right hch))) | exact And.left (And.right (And.right (And.right (And.right hch)))) | exact And.left (And.right (And.right (And.right (And.right (And.right hch))))) | exact And.left (And.right (And.right (And.right (And.right (And.right (And.right hch)))))) | exact And.left (And.right (And.right (And.right (And.right (And.right (And.right (And.right hch))))))) | exact And.left (And.right (And.right (And.right (And.right (And.right (And.right (And.right (And.right hch)))))))) | exact And.left (And.right (And.right (And.right (And.right (And.right (And.right (And.right (And.right (And.right hch))))))))) | exact And.left (And.right (And.right (And.right (And.right (And.right (And.right (And.right (And.right (And.right (And.right hch)))))))))) | exact And.left (And.right (And.right (And.right (And.right (And.right (And.right (And.right (And.right (And.right (And.right (And.right hch))))))))))) | exact And.left (And.right (And.right (And.right (And.right (And.right (And.right (And.right (And.right (And.right (And.right (And.right (And.right hch)))))))))))) | exact And.left (And.right (And.right (And.right (And.right (And.right (And.right (And.right (And.right (And.right (And.right (And.right (And.right (And.right hch))))))))))))))) | exact Nat.ne_of_gt (Nat.lt_succ_of_lt (And.left (by with_reducible assumption))) | exact Nat.ne_of_lt (Nat.lt_succ_of_lt (And.left (by with_reducible assumption))) | exact Nat.ne_of_gt (Nat.lt_succ_of_lt (And.left (And.right (by with_reducible assumption)))) | exact Nat.ne_of_lt (Nat.lt_succ_of_lt (And.left (And.right (by with_reducible assumption)))) | exact Nat.ne_of_gt (Nat.lt_succ_of_lt (And.left (And.right (And.right (by with_reducible assumption))))) | exact Nat.ne_of_lt (Nat.lt_succ_of_lt (And.left (And.right (And.right (by with_reducible assumption))))) | exact Nat.ne_of_gt (Nat.lt_succ_of_lt (Nat.lt_succ_of_lt (And.left (by with_reducible assumption)))) | exact Nat.ne_of_lt (Nat.lt_succ_of_lt (Nat.lt_succ_of_lt (And.left (by with_reducible assumption)))) | exact Nat.ne_of_gt (Nat.lt_succ_of_lt (Nat.lt_succ_of_lt (And.left (And.right (by with_reducible assumption))))) | exact Nat.ne_of_lt (Nat.lt_succ_of_lt (Nat.lt_succ_of_lt (And.left (And.right (by with_reducible assumption))))) | exact Nat.ne_of_gt (Nat.lt_succ_of_lt (Nat.lt_succ_of_lt (And.left (And.right (And.right (by with_reducible assumption)))))) | exact Nat.ne_of_lt (Nat.lt_succ_of_lt (Nat.lt_succ_of_lt (And.left (And.right (And.right (by with_reducible assumption)))))) | exact Nat.ne_of_gt (Nat.lt_succ_of_lt (Nat.lt_succ_of_lt (Nat.lt_succ_of_lt (And.left (by with_reducible assumption))))) | exact Nat.ne_of_lt (Nat.lt_succ_of_lt (Nat.lt_succ_of_lt (Nat.lt_succ_of_lt (And.left (by with_reducible assumption))))) | exact Nat.ne_of_gt (Nat.lt_succ_of_lt (Nat.lt_succ_of_lt (Nat.lt_succ_of_lt (And.left (And.right (by with_reducible assumption)))))) | exact Nat.ne_of_lt (Nat.lt_succ_of_lt (Nat.lt_succ_of_lt (Nat.lt_succ_of_lt (And.left (And.right (by with_reducible assumption)))))) | exact Nat.ne_of_gt (Nat.lt_succ_of_lt (Nat.lt_succ_of_lt (Nat.lt_succ_of_lt (And.left (And.right (And.right (by with_reducible assumption))))))) | exact Nat.ne_of_lt (Nat.lt_succ_of_lt (Nat.lt_succ_of_lt (Nat.lt_succ_of_lt (And.left (And.right (And.right (by with_reducible assumption))))))) | exact Nat.ne_of_gt (Nat.lt_succ_self _) | exact Nat.ne_of_lt (Nat.lt_succ_self _) | exact Nat.ne_of_gt (Nat.lt_succ_of_lt (Nat.lt_succ_self _)) | exact Nat.ne_of_lt (Nat.lt_succ_of_lt (Nat.lt_succ_self _)) | exact ((And.left (And.left (by with_reducible assumption))) : @Ne Nat _ _) | exact Ne.symm ((And.left (And.left (by with_reducible assumption))) : @Ne Nat _ _) | exact ((And.left (And.right (And.left (by with_reducible assumption)))) : @Ne Nat _ _) | exact Ne.symm ((And.left (And.right (And.left (by with_reducible assumption)))) : @Ne Nat _ _) | exact ((And.right (And.right (And.left (by with_reducible assumption)))) : @Ne Nat _ _) | exact Ne.symm ((And.right (And.right (And.left (by with_reducible assumption)))) : @Ne Nat _ _) | exact ((And.left (And.left (And.right (by with_reducible assumption)))) : @Ne Nat _ _) | exact Ne.symm ((And.left (And.left (And.right (by with_reducible assumption)))) : @Ne Nat _ _) | exact ((And.left (And.right (And.left (And.right (by with_reducible assumption))))) : @Ne Nat _ _) | exact Ne.symm ((And.left (And.right (And.left (And.right (by with_reducible assumption))))) : @Ne Nat _ _) | exact ((And.right (And.right (And.left (And.right (by with_reducible assumption))))) : @Ne Nat _ _) | exact Ne.symm ((And.right (And.right (And.left (And.right (by with_reducible assumption))))) : @Ne Nat _ _) | exact ((And.left (And.left (And.right (And.right (by with_reducible assumption))))) : @Ne Nat _ _) | exact Ne.symm ((And.left (And.left (And.right (And.right (by with_reducible assumption))))) : @Ne Nat _ _) | exact ((And.left (And.right (And.left (And.right (And.right (by with_reducible assumption)))))) : @Ne Nat _ _) | exact Ne.symm ((And.left (And.right (And.left (And.right (And.right (by with_reducible assumption)))))) : @Ne Nat _ _) | exact ((And.right (And.right (And.left (And.right (And.right (by with_reducible assumption)))))) : @Ne Nat _ _) | exact Ne.symm ((And.right (And.right (And.left (And.right (And.right (by with_reducible assumption)))))) : @Ne Nat _ _) | exact ((And.left (And.left (And.right (And.right (And.right (by with_reducible assumption)))))) : @Ne Nat _ _) | exact Ne.symm ((And.left (And.left (And.right (And.right (And.right (by with_reducible assumption)))))) : @Ne Nat _ _) | exact ((And.left (And.right (And.left (And.right (And.right (And.right (by with_reducible assumption))))))) : @Ne Nat _ _) | exact Ne.symm ((And.left (And.right (And.left (And.right (And.right (And.right (by with_reducible assumption))))))) : @Ne Nat _ _) | exact ((And.right (And.right (And.left (And.right (And.right (And.right (by with_reducible assumption))))))) : @Ne Nat _ _) | exact Ne.symm ((And.right (And.right (And.left (And.right (And.right (And.right (by with_reducible assumption))))))) : @Ne Nat _ _) | exact ((And.left (And.left (And.right (And.right (And.right (And.right (by with_reducible assumption))))))) : @Ne Nat _ _) | exact Ne.symm ((And.left (And.left (And.right (And.right (And.right (And.right (by with_reducible assumption))))))) : @Ne Nat _ _) | exact ((And.left (And.right (And.left (And.right (And.right (And.right (And.right (by with_reducible assumption)))))))) : @Ne Nat _ _) | exact Ne.symm ((And.left (And.right (And.left (And.right (And.right (And.right (And.right (by with_reducible assumption)))))))) : @Ne Nat _ _) | exact ((And.right (And.right (And.left (And.right (And.right (And.right (And.right (by with_reducible assumption)))))))) : @Ne Nat _ _) | exact Ne.symm ((And.right (And.right (And.left (And.right (And.right (And.right (And.right (by with_reducible assumption)))))))) : @Ne Nat _ _) | exact ((And.left (And.left (And.right (And.right (And.right (And.right (And.right (by with_reducible assumption)))))))) : @Ne Nat _ _) | exact Ne.symm ((And.left (And.left (And.right (And.right (And.right (And.right (And.right (by with_reducible assumption)))))))) : @Ne Nat _ _) | exact ((And.left (And.right (And.left (And.right (And.right (And.right (And.right (And.right (by with_reducible assumption))))))))) : @Ne Nat _ _) | exact Ne.symm ((And.left (And.right (And.left (And.right (And.right (And.right (And.right (And.right (by with_reducible assumption))))))))) : @Ne Nat _ _) | exact ((And.right (And.right (And.left (And.right (And.right (And.right (And.right (And.right (by with_reducible assumption))))))))) : @Ne Nat _ _) | exact Ne.symm ((And.right (And.right (And.left (And.right (And.right (And.right (And.right (And.right (by with_reducible assumption))))))))) : @Ne Nat _ _) | exact ((And.left (And.left (And.right (And.right (And.right (And.right (And.right (And.right (by with_reducible assumption))))))))) : @Ne Nat _ _) | exact Ne.symm ((And.left (And.left (And.right (And.right (And.right (And.right (And.right (And.right (by with_reducible assumption))))))))) : @Ne Nat _ _) | exact ((And.left (And.right (And.left (And.right (And.right (And.right (And.right (And.right (And.right (by with_reducible assumption)))))))))) : @Ne Nat _ _) | exact Ne.symm ((And.left (And.right (And.left (And.right (And.right (And.right (And.right (And.right (And.right (by with_reducible assumption)))))))))) : @Ne Nat _ _) | exact ((And.right (And.right (And.left (And.right (And.right (And.right (And.right (And.right (And.right (by with_reducible assumption)))))))))) : @Ne Nat _ _) | exact Ne.symm ((And.right (And.right (And.left (And.right (And.right (And.right (And.right (And.right (And.right (by with_reducible assumption)))))))))) : @Ne Nat _ _) | omega)
  k_with "ktr_room" => ((try simp only [depth_under_make, depth_under_kw, depth_in1, depth_deeper, depth_caller]); (try dsimp only [ktrTop]); first | exact Nat.lt_of_le_of_lt (Nat.le_add_right _ _) (by with_reducible assumption) | exact roomStep (by with_reducible assumption) (by first | exact Nat.le_refl _ | decide | exact r2 _ | omega) | fail "room")
  k_with "ktr_units" => ((try simp only [units_in1, units_deeper, Around.mark_units, units_caller]); (try dsimp only [ktrTop]); first | exact unitStep (by with_reducible assumption) (by first | exact Nat.le_refl _ | decide | exact u20 _ | exact u40 _ | omega) | fail "units")
  k_with "k_mem" => first | exact tail_mem (by assumption) (by k_mem) | fail "k_mem"
  k_with "k_mem" => assumption
  k_with "k_mem" => first | exact List.mem_cons_of_mem _ (by assumption) | fail "k_mem"
  k_with "size_fits" => (simp only [List.size_toArray, Array.size_push, List.length_append, List.length_cons, List.length_nil, PySem.sizeLine_eq] <;> omega)
  k_with "exec If" => (k_here; k_fold)
  k_with "exec Assign" => (k_here; k_fold)
  k_with "exec Expr" => (k_here; k_fold)
  k_with "exec Return some" => (k_here; k_fold)
  k_with "execs cons" => (k_here; first | k_fold | ((with_reducible refine execsG ?_); intro t9; (try dsimp only)))
  k_with "execs nil" => (k_here; (with_reducible refine wpAny_execs_nil ?_); (try dsimp only))
  k_with "exec For Tuple Name cons nil" => k_extra "exec For Tuple Name"
  k_with "ite" => (k_here; first | (refine ite_pos (by first | omega | (simp only [beq_iff_eq, bne_iff_ne, decide_eq_true_eq]; omega)) ?_) | (refine ite_neg (by first | omega | (simp only [beq_iff_eq, bne_iff_ne, decide_eq_true_eq]; omega)) ?_))
  k_with "exec For Tuple Subscript cons nil" => k_extra "exec For Tuple"
  k_with "subscriptTail" => (k_here; (with_reducible show wpAny _ _ (subscriptTail _ _ (Value.ref _) (Value.int _ _)) _ _ _); (with_unfolding_all refine' litItem ?N ?m ?a ?b ?c ?_ ?d; (case N => k_asm); (case m => k_mem); (case a => decide); (case b => decide); (case c => rfl); (case d => with_unfolding_all rfl); k_whole))
  k_with "call builtin:list.index" => (k_here; (with_reducible show wpAny _ _ (call (Value.builtin _) [Value.ref _, Value.str _ _]) _ _ _); k_dflt (refine' kindIndex ?k0 ?N ?m ?_; (case k0 => with_reducible assumption); (case N => k_asm); (case m => k_mem)); dsimp only [Wh.ixI])
  k_with "exec If" => (k_here; k_dflt (first | ((with_reducible refine' ifT ?xe9 ?xb9 ?_); (case xe9 => kaf_pre); (case xb9 => decide); k_whole) | ((with_reducible refine' ifF ?xe9 ?xb9 ?_); (case xe9 => kaf_pre); (case xb9 => decide); k_whole)))
  k_with "isTrue Compare" => (k_here; k_dflt (first | ((with_reducible refine' isT ?xe9 ?xb9 ?_); (case xe9 => kaf_pre); (case xb9 => decide); k_whole) | ((with_reducible refine' isF ?xe9 ?xb9 ?_); (case xe9 => kaf_pre); (case xb9 => decide); k_whole) | ((with_reducible refine' isI ?xe9 ?_); (case xe9 => kaf_pre); k_whole) | ((with_reducible refine' isIl ?xe9 ?_); (case xe9 => kaf_pre); k_whole) | ((with_reducible refine' isIg ?xe9 ?_); (case xe9 => kaf_pre); k_whole)))
  k_with "eval Subscript" => (k_here; k_dflt ((with_reducible refine' Ev.go ?xe9 ?_); (case xe9 => kaf_pre); k_whole))
  k_with "spliced" => (k_here; k_dflt ((with_reducible refine' EvL.go ?xe9 ?_); (case xe9 => kaf_suf); k_whole); (try dsimp only [List.nil_append, List.cons_append]))
  k_with "eval Call" => (k_here; (with_reducible show wpAny _ _ (eval (Expr.Call (Expr.Name _ _) (_ :: _) [] _) _) _ _ _); k_dflt (refine' evCall ?xF9 ?xX9 ?xT9 ?xe9 ?xk9 ?xl9 ?_ ?xs9 ?xa9 ?xb9 ?xc9; (case xF9 => k_asm); (case xX9 => k_asm); (case xT9 => k_asm); (case xa9 => rfl); (case xb9 => rfl); (case xc9 => rfl); (case xe9 => k_is); (case xk9 => k_is); (case xl9 => kaf_suf); (case xs9 => rfl); k_whole))
  k_with "call ref" => (k_here; (with_reducible show wpAny _ _ (call (Value.ref 103) [_, _, _]) _ _ _); k_dflt (refine' treeTop (R := [_]) ?hv ?hn ?hi (.head _) ?hb ?hR ?hne ?k1 ?k2 ?k3 ?k4 ?k5 ?kK ?kd ?ku ?_; (case k4 => k_asm); (case k1 => first | k_asm | exact below_caller _); (case k2 => k_asm); (case k3 => k_asm); (case k5 => k_asm); (case kK => first | exact rfl | assumption); (case kd => decide); (case ku => first | decide | ktr_units); (case hb => exact .head _); (case hR => exact fun p hp => .tail _ hp); (case hv => assumption); (case hn => omega); (case hi => omega); (case hne => k_all)); intro tv9 N9 h9 tk9 x9 F9 N9' hT9 hw9)
  k_with "call ref" => (k_here; (with_reducible show wpAny _ _ (call (Value.ref 129) [_]) _ _ _); k_dflt (refine' blockTop hT9 hw9 ?k1 ?k2 ?k3 ?k4 ?k5 ?kK ?kd ?ku ?_; (case k4 => k_asm); (case k1 => first | k_asm | exact below_caller _); (case k2 => k_asm); (case k3 => k_asm); (case k5 => k_asm); (case kK => first | exact rfl | assumption); (case kd => decide); (case ku => first | decide | ktr_units)); intro bl9 bs9 kb9 R9 h6 tk6 F6 N6 hT8 hm8 hb8 hz8)
  k_with "call ref" => (k_here; (with_reducible show wpAny _ _ (call (Value.ref 91) [_, Value.int 5 _, _]) _ _ _); k_dflt (refine' triedTop hm7 hb7 hz8 hrun ?hs ?kk ?k1 ?k2 ?k3 ?k4 ?k5 ?kK ?kd ?ku ?_; (case k4 => k_asm); (case k1 => first | k_asm | exact below_caller _); (case k2 => k_asm); (case k3 => k_asm); (case k5 => k_asm); (case kK => first | exact rfl | assumption); (case kd => decide); (case ku => first | decide | ktr_units); (case hs => (intro p hp; (repeat (first | exact hp | apply List.mem_cons_of_mem)))); (case kk => first | exact .var | exact .lst | exact .con (by k_mem) (by k_mem) | exact .str (by k_mem))); intro fd6 us6 kf6 R6 h4 tk4 F4 N4 hs4 hm4 hi4)
  k_with "call ref" => (k_here; (with_reducible show wpAny _ _ (call (Value.ref 110) [_, Value.str (Str.ofString "const") _, _]) _ _ _); k_dflt (refine' readTop (law_read _ _ _ _ .con (fun h => nomatch h) n9 x9) hT7 hw9 ?hs ?k1 ?k2 ?k3 ?k4 ?k5 ?kK ?kd ?ku ?_; (case k4 => k_asm); (case k1 => first | k_asm | exact below_caller _); (case k2 => k_asm); (case k3 => k_asm); (case k5 => k_asm); (case kK => first | exact rfl | assumption); (case kd => decide); (case ku => first | decide | ktr_units); (case hs => (intro p hp; apply hs4; (repeat (first | exact hp | apply List.mem_cons_of_mem))))); intro fd5 us5 R5 h3 tk3 F3 N3 hs3 hm3 hi3)
  k_with "call ref" => (k_here; (with_reducible show wpAny _ _ (call (Value.ref 110) [_, Value.str (Str.ofString "struct") _, _]) _ _ _); k_dflt (refine' readTop (law_read _ _ _ _ .str (fun h => nomatch h) n9 x9) hT7 hw9 ?hs ?k1 ?k2 ?k3 ?k4 ?k5 ?kK ?kd ?ku ?_; (case k4 => k_asm); (case k1 => first | k_asm | exact below_caller _); (case k2 => k_asm); (case k3 => k_asm); (case k5 => k_asm); (case kK => first | exact rfl | assumption); (case kd => decide); (case ku => first | decide | ktr_units); (case hs => (intro p hp; apply hs4; (repeat (first | exact hp | apply List.mem_cons_of_mem))))); intro fd5 us5 R5 h3 tk3 F3 N3 hs3 hm3 hi3)
  k_with "call ref" => (k_here; (with_reducible show wpAny _ _ (call (Value.ref 110) [_, Value.str (Str.ofString "list") _, _]) _ _ _); k_dflt (refine' readTop (law_read _ _ _ _ .lst (fun h => nomatch h) n9 x9) hT7 hw9 ?hs ?k1 ?k2 ?k3 ?k4 ?k5 ?kK ?kd ?ku ?_; (case k4 => k_asm); (case k1 => first | k_asm | exact below_caller _); (case k2 => k_asm); (case k3 => k_asm); (case k5 => k_asm); (case kK => first | exact rfl | assumption); (case kd => decide); (case ku => first | decide | ktr_units); (case hs => (intro p hp; apply hs4; (repeat (first | exact hp | apply List.mem_cons_of_mem))))); intro fd5 us5 R5 h3 tk3 F3 N3 hs3 hm3 hi3)
  k_with "call ref" => (k_here; (with_reducible show wpAny _ _ (call (Value.ref 110) [_, Value.str (Str.ofString "var") _, _]) _ _ _); k_dflt (refine' readTop (law_read _ _ _ _ .var (fun h => nomatch h) n9 x9) hT7 hw9 ?hs ?k1 ?k2 ?k3 ?k4 ?k5 ?kK ?kd ?ku ?_; (case k4 => k_asm); (case k1 => first | k_asm | exact below_caller _); (case k2 => k_asm); (case k3 => k_asm); (case k5 => k_asm); (case kK => first | exact rfl | assumption); (case kd => decide); (case ku => first | decide | ktr_units); (case hs => (intro p hp; apply hs4; (repeat (first | exact hp | apply List.mem_cons_of_mem))))); intro fd5 us5 R5 h3 tk3 F3 N3 hs3 hm3 hi3)
  k_with "call ref" => (k_here; (with_reducible show wpAny _ _ (call (Value.ref 110) [_, Value.str (Str.ofString "const") _, _]) _ _ _); k_dflt (refine' readTop (law_read _ _ _ _ .con (fun h => nomatch h) (-1) x9) hT7 hw9 ?hs ?k1 ?k2 ?k3 ?k4 ?k5 ?kK ?kd ?ku ?_; (case k4 => k_asm); (case k1 => first | k_asm | exact below_caller _); (case k2 => k_asm); (case k3 => k_asm); (case k5 => k_asm); (case kK => first | exact rfl | assumption); (case kd => decide); (case ku => first | decide | ktr_units); (case hs => (intro p hp; apply hs4; (repeat (first | exact hp | apply List.mem_cons_of_mem))))); intro fd5 us5 R5 h3 tk3 F3 N3 hs3 hm3 hi3)
  k_with "compareOp NotEq ref ref" => (k_here; k_dflt (refine' ne_intsK (News.isList ?N ?m1) hi4 (News.isList ?N ?m2) hi3 ?u ?_; (case N => k_asm); (case m1 => exact hs3 _ hm4); (case m2 => exact hm3); (case u => first | decide | exact Nat.le_of_ble_eq_true rfl | (dsimp only [A9]; decide) | ktr_units)))
  k_with "call ref" => (k_here; (with_reducible show wpAny _ _ (call (Value.ref 136) [_, _]) _ _ _); k_dflt (first
    | (refine' refusedTop (B := .pro :: blockT x9) (k := .var) ?hm ?hb ?hz ⟨1, by decide, plain_spoiled _ _⟩ .var ?k1 ?k2 ?k3 ?k4 ?k5 ?kK ?kd ?ku ?_; (case k4 => k_asm); (case k1 => first | k_asm | exact below_caller _); (case k2 => k_asm); (case k3 => k_asm); (case k5 => k_asm); (case kK => first | exact rfl | assumption); (case kd => decide); (case ku => first | decide | ktr_units); (case hm => k_mem); (case hb => exact BIn.cons (.pro (by k_mem)) (hb7.mono (fun p hp => by (repeat (first | exact hp | apply List.mem_cons_of_mem))))); (case hz => (simp only [List.length_cons]; omega)))
    | (refine' refusedTop (B := [.try_ 11, .trust 0, .lab 11, .cal 1, .lab 0]) (k := .var) (bs := [_, _, _, _, _]) ?hm ?hb ?hz ⟨3, by decide, plain_small _⟩ .var ?k1 ?k2 ?k3 ?k4 ?k5 ?kK ?kd ?ku ?_; (case k4 => k_asm); (case k1 => first | k_asm | exact below_caller _); (case k2 => k_asm); (case k3 => k_asm); (case k5 => k_asm); (case kK => first | exact rfl | assumption); (case kd => decide); (case ku => first | decide | ktr_units); (case hm => k_mem); (case hb => exact BIn.cons (.try_ (by k_mem)) (.cons (.trust (by k_mem)) (.cons (.lab (by k_mem)) (.cons (.cal (by k_mem)) (.cons (.lab (by k_mem)) .nil))))); (case hz => exact Nat.le_of_ble_eq_true rfl))); intro h4 tk4 F4 N4)
  k_with "binaryOp Add ref ref" => (k_here; (rename News _ _ _ _ => kN); k_dflt (refine' kmk_add_lit (zs := _ :: bs9) ?F kN (News.isList kN ?m1) (News.isList kN ?m2) ?ee ?_ ?z; (case F => k_asm); (case m1 => k_mem); (case m2 => k_mem); (case ee => rfl); (case z => (show 1 + bs9.length ≤ PySem.sizeLine; rw [PySem.sizeLine_eq]; omega))); intro D8 h8 F8 N8 l8; (try k_lt l8))
  k_with "exec For Tuple Name" => (k_here; (rename Fr _ _ _ _ => lF'); (with_unfolding_all refine' For_turns lF' ?_; k_whole))
  k_with "pyIter ref" => (k_here; (with_reducible show wpAny _ _ (pyIter (Value.ref _)) (fun it s₂ => TurnsAt _ _ _ _ _ _ _ _ _ it s₂) _ _); (rename Fr _ _ _ _ => lF'); (rename News _ _ _ _ => lN'); (with_unfolding_all refine' iter_listTurns (vs := [_, _, _, _]) (by rfl) lF' lN' (by k_mem) (by rfl) (by rfl) ?_); clear lF'; intro i' l1; dsimp only [List.map])
  k_with "UnrEndW" => ((rename Fr _ _ _ _ => lF'); (rename News _ _ _ _ => lN'); (refine unrKeepW lF' lN' (.head _) (fun p hp => .tail _ hp) (by assumption) ⟨⟨?hlp, trivial⟩, ?_⟩); (case hlp => k_mem))
  k_with "isTrue Compare" => (k_here; (fail_if_success (rename InTest => x9)); refine' Mine.halt ?_)
  k_with "pyIter ref" => (k_here; (with_reducible show wpAny _ _ (pyIter (Value.ref _)) (fun it s₂ => LoopAtV _ _ _ _ _ _ _ _ _ it s₂) _ _); refine' Mine.halt ?_)
  refine Mine.hd ?_
  (k_go0; (all_goals try k_fold))
  (refine letE ?_); intro e9; (refine letA ?_); intro A9; (rename Fr _ _ _ _ => F8); (refine letM F8 ?_); clear F8; intro m9 F9
  k_steps
  unfold Mine.Halt
  rename Fr _ _ _ _ => kF
  rename News _ _ _ _ => kN
  k_dflt (refine' testJoinH false kF kN ?ka ?_)
  case ka =>
    have mk9 := InTest.mk
    obtain ⟨a9, l9, t9, e9, h8 | h8⟩ := wf3_kind hw9 hT9
    all_goals (
      subst e9
      k_steps
      rename Fr _ _ _ _ => kF
      rename News _ _ _ _ => kN
      exact ⟨by decide, _, _, rfl, kF, newsSub kN (fun p hp => .tail _ hp)⟩)
  intro h7 tk7 F7 N7
  clear kF kN
  k_steps
  unfold Mine.Halt
  rename Fr _ _ _ _ => kF
  rename News _ _ _ _ => kN
  with_unfolding_all refine' numLoop (vs := [_, _, _]) [Str.ofString "asked", Str.ofString "kind", Str.ofString "key"] (by rfl) ?hi kF kN ?turn ?done
  case hi => exact .cons _ _ (.cons _ _ (.cons _ _ .nil))
  case turn =>
    clear kF kN
    intro n9 t9 u9 h5 tk5 Rw hs5 F5 N5
    have hT7 := hT8.mono hs5
    have hm7 := hs5 _ hm8
    have hb7 := hb8.mono hs5
    clear hT8 hm8 hb8 hs5
    k_steps
    unfold Mine.Halt
    rename Fr _ _ _ _ => kF
    rename News _ _ _ _ => kN
    k_dflt (refine' testJoinH false kF kN ?ka ?_)
    case ka =>
      have mk9 := InTest.mk
      have hrun := plain hw9 (wf3 hw9) (Match.con4 n9)
      k_steps
      rename Fr _ _ _ _ => kF
      rename News _ _ _ _ => kN
      exact ⟨by simp, _, _, rfl, kF, newsSub kN (fun p hp => by (apply hs3; apply hs4; repeat (first | exact hp | apply List.mem_cons_of_mem)))⟩
    intro h7 tk7 F7 N7
    clear kF kN
    k_steps
    unfold Mine.Halt
    rename Fr _ _ _ _ => kF
    rename News _ _ _ _ => kN
    k_dflt (refine' testJoinH false kF kN ?ka ?_)
    case ka =>
      have mk9 := InTest.mk
      have hrun := plain hw9 (wf3 hw9) (Match.str0 n9)
      k_steps
      rename Fr _ _ _ _ => kF
      rename News _ _ _ _ => kN
      exact ⟨by simp, _, _, rfl, kF, newsSub kN (fun p hp => by (apply hs3; apply hs4; repeat (first | exact hp | apply List.mem_cons_of_mem)))⟩
    intro h7 tk7 F7 N7
    clear kF kN
    k_steps
    unfold Mine.Halt
    rename Fr _ _ _ _ => kF
    rename News _ _ _ _ => kN
    k_dflt (refine' testJoinH false kF kN ?ka ?_)
    case ka =>
      have mk9 := InTest.mk
      have hrun := plain hw9 (wf3 hw9) (Match.lst n9)
      k_steps
      rename Fr _ _ _ _ => kF
      rename News _ _ _ _ => kN
      exact ⟨by simp, _, _, rfl, kF, newsSub kN (fun p hp => by (apply hs3; apply hs4; repeat (first | exact hp | apply List.mem_cons_of_mem)))⟩
    intro h7 tk7 F7 N7
    clear kF kN
    k_steps
    unfold Mine.Halt
    rename Fr _ _ _ _ => kF
    rename News _ _ _ _ => kN
    k_dflt (refine' testJoinH false kF kN ?ka ?_)
    case ka =>
      have mk9 := InTest.mk
      have hrun := plain hw9 (wf3 hw9) (Match.var n9)
      k_steps
      rename Fr _ _ _ _ => kF
      rename News _ _ _ _ => kN
      exact ⟨by simp, _, _, rfl, kF, newsSub kN (fun p hp => by (apply hs3; apply hs4; repeat (first | exact hp | apply List.mem_cons_of_mem)))⟩
    intro h7 tk7 F7 N7
    clear kF kN
    k_steps
    rename Fr _ _ _ _ => kF
    rename News _ _ _ _ => kN
    refine numEnd kF kN (fun p hp => by (repeat (first | exact hp | apply List.mem_cons_of_mem))) ?_
    intro z h2 h3
    simp only [List.contains_cons, List.contains_nil, Bool.or_false, Bool.or_eq_false_iff, beq_eq_false_iff_ne, ne_eq] at h3
    simp [kstB, h2, h3]
  case done =>
    clear kF kN
    intro u9 h5 tk5 F5 N5
    have hT7 := hT8
    have hm7 := hm8
    have hb7 := hb8
    k_steps
    unfold Mine.Halt
    rename Fr _ _ _ _ => kF
    rename News _ _ _ _ => kN
    k_dflt (refine' testJoinH false kF kN ?ka ?_)
    case ka =>
      have mk9 := InTest.mk
      have hrun := plain hw9 (wf3 hw9) (Match.con5)
      k_steps
      rename Fr _ _ _ _ => kF
      rename News _ _ _ _ => kN
      exact ⟨by simp, _, _, rfl, kF, newsSub kN (fun p hp => by (apply hs3; apply hs4; repeat (first | exact hp | apply List.mem_cons_of_mem)))⟩
    intro h7 tk7 F7 N7
    clear kF kN
    have mk9 := InTest.mk
    k_steps
theorem law_holds : PySem.Challenge.rw_ok0004_01.Holds := by
  rw [rwq_eq]
  exact law_holdsQ
end Mine

set_option maxRecDepth 100000 in
theorem PySem.Challenge.cw_ok0004_01_holds : PySem.Challenge.rw_ok0004_01.Holds := by
  exact Mine.law_holds
