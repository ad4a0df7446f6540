import PyProof.Rows.All
import Wide.All
import OpenK.AllK
import Wide.FinOn
import PySem.Challenge.RW_endwise_k11_fits_found
import HandS.ForMost
import KE.GoesEnum
import HandS.RevTup
import HandS.Rev
import HandS.ExcOwn
import HandS.ExcIs
import HandS.HeadHook2
import KE.SortData
import HandS.Exc
import HandS.WordsExc
import HandS.CallSlots
import HandS.Walk
import HandS.Wide
import HandS.WideBits
import HandS.TupAny
import HandS.TupMul
import HandS.List
import HandS.Call
import KE.KxIndex
import KE.DataCmp
import HandS.Text
import KE.KEqDict
import HandS.Conv
import HandS.Small
import HandS.SetKeys
import KE.KDictSum
import KE.DataMinMax
import HandS.More
import HandS.Flow
import HandS.IsInst
import HandS.Zip
import HandS.RevRange
import HandS.TryOnly
import HandS.Finally
import HandS.SortKw
import HandS.Iter
import KE.KDictList
import HandS.Comp
import HandS.Defaults
import HandS.HeadEnd
import HandS.EndBits
import HandS.Words
import KE.KStateDown
import Lean
import HandS.Ends
import HandS.Head0
import HandS.Head1
import HandS.Head2
import HandS.HeadHook1
set_option Elab.async false
set_option linter.all false
set_option maxRecDepth 100000
-- part: EnumT
set_option maxHeartbeats 2000000
/-! enumerate(tuple); tuple(reversed(tuple)) -/
namespace EW
open PySem PySem.Spec PyProof.Rows L2
section
open Sem (wp)
open AutoSeq1 (wpAny_loadPart')
theorem meets_enumerate_newT {v : Value} {o : Obj} {H : Heap → Prop} (B : Begins v o H) :
    Meets (Builtin.«enumerate.__new__» ⟨[.type "enumerate", v], []⟩) (fun _ R s => H s.heap ∧
      R (.ok (.ret (.ref (s.heap.push o).objs.size))) { s with heap := (s.heap.push o).push { cls := .type "enumerate", data := .fields #[.none, .bool false, .ref s.heap.objs.size, rawInt 0, .none, .none] } }) :=
  .of_wp fun prog w A R s h => by
    obtain ⟨hp, g, d, tk, os⟩ := s; obtain ⟨h1, h⟩ := h
    have hsub := sub_enumerate
    have q1 : ∀ {A' : Around} {E : Value → Shared → Prop} {Q : Value → Shared → Prop}, Q (.ref hp.objs.size) ⟨hp.push o, g, d, tk, os⟩ → wpAny (model prog w) A' (pyIter v) Q E ⟨hp, g, d, tk, os⟩ :=
      fun q => B.iter prog w _ _ ⟨hp, g, d, tk, os⟩ _ h1 q
    wp_walk using q1
    refine wpAny_stack_any fun st => wpAny_pure ?_
    split
    · rename_i c _ _ _ _ _
      cases (c == Value.type "enumerate")
      · wp_walk using q1
        exact ⟨_, rfl, h⟩
      · wp_walk using q1
        exact ⟨_, rfl, h⟩
    · wp_walk using q1
      exact ⟨_, rfl, h⟩
end
section
variable {prog : Program} {w : World} {A : Around} {E : Value → Shared → Prop} {s : Shared}
theorem call_enumerate_tup {l : Addr} {items : Array Value} {Q : Value → Shared → Prop} (hL : s.heap.IsTuple l items)
    (h : ∀ h', IsEnum h' (s.heap.objs.size + 1) s.heap.objs.size 0 .none → h'.IsTupleIter s.heap.objs.size l 0 → h'.objs.size = s.heap.objs.size + 2 →
      (∀ b o, s.heap.get? b = some o → h'.get? b = some o) → Q (.ref (s.heap.objs.size + 1)) { s with heap := h' }) :
    wpAny (model prog w) A (call (.type "enumerate") [.ref l]) Q E s := by
  refine callType_new F.called_enumerate (by decide) (F.typeCall_enumerate_1 _) (F.newCall_enumerate_1 _) (fun obj => F.args_object_init_2 obj _) F.entry_enumerate_new
    (meets_enumerate_newT (begins_tuple l items)) ⟨hL, ?_⟩
  have hz : (s.heap.push { cls := .type "tuple_iterator", data := .fields #[.ref l, .int 0 0] }).objs.size = s.heap.objs.size + 1 := Heap.size_push ..
  show _ ∧ _
  rw [hz]
  have he : IsEnum ((s.heap.push { cls := .type "tuple_iterator", data := .fields #[.ref l, .int 0 0] }).push
      { cls := .type "enumerate", data := .fields #[.none, .bool false, .ref s.heap.objs.size, rawInt 0, .none, .none] }) (s.heap.objs.size + 1) s.heap.objs.size 0 .none := by
    have := Heap.get?_push_size (s.heap.push { cls := .type "tuple_iterator", data := .fields #[.ref l, .int 0 0] })
      (o := { cls := .type "enumerate", data := .fields #[.none, .bool false, .ref s.heap.objs.size, rawInt 0, .none, .none] }) rfl
    rw [hz] at this; exact this
  refine ⟨⟨_, he, rfl⟩, h _ he ⟨_, Heap.get?_push_of_some _ (Heap.get?_push_size _ rfl), rfl, rfl⟩ (by rw [Heap.size_push, hz]) fun b o x => Heap.get?_push_of_some _ (Heap.get?_push_of_some _ x)⟩
end
/-- the tuple at a, each item in a new pair -/
def IteT (K : PySem.W.Frag) (a : Addr) : It :=
  ⟨fun i H => ∃ (xs : List V) (x : V), SqT K H a xs ∧ xs[i]? = some x, fun i H v H' => ∃ T x, v = .ref T ∧ H T = none ∧ H' = upd H T (.tup [.int (i : Nat), x]) ∧ ∀ xs, SqT K H a xs → xs[i]? = some x, fun i H => ∃ xs : List V, SqT K H a xs ∧ xs.length = i⟩
theorem apart_it {h : Heap} {it a : Addr} {i : Nat} {vs : Array Value} (p : h.IsTupleIter it a i) (q : IsTup h a vs) : a ≠ it := fun e => by
  obtain ⟨o, h1, h2, _⟩ := p
  obtain ⟨o', h3, h4, _⟩ := q
  rw [e, h1] at h3
  cases h3
  rw [h2] at h4
  exact absurd (Value.type.inj h4) (by decide)
theorem turn_enumT {P : Program} {w : World} {K : PySem.W.Frag} {elts : List Expr} {kk : Nat} {tpos : Pos} (a e it : Addr) :
    Turn P w K (.Tuple elts kk tpos) (IteT K a) [e, it] e (fun i h => (∃ old, IsEnum h e it ((i : Nat) : Int) old) ∧ h.IsTupleIter it a i ∧ e ≠ it) where
  mem := by simp
  obj := fun i h st b hb => by
    obtain ⟨⟨old, he⟩, ⟨o, ho, hc, hd⟩, _⟩ := st
    have e' : b = e ∨ b = it := by simpa using hb
    rcases e' with z | z
    · rw [z]; exact ⟨_, he, fun v q => nomatch q⟩
    · rw [z]; exact ⟨o, ho, fun v q => by rw [hd] at q; cases q⟩
  keep := fun i h h' st k => let ⟨⟨old, he⟩, hi, hne⟩ := st; ⟨⟨old, k e (by simp) _ he⟩, hi.at fun o q => k it (by simp) o q, hne⟩
  item := by
    intro X hP hw hK hc i pins s σ H E I hf st hg
    subst hP hw hK
    obtain ⟨⟨old, he⟩, hit, hne⟩ := st
    obtain ⟨xs, x, hq, hx⟩ := hg
    obtain ⟨its, rv, p, hz⟩ := I.tuple hq
    obtain ⟨u, hu, ru⟩ := rv.get hx
    have hel : e < s.heap.objs.size := Heap.lt_size he
    have hil : it < s.heap.objs.size := by obtain ⟨_, q, _⟩ := hit; exact Heap.lt_size q
    have hat : a ≠ it := apart_it hit p
    have hae : a ≠ e := fun z => by
      obtain ⟨o', h3, h4, _⟩ := p
      rw [z, he] at h3
      cases h3
      exact absurd (Value.type.inj (show Value.type "enumerate" = .type "tuple" from h4)) (by decide)
    have hl : its.toArray.size = its.length := by simp
    have hilt : i < its.toArray.size := by
      have := (List.getElem?_eq_some_iff.mp hu).1
      rw [hl]
      exact this
    refine wpAny_pyNext_enum_itemD (Draws.tuple (A := X.A.in1) (show X.A.in1.handled = none from I.ok.hd hc) it a hat its.toArray) he ⟨hit, p⟩ hilt hne (by simp [hne, Ne.symm hae]) fun y h' tk hy ho hit' hT hsz hk => ?_
    have ey : y = u := by
      have : its.toArray[i]? = some u := by simpa using hu
      rw [this] at hy
      exact (Option.some.inj hy).symm
    subst ey
    refine ⟨_, rfl, wpAny_letOwnedTupleGo_enum (s := { s with heap := h', toks := tk + 1 }) ho fun h'' he' sb => ?_⟩
    have hT2 : h''.get? s.heap.objs.size = some { cls := .type "tuple", data := .seq #[.int i tk, y] } := (sb.2 _ (Nat.ne_of_gt hel)).trans hT
    have new : ObjOk X.prog X.w (upd H s.heap.objs.size (.tup [.int (i : Nat), x])) h'' s.heap.objs.size (.tup [.int (i : Nat), x]) :=
      ⟨by show 2 ≤ sizeLine; decide, [.int i tk, y], .cons ⟨_, rfl⟩ (.cons ru .nil), ⟨_, hT2, rfl, _, rfl⟩⟩
    have I1 : Inv X pins σ (upd H s.heap.objs.size (.tup [.int (i : Nat), x])) { s with heap := h'', toks := tk + 1 } :=
      I.turnedNew (ch := [e, it]) (fun b ob hb q => (sb.2 b (fun z => hb (by simp [z]))).trans (hk b ob (fun z => hb (by simp [z])) (fun z => hb (by simp [z])) q)) hf (Nat.le_refl _) new
    refine ⟨.ref s.heap.objs.size, _, I1, rfl, ⟨_, x, rfl, I.hok.fresh (Nat.le_refl _), rfl, fun ys hy => by rw [I.tuple_inj hy hq]; exact hx⟩, ⟨⟨y, ?_⟩, hit'.1.at fun o q => (sb.2 it (Ne.symm hne)).trans q, hne⟩, fun b hb => ?_⟩
    · have e1 : ((i + 1 : Nat) : Int) = (i : Int) + 1 := by omega
      rw [e1]; exact he'
    · have hb' : b < s.heap.objs.size := by
        have e' : b = e ∨ b = it := by simpa using hb
        rcases e' with z | z
        · rw [z]; exact hel
        · rw [z]; exact hil
      rw [upd_ne (Nat.ne_of_lt hb')]
      exact (hf b hb).1
  done := by
    intro X hP hw hK hc i pins s σ H E I hf st hg
    subst hP hw hK
    obtain ⟨⟨old, he⟩, hit, hne⟩ := st
    obtain ⟨xs, hq, hx⟩ := hg
    obtain ⟨its, rv, p, hz⟩ := I.tuple hq
    obtain ⟨f0, f1, f2, f3, f4, f5⟩ := hf it (by simp)
    have hl := rv.length
    have hat : a ≠ it := apart_it hit p
    have e2 : i = its.toArray.size := by simp; omega
    subst e2
    exact wpAny_pyNext_enum_endD (Draws.tuple (A := X.A.in1) (show X.A.in1.handled = none from I.ok.hd hc) it a hat its.toArray) he ⟨hit, p⟩ fun h' eb => ⟨rfl, I.turned (t' := s.toks) (fun b o hb q => eb b o hb q) f0 f1 f3 f4 f5⟩
  self := fun A i s Q E st h => let ⟨⟨_, he⟩, _⟩ := st; wpAny_pyIter_enum he h
def iEnumA (K : PySem.W.Frag) (ta : TA) : TI := fun σ H R => ta σ H fun vs H1 => ∃ a xs, vs = [.ref a] ∧ ((SqL K H1 a xs ∧ R (Ite K a) H1) ∨ (SqT K H1 a xs ∧ R (IteT K a) H1))
theorem pi_enumA {X : Cx} {e : Expr} {ta : TA} {p pos tpos : Pos} {elts : List Expr} {kk : Nat} (hg : Gl X "enumerate") (hm : X.mg "enumerate" = none) (ha : PA X [e] ta) (hs : starEach [e] X.env = [(false, eval e X.env)]) :
    PI X (.Tuple elts kk tpos) (.Call (.Name "enumerate" p) [e] [] pos) (iEnumA X.K ta) := by
  refine ⟨fun pins s σ H R I h => ?_⟩
  refine Call_ (ld_blt I hg hm boot_enumerate (PyProof.Rows.callWith_type1 (thn (ha.run pos pins s σ H _ I h) fun us s1 ⟨vs, H1, I1, r1, q1⟩ => ?_) hs rfl))
  obtain ⟨a, xs, ex, q1⟩ := q1
  subst ex
  cases r1 with
  | cons r rr =>
    cases rr
    cases r
    have fp : ∀ b, b ∈ [s1.heap.objs.size + 1, s1.heap.objs.size] → FpOk X pins H1 b := fun b hb => by
      have e' : b = s1.heap.objs.size + 1 ∨ b = s1.heap.objs.size := by simpa using hb
      have hle : s1.heap.objs.size ≤ b := by
        rcases e' with z | z
        · rw [z]; exact Nat.le_add_right _ _
        · rw [z]; exact Nat.le_refl _
      exact I1.fpOk hle (I1.hok.fresh hle)
    rcases q1 with ⟨hq, q⟩ | ⟨hq, q⟩
    · obtain ⟨its, rv, p', hz⟩ := I1.list hq
      refine call_enumerate_list p'.isList fun h' he hit hsz hk => wpAny_pyIter_enum he ?_
      have I2 : Inv X pins σ H1 { s1 with heap := h' } := I1.kept (t' := s1.toks) hk
      exact ⟨s1.heap.objs.size + 1, [s1.heap.objs.size + 1, s1.heap.objs.size], _, _, H1, rfl, I2, turn_enum a (s1.heap.objs.size + 1) s1.heap.objs.size, ⟨⟨.none, he⟩, hit, Nat.succ_ne_self _⟩, fp, q⟩
    · obtain ⟨its, rv, p', hz⟩ := I1.tuple hq
      refine call_enumerate_tup p' fun h' he hit hsz hk => wpAny_pyIter_enum he ?_
      have I2 : Inv X pins σ H1 { s1 with heap := h' } := I1.kept (t' := s1.toks) hk
      exact ⟨s1.heap.objs.size + 1, [s1.heap.objs.size + 1, s1.heap.objs.size], _, _, H1, rfl, I2, turn_enumT a (s1.heap.objs.size + 1) s1.heap.objs.size, ⟨⟨.none, he⟩, hit, Nat.succ_ne_self _⟩, fp, q⟩
end EW

-- part: ExnT
set_option maxHeartbeats 2000000
/-! a caught object, known -/
namespace EW
open PySem PySem.Spec PyProof.Rows L2
/-- a caught object at a, its class's object at C -/
def exT (C a : Addr) : HO := .ext fun h => ∃ (oe : Obj) (vs : Array Value), h.get? a = some oe ∧ Zc (.ref C) none oe ∧ oe.data = .fields vs
theorem exT_ok {P : Program} {w : World} {H : Hp} {h : Heap} {C a : Addr} {oe : Obj} {vs : Array Value} (e : h.get? a = some oe) (z : Zc (.ref C) none oe) (d : oe.data = .fields vs) : ObjOk P w H h a (exT C a) :=
  ⟨⟨oe, vs, e, z, d⟩, ⟨oe, e⟩, fun _ _ ⟨o, v, q, r⟩ k => ⟨o, v, k o q, r⟩⟩
section
variable {X : Cx} {pins : List (Addr × Obj)} {σ : L2.St} {H : Hp} {s : Shared}
/-- an object that no one tracked is tracked from now on -/
theorem track {C a : Addr} {oe : Obj} {vs : Array Value} (I : Inv X pins σ H s) (h0 : X.s_0.heap.get? a = none) (hn : H a = none) (hL : a ≠ X.env.locals) (hc : ∀ x c, X.env.cells.lookup x = some c → c ≠ a) (hp : ∀ p ∈ X.pn ++ pins, p.1 ≠ a)
    (e : s.heap.get? a = some oe) (z : Zc (.ref C) none oe) (d : oe.data = .fields vs) : Inv X pins σ (upd H a (exT C a)) s := by
  have ne : ∀ {b : Addr} {u : HO}, H b = some u → b ≠ a := fun {b u} q y => by
    rw [y, hn] at q
    cases q
  have B := I.base
  have W : Un X.fs X.ex X.H_0 (upd H a (exT C a)) X.s_0.heap s.heap := {
    keep := B.keep
    slot := B.slot
    free := fun b o q n hx => by
      rw [upd_ne fun y => by rw [y, h0] at q; cases q]
      exact B.free b o q n hx
    there := B.there
    tups := fun b xs q => by
      have r := B.tups b xs q
      rw [upd_ne (ne r)]
      exact r
    frzs := fun b o u q => by
      have r := B.frzs b o u q
      rw [upd_ne (ne r)]
      exact r
    tbls := fun b ps q => by
      obtain ⟨m, r⟩ := B.tbls b ps q
      exact ⟨m, by rw [upd_ne (ne r)]; exact r⟩ }
  refine ⟨I.ok, I.os, I.bare, W, I.loc, I.cell, ?_, fun x c q => ?_, fun p q => ?_, fun b u q => ?_, I.len⟩
  · rw [upd_ne (Ne.symm hL)]
    exact I.free
  · rw [upd_ne (hc x c q)]
    exact I.freeC x c q
  · obtain ⟨p1, p2, p3⟩ := I.pin p q
    exact ⟨p1, by rw [upd_ne (hp p q)]; exact p2, p3⟩
  · by_cases y : b = a
    · subst y
      rw [upd_same] at q
      cases q
      exact exT_ok e z d
    · rw [upd_ne y] at q
      exact (I.hok b u q).stay (fun _ _ _ r => r) (fun c r => by rw [upd_ne (ne r)]; exact r) fun c xs r => by rw [upd_ne (ne r)]; exact r
end
end EW

-- part: Mini
/-! Mini: a small interpreter for the Python of the program and of the laws. -/
namespace EW
open PySem

/-- data: never changed; ref: an object of the small heap; fz: the script (a list that nobody writes); exn: a caught refusal -/
inductive D where
  | non | bl (b : Bool) | int (i : Int) | str (x : Str) | tup (ds : List D) | ref (a : Nat) | fz (ds : List D) | exn (c : String)
  deriving Inhabited
inductive O where
  | lst (ds : List D) | dct (t : Bool) (kvs : List (D × D)) | ins (c : String) (fs : List (String × D)) | lkd (kvs : List (D × D))
/-- what is walked but no list: made by these calls -/
inductive I where
  | enumerate | zip | range | reversed | items | values
/-- what an expression gives: data; a new object that nobody else has; the object that the slot i alone has; a thing to be walked -/
inductive EV where
  | d (x : D) | o (x : O) | pl (i : Nat) | it (k : I) (vs : List EV)
/-- a local name: unset, data, an object that this name alone has -/
inductive Sl where
  | un | d (x : D) | o (x : O)
structure St where
  σ : List Sl
  h : List O
inductive Out (α : Type) where
  | ok (a : α) (st : St) | ex (c : String) (st : St) | bad
inductive OutC where
  | ok (v : EV) (h : List O) | ex (c : String) (h : List O) | bad
inductive Fl where
  | nx | rt (v : EV) | ct

inductive B where
  | len | max | min | sum | all | any | abs | int | str | tuple | list | sorted | divmod | repr | dict | set

inductive Tg where
  | v (i : Nat) | tup (ts : List Tg)
inductive E where
  | no
  | k (x : D) | v (i : Nat) | g (n : String) (x : D)
  | tup (es : List E) | lst (es : List E) | dct (t : Bool) (ks vs : List E)
  | bin (op : Operator) (a b : E) | neg (a : E) | not (a : E)
  | and (a b : E) | or (a b : E) | ife (c a b : E)
  | cmp (op : CmpOp) (a b : E) | chn (op op' : CmpOp) (a b c : E)
  | idx (a i : E) | sl (a lo hi : E)
  | fld (a : E) (f : String)
  | call (f : String) (es : List E)
  | new (c : String) (es : List E)
  | bi (b : B) (es : List E)
  | isi (a : E) (ts : List String)
  | meth (m : String) (o : E) (es : List E)
  | it (k : I) (es : List E)
  | lc (elt : E) (tg : Tg) (src : E) (cond : E)
  | trv (a : E)
  | sm (m : String) (o : E) (es : List E)
  | bid (e d : E)
  | lrv (a : E)
  | ext (o a : E)
  | lck (elt : E) (tg : Tg) (i : Nat)
  | mc (m : String) (o : E) (es : List E)
  | dcl (o : E)
inductive S where
  | pass | cont
  | asg (t : Tg) (e : E)
  | sub (o i e : E)
  | fld (o : E) (f : String) (e : E)
  | aug (i : Nat) (op : Operator) (e : E)
  | ex (e : E)
  | ret (e : E)
  | ife (c : E) (a b : List S)
  | whl (c : E) (b : List S)
  | for_ (t : Tg) (src : E) (b : List S)
  | rse (c : String)
  | tr (b : List S) (cs : List String) (i : Option Nat) (hb : List S)
  | fori (t : Tg) (i : Nat) (b : List S)
  | ford (t : Tg) (k : I) (i : Nat) (f : Option String) (b : List S)

/-- classes of one's own: what fields they have; a method's def; the def that makes an object; which stand above -/
structure ClT where
  fl : String → String → Bool := fun _ _ => false
  mt : String → String → Option String := fun _ _ => none
  nw : String → Option String := fun _ => none
  up : String → String → Option Bool := fun _ _ => none
structure Gam where
  call : String → List D → List O → OutC
  sub : String → String → Bool
  W : Nat
  cl : ClT := {}

/-! ### data -/
mutual
def D.toP : D → PyData
  | .non => .none | .bl b => .bool b | .int i => .int i | .str x => .str x | .tup ds => .tuple (D.toPs ds)
  | .ref _ => .none | .fz ds => .list (D.toPs ds) | .exn _ => .none
def D.toPs : List D → List PyData
  | [] => []
  | d :: ds => d.toP :: D.toPs ds
end
mutual
/-- nothing that could change, all texts sound -/
def D.pure : D → Bool
  | .non => true | .bl _ => true | .int _ => true | .str x => PyData.strOk x | .tup ds => D.pures ds
  | .ref _ => false | .fz _ => false | .exn _ => false
def D.pures : List D → Bool
  | [] => true
  | d :: ds => d.pure && D.pures ds
end
mutual
/-- all refs below n -/
def D.lt (n : Nat) : D → Bool
  | .non => true | .bl _ => true | .int _ => true | .str _ => true | .tup ds => D.lts n ds
  | .ref a => decide (a < n) | .fz ds => D.lts n ds | .exn _ => true
def D.lts (n : Nat) : List D → Bool
  | [] => true
  | d :: ds => d.lt n && D.lts n ds
end
def O.lt (n : Nat) : O → Bool
  | .lst ds => D.lts n ds
  | .dct _ kvs => kvs.all fun p => p.1.lt n && p.2.lt n
  | .ins _ fs => fs.all fun p => p.2.lt n
  | .lkd kvs => kvs.all fun p => p.1.lt n && p.2.lt n
def EV.lt (n : Nat) : EV → Bool
  | .d x => x.lt n | .o x => x.lt n | _ => false
def D.dep (d : D) : Nat := d.toP.depth
/-- Python's == of pure data -/
def deq (a b : D) : Bool := PyData.eqv a.toP b.toP

inductive Wv where
  | d (x : D) | o (x : O)
def rdD (h : List O) : D → Option Wv
  | .ref a => (h[a]?).map Wv.o
  | x => some (.d x)
def rd (st : St) : EV → Option Wv
  | .d x => rdD st.h x
  | .o x => some (.o x)
  | .pl i => match st.σ[i]? with
    | some (.o x) => some (.o x)
    | some (.d (.ref a)) => (st.h[a]?).map Wv.o
    | _ => none
  | .it _ _ => none

/-- the largest length of lists, tuples, texts that are made -/
def lim : Nat := 1000000
def strItems (x : Str) : List D := x.cps.toList.map fun c => .str ⟨#[c]⟩
def seqW : Wv → Option (List D)
  | .d (.tup ds) => some ds
  | .d (.fz ds) => some ds
  | .d (.str x) => some (strItems x)
  | .o (.lst ds) => some ds
  | _ => none
/-- .. no text -/
def seqL (w : Wv) : Option (List D) := match w with
  | .d (.str _) => none
  | w => seqW w
def truthW : Wv → Option Bool
  | .d .non => some false
  | .d (.bl b) => some b
  | .d (.int i) => some (i != 0)
  | .d (.str x) => if x.length ≤ lim then some (x.length != 0) else none
  | .d (.tup ds) => some (!ds.isEmpty)
  | .d (.fz ds) => some (!ds.isEmpty)
  | .o (.lst ds) => some (!ds.isEmpty)
  | _ => none
def intW : Wv → Option Int
  | .d (.int i) => some i
  | _ => none
def enumD : Nat → List D → List D
  | _, [] => []
  | n, d :: ds => .tup [.int n, d] :: enumD (n + 1) ds
def rangeD (lo : Int) : Nat → List D
  | 0 => []
  | n + 1 => .int lo :: rangeD (lo + 1) n
def rangeC (lo c : Int) : Nat → List D
  | 0 => []
  | n + 1 => .int lo :: rangeC (lo + c) c n
def Wv.isTup : Wv → Bool
  | .d (.tup _) => true | _ => false
/-- what is walked, item by item -/
def items (st : St) : EV → Option (List D)
  | .it .enumerate [a] => ((rd st a).bind seqL).map (enumD 0)
  | .it .zip [a, b] => match (rd st a).bind seqL, (rd st b).bind seqL with
    | some xs, some ys => if ((rd st a).map Wv.isTup == (rd st b).map Wv.isTup) = true then some (List.zipWith (fun x y => .tup [x, y]) xs ys) else none
    | _, _ => none
  | .it .range [a] => match (rd st a).bind intW with
    | some n => if n ≤ lim ∧ -lim ≤ n then some (rangeD 0 n.toNat) else none
    | _ => none
  | .it .range [a, b] => match (rd st a).bind intW, (rd st b).bind intW with
    | some lo, some hi => if -(2 ^ 60) ≤ lo ∧ lo ≤ 2 ^ 60 ∧ -(2 ^ 60) ≤ hi ∧ hi ≤ 2 ^ 60 then some (rangeD lo (hi - lo).toNat) else none
    | _, _ => none
  | .it .range [a, b, c] => match (rd st a).bind intW, (rd st b).bind intW, (rd st c).bind intW with
    | some lo, some hi, some s => if s = -1 ∧ -(2 ^ 60) ≤ lo ∧ lo ≤ 2 ^ 60 ∧ -(2 ^ 60) ≤ hi ∧ hi ≤ 2 ^ 60 then some (rangeC lo (-1) (lo - hi).toNat)
      else if s = 2 ∧ -(2 ^ 60) ≤ lo ∧ lo ≤ 2 ^ 60 ∧ -(2 ^ 60) ≤ hi ∧ hi ≤ 2 ^ 60 then some (rangeC lo 2 ((hi - lo + 1) / 2).toNat) else none
    | _, _, _ => none
  | .it .reversed [a] => match rd st a with
    | some (.d (.tup ds)) => some ds.reverse
    | some (.o (.lst ds)) => some ds.reverse
    | _ => none
  | .it .items [a] => match rd st a with
    | some (.o (.dct _ kvs)) => some (kvs.map fun p => .tup [p.1, p.2])
    | _ => none
  | .it .values [a] => match rd st a with
    | some (.o (.dct _ kvs)) => some (kvs.map (·.2))
    | _ => none
  | .it _ _ => none
  | v => (rd st v).bind seqW
/-- the slots that a walked thing leans on -/
def EV.pls : EV → List Nat
  | .pl i => [i]
  | .it _ vs => vs.flatMap fun
    | .pl i => [i]
    | _ => []
  | _ => []

/-! ### operators -/
def binW (op : Operator) : Wv → Wv → Option EV
  | .d (.int i), .d (.int j) => match op with
    | .Add => some (.d (.int (i + j)))
    | .Sub => some (.d (.int (i - j)))
    | .Mult => if i.natAbs.log2 + j.natAbs.log2 < 130000000 then some (.d (.int (i * j))) else none
    | .FloorDiv => if 0 < j ∧ j.natAbs.log2 < 9000 then some (.d (.int (i / j))) else none
    | .Mod => if 0 < j then some (.d (.int (i % j))) else none
    | .Pow => if 0 ≤ j ∧ j ≤ 1000000 ∧ i.natAbs < 2 ^ 64 then some (.d (.int (i ^ j.toNat))) else none
    | .LShift => if 0 ≤ j ∧ j ≤ 1000000 ∧ i.natAbs < 2 ^ 64 then some (.d (.int (i * 2 ^ j.toNat))) else none
    | _ => none
  | .d (.str x), .d (.str y) => match op with
    | .Add => if x.length + y.length ≤ lim then some (.d (.str (x ++ y))) else none
    | _ => none
  | .d (.tup x), .d (.tup y) => match op with
    | .Add => if x.length + y.length ≤ lim then some (.d (.tup (x ++ y))) else none
    | _ => none
  | .o (.lst x), .o (.lst y) => match op with
    | .Add => if x.length + y.length ≤ lim then some (.o (.lst (x ++ y))) else none
    | _ => none
  | .d (.tup x), .d (.int k) => match op with
    | .Mult => if k = 1 then some (.d (.tup x)) else if x ≠ [] ∧ 2 ≤ k ∧ k ≤ 1000 ∧ x.length ≤ 1000 then some (.d (.tup (List.replicate k.toNat x).flatten)) else none
    | _ => none
  | .o (.lst x), .d (.int k) => match op with
    | .Mult => if -1000000 ≤ k ∧ k ≤ 1000000 ∧ x.length * k.toNat ≤ lim then some (.o (.lst (List.replicate k.toNat x).flatten)) else none
    | _ => none
  | .d (.str x), .d (.int k) => match op with
    | .Mult => if x.length ≤ 16 ∧ 0 ≤ k ∧ k ≤ 60000 then some (.d (.str (Txt.mul x k))) else none
    | _ => none
  | .d (.fz x), .o (.lst y) => match op with
    | .Add => if x.length + y.length ≤ lim then some (.o (.lst (x ++ y))) else none
    | _ => none
  | _, _ => none
/-- the deepest data that == and < look at -/
def deepest : Nat := 150
def Wv.pure : Wv → Bool
  | .d x => x.pure | .o (.lst ds) => D.pures ds | .o _ => false
def Wv.toP : Wv → PyData
  | .d x => x.toP | .o (.lst ds) => .list (D.toPs ds) | .o _ => .none
/-- a key: a number, a text; a tuple of these -/
def fkey : D → Option (Int ⊕ Str)
  | .int i => some (.inl i)
  | .str x => some (.inr x)
  | _ => none
def fkeys : List D → Option (List (Int ⊕ Str))
  | [] => some []
  | d :: ds => match fkey d, fkeys ds with
    | some k, some ks => some (k :: ks)
    | _, _ => none
def tkey : D → Option (List (Int ⊕ Str))
  | .tup ds => fkeys ds
  | _ => none
def kkey (t : Bool) (d : D) : Option (List (Int ⊕ Str)) := if t = true then tkey d else (fkey d).map fun k => [k]
/-- where a key stands -/
def dget (t : Bool) (kvs : List (D × D)) (k : D) : Option D := (kvs.find? fun p => decide (kkey t p.1 = kkey t k)).map (·.2)
/-- dicts with the same keys, equal values -/
def dEq (xs ys : List (D × D)) : Bool := decide (xs.length = ys.length) && xs.all fun p => match dget false ys p.1 with
  | some y => p.2.pure && y.pure && decide (p.2.toP.depth ≤ 140) && PyData.eqv p.2.toP y.toP
  | none => false
def eqW : Wv → Wv → Option Bool
  | .d (.int i), .d (.int j) => some (i == j)
  | .d (.str x), .d (.str y) => some (x == y)
  | .o (.lst xs), .o (.lst []) => some xs.isEmpty
  | .o (.dct false xs), .o (.dct false ys) => if dEq xs ys = true then some true else none
  | a, b => if a.pure && b.pure && decide (min a.toP.depth b.toP.depth ≤ deepest) then some (PyData.eqv a.toP b.toP) else none
def Wv.isSeq : Wv → Bool
  | .d (.tup _) => true | .o (.lst _) => true | _ => false
def ltW : Wv → Wv → Option Bool
  | .d (.int i), .d (.int j) => some (decide (i < j))
  | .d (.str x), .d (.str y) => some (decide (x.cps.toList < y.cps.toList))
  | a, b => if a.pure && b.pure && a.isSeq && W.alike a.toP b.toP && decide (min a.toP.depth b.toP.depth ≤ deepest) then some (W.dataLt a.toP b.toP) else none
def dput (t : Bool) (kvs : List (D × D)) (k v : D) : List (D × D) := if (kvs.any fun p => decide (kkey t p.1 = kkey t k)) = true then kvs.map fun p => if kkey t p.1 = kkey t k then (p.1, v) else p else kvs ++ [(k, v)]
/-- what sorted takes: alike tuples with an item at least, or alike others -/
def sortOk (ds : List D) : Bool := D.pures ds && (ds.all fun a => ds.all fun b => W.alike a.toP b.toP) && (ds.all (fun d => match d with | .tup (_ :: _) => true | _ => false) || ds.all (fun d => match d with | .int _ => true | .str _ => true | _ => false)) && (ds.all fun d => decide (d.toP.depth ≤ deepest)) && decide (ds.length ≤ 1000000)
def sortD (ds : List D) : List D := ds.mergeSort fun a b => !W.dataLt b.toP a.toP
def inW : Wv → Wv → Option Bool
  | .d (.str x), .d (.str y) => some (!(Builtin.Str.occurrences y x 0 y.length 1).isEmpty)
  | .d k, .o (.dct t kvs) => if (kkey t k).isSome = true then some (dget t kvs k).isSome else none
  | .d k, .o (.lkd kvs) => if (kkey false k).isSome = true then some (dget false kvs k).isSome else none
  | a, .d (.tup ds) => if a.pure && D.pures ds && decide (a.toP.depth ≤ deepest) then some (ds.any fun y => PyData.eqv y.toP a.toP) else none
  | a, .o (.lst ds) => if a.pure && D.pures ds && decide (a.toP.depth ≤ deepest) then some (ds.any fun y => PyData.eqv y.toP a.toP) else none
  | _, _ => none
def Wv.isNon : Wv → Bool
  | .d .non => true | _ => false
def cmpW (op : CmpOp) (a b : Wv) : Option Bool := match op with
  | .Eq => eqW a b
  | .NotEq => (eqW a b).map (!·)
  | .Lt => ltW a b
  | .Gt => ltW b a
  | .LtE => (ltW b a).map (!·)
  | .GtE => (ltW a b).map (!·)
  | .In => inW a b
  | .NotIn => (inW a b).map (!·)
  | .Is => match b with
    | .d .non => some a.isNon
    | _ => none
  | .IsNot => match b with
    | .d .non => some (!a.isNon)
    | _ => none
/-- classes that are none of refusals -/
def basicT (t : String) : Bool := t == "int" || t == "bool" || t == "str" || t == "tuple" || t == "list" || t == "dict"
def isiW (sub : String → String → Bool) (up : String → String → Option Bool) (w : Wv) (t : String) : Option Bool := match w with
  | .d .non => some false
  | .d (.bl _) => some (t == "bool" || t == "int")
  | .d (.int _) => some (t == "int")
  | .d (.str _) => some (t == "str")
  | .d (.tup _) => some (t == "tuple")
  | .d (.fz _) => some (t == "list")
  | .d (.exn c) => if sub c c = true ∧ basicT t = false then some (sub c t) else none
  | .o (.lst _) => some (t == "list")
  | .o (.dct b _) => if b = true then none else some (t == "dict")
  | .o (.ins c _) => if basicT t = false then up c t else none
  | .o (.lkd _) => none
  | .d (.ref _) => none

def idxW : Wv → Wv → Option D
  | .d (.tup ds), .d (.int i) => L2.atI ds i
  | .d (.fz ds), .d (.int i) => L2.atI ds i
  | .o (.lst ds), .d (.int i) => L2.atI ds i
  | .d (.str x), .d (.int i) => if x.length ≤ lim then (L2.atI x.cps.toList i).map fun c => .str ⟨#[c]⟩ else none
  | .o (.dct t kvs), .d k => if (kkey t k).isSome = true then dget t kvs k else none
  | .o (.lkd kvs), .d k => if (kkey false k).isSome = true then dget false kvs k else none
  | _, _ => none
def cut {α : Type} (xs : List α) (lo hi : Option Int) : List α :=
  (xs.drop (HT.sIx xs.length 0 lo)).take (HT.sIx xs.length xs.length hi - HT.sIx xs.length 0 lo)
def slW (w : Wv) (lo hi : Option Int) : Option EV := match w with
  | .d (.tup ds) => some (.d (.tup (cut ds lo hi)))
  | .d (.fz ds) => some (.o (.lst (cut ds lo hi)))
  | .o (.lst ds) => some (.o (.lst (cut ds lo hi)))
  | .d (.str x) => if x.length ≤ lim then some (.d (.str ⟨(cut x.cps.toList lo hi).toArray⟩)) else none
  | _ => none

/-! ### built-in calls -/
def sumD : Int → List D → Option Int
  | a, [] => some a
  | a, .int i :: r => sumD (a + i) r
  | _, _ => none
def boolsD : List D → Option (List Bool)
  | [] => some []
  | .bl b :: r => (boolsD r).map (b :: ·)
  | _ => none
def intsD : List D → Option (List Int)
  | [] => some []
  | .int i :: r => (intsD r).map (i :: ·)
  | _ => none
def strsD : List D → Option (List Str)
  | [] => some []
  | .str i :: r => (strsD r).map (i :: ·)
  | _ => none
def maxI : Int → List Int → Int
  | a, [] => a
  | a, b :: r => maxI (if a < b then b else a) r
def biS (b : B) (st : St) (vs : List EV) : Option EV := match b, vs with
  | .len, [v] => match rd st v with
    | some (.d (.tup ds)) => some (.d (.int ds.length))
    | some (.d (.fz ds)) => some (.d (.int ds.length))
    | some (.d (.str x)) => if x.length ≤ lim then some (.d (.int x.length)) else none
    | some (.o (.lst ds)) => some (.d (.int ds.length))
    | some (.o (.dct false kvs)) => some (.d (.int kvs.length))
    | _ => none
  | .max, [v] => match (rd st v) with
    | some (.o (.lst ds)) => match intsD ds with
      | some (i :: r) => some (.d (.int (maxI i r)))
      | _ => none
    | _ => none
  | .max, [v, u] => match (rd st v).bind intW, (rd st u).bind intW with
    | some i, some j => some (.d (.int (if j > i then j else i)))
    | _, _ => none
  | .min, [v, u] => match (rd st v).bind intW, (rd st u).bind intW with
    | some i, some j => some (.d (.int (if j < i then j else i)))
    | _, _ => none
  | .sum, [v] => match (rd st v) with
    | some (.o (.lst ds)) => (sumD 0 ds).map fun i => .d (.int i)
    | _ => none
  | .all, [v] => match (rd st v) with
    | some (.o (.lst ds)) => (boolsD ds).map fun bs => .d (.bl (bs.all id))
    | _ => none
  | .any, [v] => match (rd st v) with
    | some (.o (.lst ds)) => (boolsD ds).map fun bs => .d (.bl (bs.any id))
    | _ => none
  | .int, [v] => match rd st v with
    | some (.d (.int i)) => some (.d (.int i))
    | some (.d (.bl b)) => some (.d (.int (if b then 1 else 0)))
    | some (.d (.str x)) => if x.length ≤ 640 then (PySem.intText? x).map fun i => .d (.int i) else none
    | _ => none
  | .str, [v] => match rd st v with
    | some (.d (.int i)) => if i.natAbs.log2 < 1000 then some (.d (.str (Str.ofString (toString i)))) else none
    | _ => none
  | .tuple, [v] => match v, items st v with
    | .it .reversed _, some ds => some (.d (.tup ds))
    | .it _ _, _ => none
    | _, some ds => match rd st v with
      | some (.o (.lst _)) => some (.d (.tup ds))
      | some (.d (.tup _)) => some (.d (.tup ds))
      | _ => none
    | _, none => none
  | .list, [v] => match v, items st v with
    | .it _ _, _ => none
    | _, some ds => match rd st v with
      | some (.o (.lst _)) => some (.o (.lst ds))
      | some (.d (.tup _)) => some (.o (.lst ds))
      | some (.d (.fz _)) => some (.o (.lst ds))
      | _ => none
    | _, none => match rd st v with
      | some (.o (.dct false kvs)) => if kvs.length ≤ lim then some (.o (.lst (kvs.map (·.1)))) else none
      | _ => none
  | .sorted, [v] => match rd st v with
    | some (.o (.lst ds)) => if sortOk ds = true then some (.o (.lst (sortD ds))) else none
    | some (.o (.dct true kvs)) => if sortOk (kvs.map (·.1)) = true ∧ kvs.length ≤ lim then some (.o (.lst (sortD (kvs.map (·.1))))) else none
    | _ => none
  | .divmod, [v, u] => match (rd st v).bind intW, (rd st u).bind intW with
    | some i, some j => if 0 < j ∧ Builtin.Int.intBits i ≤ Builtin.Int.intBits j + 4000 then some (.d (.tup [.int (i / j), .int (i % j)])) else none
    | _, _ => none
  | .dict, [v] => match rd st v with
    | some (.o (.dct false kvs)) => some (.o (.dct false kvs))
    | _ => none
  | _, _ => none

/-! ### the state -/
def St.set (st : St) (i : Nat) (s : Sl) : St := { st with σ := st.σ.set i s }
/-- what stands in the heap from now on -/
def toD (v : EV) (st : St) : Option (D × St) := match v with
  | .d x => some (x, st)
  | .o x => some (.ref st.h.length, { st with h := st.h ++ [x] })
  | .pl i => match st.σ[i]? with
    | some (.o x) => some (.ref st.h.length, { σ := st.σ.set i (.d (.ref st.h.length)), h := st.h ++ [x] })
    | some (.d x) => some (x, st)
    | _ => none
  | .it _ _ => none
def toDs : List EV → St → Option (List D × St)
  | [], st => some ([], st)
  | v :: vs, st => match toD v st with
    | some (x, st1) => match toDs vs st1 with
      | some (xs, st2) => some (x :: xs, st2)
      | none => none
    | none => none
/-- x = v -/
def put (i : Nat) (v : EV) (st : St) : Option St := match v with
  | .d x => some (st.set i (.d x))
  | .o x => some (st.set i (.o x))
  | .pl j => match toD (.pl j) st with
    | some (x, st1) => some (st1.set i (.d x))
    | none => none
  | .it _ _ => none
mutual
def bindD : Tg → D → St → Option St
  | .v i, x, st => some (st.set i (.d x))
  | .tup ts, .tup ds, st => bindDs ts ds st
  | .tup _, _, _ => none
def bindDs : List Tg → List D → St → Option St
  | [], [], st => some st
  | t :: ts, d :: ds, st => match bindD t d st with
    | some st1 => bindDs ts ds st1
    | none => none
  | _, _, _ => none
end
def bindV (t : Tg) (v : EV) (st : St) : Option St := match t with
  | .v i => put i v st
  | .tup ts => match rd st v with
    | some (.d (.tup ds)) => bindDs ts ds st
    | some (.o (.lst ds)) => bindDs ts ds st
    | _ => none
mutual
def Tg.vars : Tg → List Nat
  | .v i => [i]
  | .tup ts => Tg.varss ts
def Tg.varss : List Tg → List Nat
  | [] => []
  | t :: ts => t.vars ++ Tg.varss ts
end
mutual
/-- the slots that code stores to -/
def S.asgs : S → List Nat
  | .asg t _ => t.vars
  | .aug i _ _ => [i]
  | .ife _ a b => S.asgss a ++ S.asgss b
  | .whl _ b => S.asgss b
  | .for_ t _ b => t.vars ++ S.asgss b
  | .tr b _ i hb => S.asgss b ++ (match i with | some j => [j] | none => []) ++ S.asgss hb
  | .fori t _ b => t.vars ++ S.asgss b
  | .ford t _ _ _ b => t.vars ++ S.asgss b
  | _ => []
def S.asgss : List S → List Nat
  | [] => []
  | s :: r => s.asgs ++ S.asgss r
end
/-- an object is changed where it stands -/
def change (v : EV) (f : O → Option (O × EV)) (st : St) : Option (EV × St) := match v with
  | .pl i => match st.σ[i]? with
    | some (.o x) => match f x with
      | some (y, r) => some (r, st.set i (.o y))
      | none => none
    | some (.d (.ref a)) => match st.h[a]? with
      | some x => match f x with
        | some (y, r) => some (r, { st with h := st.h.set a y })
        | none => none
      | none => none
    | _ => none
  | .d (.ref a) => match st.h[a]? with
    | some x => match f x with
      | some (y, r) => some (r, { st with h := st.h.set a y })
      | none => none
    | none => none
  | _ => none
/-- methods that change a list or dict; their arguments are data -/
def mutO (m : String) (ds : List D) : O → Option (O × EV)
  | .lst xs => match m, ds with
    | "append", [x] => if xs.length < lim then some (.lst (xs ++ [x]), .d .non) else none
    | "clear", [] => some (.lst [], .d .non)
    | "pop", [] => match xs.getLast? with
      | some y => some (.lst xs.dropLast, .d y)
      | none => none
    | "insert", [.int i, x] => if xs.length < lim ∧ 0 ≤ i ∧ i ≤ lim then some (.lst (xs.take i.toNat ++ x :: xs.drop i.toNat), .d .non) else none
    | _, _ => none
  | .dct t kvs => match m, ds with
    | "get", [k, x] => if (kkey t k).isSome = true then some (.dct t kvs, .d ((dget t kvs k).getD x)) else none
    | "setdefault", [k, x] => if t = false ∧ (kkey t k).isSome = true ∧ kvs.length < lim then match dget t kvs k with
      | some v => some (.dct t kvs, .d v)
      | none => some (.dct t (dput t kvs k x), .d x)
      else none
    | _, _ => none
  | _ => none
/-- whose method that is -/
def methOk (m : String) (n : Nat) : Wv → Bool
  | .o (.lst _) => m == "append" || m == "clear" || (m == "pop" && n == 0) || m == "insert"
  | .o (.dct _ _) => m == "get" || m == "setdefault"
  | _ => false
/-- methods of a text -/
def smS (m : String) (x : Str) (st : St) (vs : List EV) : Option EV := match m, vs with
  | "find", [v] => match rd st v with
    | some (.d (.str y)) => some (.d (.int (Txt.find x y)))
    | _ => none
  | "join", [v] => match rd st v with
    | some (.o (.lst ds)) => (strsD ds).bind fun ys => if (ys.map (·.length)).sum + ys.length * x.length ≤ lim then some (.d (.str (Txt.join x ys))) else none
    | _ => none
  | "upper", [] => if x.length ≤ lim then some (.d (.str (Txt.upper x))) else none
  | _, _ => none

/-! ### the interpreter -/
def Out.bind {α β : Type} (o : Out α) (f : α → St → Out β) : Out β := match o with
  | .ok a st => f a st | .ex c st => .ex c st | .bad => .bad
def Out.of {α : Type} (st : St) : Option α → Out α
  | some a => .ok a st | none => .bad
@[simp] theorem Out.bind_ok {α β : Type} (a : α) (st : St) (f : α → St → Out β) : (Out.ok a st).bind f = f a st := rfl
@[simp] theorem Out.bind_ex {α β : Type} (c : String) (st : St) (f : α → St → Out β) : (Out.ex c st : Out α).bind f = .ex c st := rfl
@[simp] theorem Out.bind_bad {α β : Type} (f : α → St → Out β) : (Out.bad : Out α).bind f = .bad := rfl
@[simp] theorem Out.of_some {α : Type} (a : α) (st : St) : Out.of st (some a) = .ok a st := rfl
@[simp] theorem Out.of_none {α : Type} (st : St) : Out.of st (none : Option α) = .bad := rfl
/-- keys and values, one behind the other -/
def pairUp : List D → Option (List (D × D))
  | [] => some []
  | k :: v :: r => if (fkey k).isSome = true then (pairUp r).map ((k, v) :: ·) else none
  | _ => none
def dputs (acc : List (D × D)) (prs : List (D × D)) : List (D × D) := prs.foldl (fun a p => dput false a p.1 p.2) acc
/-- {k: v, ..} -/
def mkDct (t : Bool) (ds : List D) : Option O := match ds with
  | [] => some (.dct t [])
  | ds => if t = false ∧ ds.length ≤ 30 then (pairUp ds).map fun prs => .dct false (dputs [] prs) else none
/-- one value and its state -/
def Out.of2 {α : Type} : Option (α × St) → Out α
  | some (a, st) => .ok a st | none => .bad
@[simp] theorem Out.of2_some {α : Type} (a : α) (st : St) : Out.of2 (some (a, st)) = .ok a st := rfl
@[simp] theorem Out.of2_none {α : Type} : Out.of2 (none : Option (α × St)) = .bad := rfl
/-- a refusal inside a comprehension is not carried -/
def Out.tame {α : Type} : Out α → Out α
  | .ok a st => .ok a st | _ => .bad
@[simp] theorem Out.tame_ok {α : Type} (a : α) (st : St) : (Out.ok a st).tame = .ok a st := rfl

/-- the back call's end in the caller -/
def OutC.out (st : St) : OutC → Out EV
  | .ok v h => .ok v { st with h := h } | .ex c h => .ex c { st with h := h } | .bad => .bad
@[simp] theorem OutC.out_ok (st : St) (v : EV) (h : List O) : (OutC.ok v h).out st = .ok v { st with h := h } := rfl
@[simp] theorem OutC.out_ex (st : St) (c : String) (h : List O) : (OutC.ex c h).out st = .ex c { st with h := h } := rfl

/-- d.clear() -/
def clrO : O → Option (O × EV)
  | .dct false _ => some (.dct false [], .d .non)
  | _ => none
/-- the end of C(..)'s __init__ -/
def newOut (st : St) : OutC → Out EV
  | .ok (.d .non) h => .ok (.d (.ref st.h.length)) { st with h := h }
  | .ex c h => .ex c { st with h := h }
  | _ => .bad
/-- the comprehension's own names come and go -/
def wipeS (σ : List Sl) : List Nat → List Sl
  | [] => σ
  | i :: is => (wipeS σ is).set i .un
open Classical in
/-- the turns of a comprehension: stay: the walked thing is as it was -/
noncomputable def lcL (stay : St → Prop) (tg : Tg) (test : St → Out Bool) (elt : St → Out EV) : List D → List D → St → Out (List D)
  | [], acc, st => if stay st then .ok acc st else .bad
  | x :: xs, acc, st => if stay st then match bindD tg x { st with σ := wipeS st.σ tg.vars } with
      | none => .bad
      | some st1 => (test st1).bind fun b st2 => if b = true then (elt st2).bind fun v st3 => (Out.of2 (toD v st3)).bind fun y st4 => lcL stay tg test elt xs (acc ++ [y]) st4
        else lcL stay tg test elt xs acc st2
    else .bad
def backS (σ σ0 : List Sl) : List Nat → List Sl
  | [] => σ
  | i :: is => (backS σ σ0 is).set i (σ0.getD i .un)

def optInt (o : Option Wv) : Option (Option Int) := match o with
  | some (.d (.int i)) => some (some i)
  | _ => none

/-- what stands without refs, for a while alone -/
def Sl.bare : Sl → Bool
  | .un => true
  | .d x => x.lt 0
  | .o x => x.lt 0
def maskS (σ : List Sl) : List Sl := σ.map fun s => if s.bare = true then s else .un
def unmS : List Sl → List Sl → List Sl
  | s :: r, t :: q => (if s.bare = true then t else s) :: unmS r q
  | _, _ => []
/-- the slots that are laid aside -/
def asideB (σ : List Sl) (j : Nat) : Bool := match σ[j]? with
  | some s => !s.bare
  | none => false
/-- .. nor slot i -/
def maskI (i : Nat) (σ : List Sl) : List Sl := (maskS σ).set i .un
/-- the keys of the dict that a name has -/
def keysAt (st : St) (i : Nat) : Option (List D) := match st.σ[i]? with
  | some (.o (.dct false kvs)) => some (kvs.map (·.1))
  | some (.d (.ref a)) => match st.h[a]? with
    | some (.dct false kvs) => some (kvs.map (·.1))
    | _ => none
  | _ => none
open Classical in
/-- what a comprehension over a locked dict leaves: m is the state that it ran in -/
noncomputable def lckEnd (st : St) (m : List Sl) (vs : List Nat) : Out (List D) → Out EV
  | .ok ys st2 => if st2.h = [] ∧ backS st2.σ m vs = m then .ok (.o (.lst ys)) st else .bad
  | _ => .bad
mutual
noncomputable def ev (G : Gam) : E → St → Out EV
  | .no, st => .bad
  | .k x, st => .ok (.d x) st
  | .g _ x, st => .ok (.d x) st
  | .v i, st => match st.σ[i]? with
    | some (.d x) => .ok (.d x) st
    | some (.o _) => .ok (.pl i) st
    | _ => .bad
  | .tup es, st => (evs G es st).bind fun vs st1 => (Out.of2 (toDs vs st1)).bind fun ds st2 => if ds.length ≤ lim then .ok (.d (.tup ds)) st2 else .bad
  | .lst es, st => (evs G es st).bind fun vs st1 => (Out.of2 (toDs vs st1)).bind fun ds st2 => if ds.length ≤ lim then .ok (.o (.lst ds)) st2 else .bad
  | .dct t es _, st => (evs G es st).bind fun rs st1 => (Out.of2 (toDs rs st1)).bind fun ds st2 => match mkDct t ds with
    | some o => .ok (.o o) st2
    | none => .bad
  | .bid e d, st => (ev G e st).bind fun v st1 => (ev G d st1).bind fun u st2 => match rd st2 v, (rd st2 u).bind intW with
    | some (.o (.lst ds)), some i => match intsD ds with
      | some [] => .ok (.d (.int i)) st2
      | some (j :: r) => .ok (.d (.int (maxI j r))) st2
      | none => .bad
    | _, _ => .bad
  | .ext o a, st => (ev G o st).bind fun vo st1 => match rd st1 vo with
    | some (.o (.lst _)) => (ev G a st1).bind fun va st2 => match rd st2 va with
      | some (.o (.lst ys)) => Out.of2 (change vo (fun x => match x with
        | .lst xs => if xs.length + ys.length ≤ lim then some (.lst (xs ++ ys), .d .non) else none
        | _ => none) st2)
      | _ => .bad
    | _ => .bad
  | .bin op a b, st => (ev G a st).bind fun va st1 => (ev G b st1).bind fun vb st2 => match rd st2 va, rd st2 vb with
    | some wa, some wb => Out.of st2 (binW op wa wb)
    | _, _ => .bad
  | .neg a, st => (ev G a st).bind fun va st1 => match (rd st1 va).bind intW with
    | some i => .ok (.d (.int (-i))) st1
    | none => .bad
  | .not a, st => (ev G a st).bind fun va st1 => match (rd st1 va).bind truthW with
    | some b => .ok (.d (.bl (!b))) st1
    | none => .bad
  | .and a b, st => (ev G a st).bind fun va st1 => match (rd st1 va).bind truthW with
    | some true => ev G b st1
    | some false => .ok va st1
    | none => .bad
  | .or a b, st => (ev G a st).bind fun va st1 => match (rd st1 va).bind truthW with
    | some false => ev G b st1
    | some true => .ok va st1
    | none => .bad
  | .ife c a b, st => (tst G c st).bind fun t st1 => if t = true then ev G a st1 else ev G b st1
  | .cmp op a b, st => (ev G a st).bind fun va st1 => (ev G b st1).bind fun vb st2 => match rd st2 va, rd st2 vb with
    | some wa, some wb => Out.of st2 ((cmpW op wa wb).map fun t => .d (.bl t))
    | _, _ => .bad
  | .chn op op' a b c, st => (ev G a st).bind fun va st1 => (ev G b st1).bind fun vb st2 => match rd st2 va, rd st2 vb with
    | some wa, some wb => match cmpW op wa wb with
      | some true => (ev G c st2).bind fun vc st3 => match rd st3 vb, rd st3 vc with
        | some wb', some wc => Out.of st3 ((cmpW op' wb' wc).map fun t => .d (.bl t))
        | _, _ => .bad
      | some false => .ok (.d (.bl false)) st2
      | none => .bad
    | _, _ => .bad
  | .idx a i, st => (ev G a st).bind fun va st1 => (ev G i st1).bind fun vi st2 => match rd st2 va, rd st2 vi with
    | some wa, some wi => Out.of st2 ((idxW wa wi).map EV.d)
    | _, _ => .bad
  | .sl a lo hi, st => (ev G a st).bind fun va st1 => (evo G lo st1).bind fun l st2 => (evo G hi st2).bind fun h st3 => match rd st3 va with
    | some wa => Out.of st3 (slW wa l h)
    | none => .bad
  | .fld a f, st => (ev G a st).bind fun va st1 => match rd st1 va with
    | some (.o (.ins _ fs)) => match fs.lookup f with
      | some x => .ok (.d x) st1
      | none => .bad
    | _ => .bad
  | .call f es, st => (evs G es st).bind fun vs st1 => (Out.of2 (toDs vs st1)).bind fun ds st2 => (G.call f ds st2.h).out st2
  | .dcl o, st => (ev G o st).bind fun vo st1 => Out.of2 (change vo clrO st1)
  | .new c es, st => (evs G es st).bind fun vs st1 => (Out.of2 (toDs vs st1)).bind fun ds st2 => match G.cl.nw c with
    | some f => newOut st2 (G.call f (.ref st2.h.length :: ds) (st2.h ++ [.ins c []]))
    | none => .bad
  | .mc m o es, st => (ev G o st).bind fun vo st1 => (Out.of2 (toD vo st1)).bind fun x st2 => match x with
    | .ref a => match st2.h[a]? with
      | some (.ins c fs) => match G.cl.mt c m with
        | some f => if (fs.lookup m).isNone = true then (evs G es st2).bind fun vs st3 => (Out.of2 (toDs vs st3)).bind fun ds st4 => (G.call f (.ref a :: ds) st4.h).out st4 else .bad
        | none => .bad
      | _ => .bad
    | _ => .bad
  | .bi b es, st => (evs G es st).bind fun vs st1 => Out.of st1 (biS b st1 vs)
  | .isi a ts, st => (ev G a st).bind fun va st1 => match rd st1 va with
    | some w => Out.of st1 (match ts.mapM (isiW G.sub G.cl.up w) with
      | some bs => some (.d (.bl (bs.any id)))
      | none => none)
    | none => .bad
  | .meth m o es, st => (ev G o st).bind fun vo st1 => if (rd st1 vo).any (methOk m es.length) = true then (evs G es st1).bind fun vs st2 => (Out.of2 (toDs vs st2)).bind fun ds st3 =>
      if (rd st3 vo).any (methOk m es.length) = true then Out.of2 (change vo (mutO m ds) st3) else .bad
    else .bad
  | .sm m o es, st => (ev G o st).bind fun vo st1 => match vo with
    | .d (.str x) => (evs G es st1).bind fun vs st2 => Out.of st2 (smS m x st2 vs)
    | _ => .bad
  | .it k es, st => (evs G es st).bind fun vs st1 => .ok (.it k vs) st1
  | .lc elt tg src cond, st => (ev G src st).bind fun v st1 => match items st1 v with
    | some xs => if (decide (xs.length ≤ lim) && v.pls.all fun i => !tg.vars.contains i) = true then
        ((lcL (fun s => items s v = some xs) tg (fun s => (match cond with | .no => .ok true s | c => tst G c s)) (ev G elt) xs [] st1).tame).bind fun ys st2 =>
          .ok (.o (.lst ys)) { st2 with σ := backS st2.σ st1.σ tg.vars }
        else .bad
    | none => .bad
  | .lck elt tg i, st => match keysAt st i with
    | some xs => if xs.length ≤ lim then lckEnd st (maskI i st.σ) tg.vars (lcL (fun s => items s (.d (.tup xs)) = some xs) tg (fun s => .ok true s) (ev G elt) xs [] ⟨maskI i st.σ, []⟩) else .bad
    | none => .bad
  | .lrv a, st => (ev G a st).bind fun va st1 => match rd st1 va with
    | some (.o (.lst ds)) => .ok (.o (.lst ds.reverse)) st1
    | _ => .bad
  | .trv a, st => (ev G a st).bind fun va st1 => match (rd st1 va).bind seqL with
    | some ds => .ok (.d (.tup ds.reverse)) st1
    | none => .bad
noncomputable def evs (G : Gam) : List E → St → Out (List EV)
  | [], st => .ok [] st
  | e :: es, st => (ev G e st).bind fun v st1 => (evs G es st1).bind fun vs st2 => .ok (v :: vs) st2
/-- an end of a slice: left out, or an int -/
noncomputable def evo (G : Gam) : E → St → Out (Option Int)
  | .no, st => .ok none st
  | e, st => (ev G e st).bind fun v st1 => match (rd st1 v).bind intW with
    | some i => .ok (some i) st1
    | none => .bad
noncomputable def tst (G : Gam) : E → St → Out Bool
  | .and a b, st => (tst G a st).bind fun t st1 => if t = true then tst G b st1 else .ok false st1
  | .or a b, st => (tst G a st).bind fun t st1 => if t = true then .ok true st1 else tst G b st1
  | .not a, st => (tst G a st).bind fun t st1 => .ok (!t) st1
  | .ife c a b, st => (tst G c st).bind fun t st1 => if t = true then tst G a st1 else tst G b st1
  | e, st => (ev G e st).bind fun v st1 => match (rd st1 v).bind truthW with
    | some t => .ok t st1
    | none => .bad
end

/-! ### statements -/
def setO (w : Wv) (x : D) : O → Option (O × EV)
  | .lst xs => match w with
    | .d (.int i) => match L2.ixN xs.length i with
      | some j => some (.lst (xs.set j x), .d .non)
      | none => none
    | _ => none
  | .dct t kvs => match w with
    | .d k => if (kkey t k).isSome = true ∧ kvs.length < lim then some (.dct t (dput t kvs k x), .d .non) else none
    | _ => none
  | _ => none
def setF (f : String) (x : D) : List (String × D) → List (String × D)
  | [] => [(f, x)]
  | p :: r => if p.1 = f then (f, x) :: r else p :: setF f x r
def setA (fl : String → String → Bool) (f : String) (x : D) : O → Option (O × EV)
  | .ins c fs => if fs.length < 900 ∧ fl c f = true then some (.ins c (setF f x fs), .d .non) else none
  | _ => none
/-- out of a frame: what it alone has goes with it -/
def leave (v : EV) (st : St) : Option EV := match v with
  | .d x => some (.d x)
  | .o x => some (.o x)
  | .pl i => match st.σ[i]? with
    | some (.o x) => some (.o x)
    | some (.d x) => some (.d x)
    | _ => none
  | .it _ _ => none
noncomputable def whL (c : St → Out Bool) (b : St → Out Fl) : Nat → St → Out Fl
  | 0, _ => .bad
  | n + 1, st => (c st).bind fun t st1 => if t = true then (b st1).bind fun f st2 => match f with
      | .rt v => .ok (.rt v) st2
      | _ => whL c b n st2
    else .ok .nx st1
open Classical in
noncomputable def foL (stay : St → Prop) (tg : Tg) (b : St → Out Fl) : List D → St → Out Fl
  | [], st => if stay st then .ok .nx st else .bad
  | x :: xs, st => if stay st then match bindD tg x st with
      | none => .bad
      | some st1 => (b st1).bind fun f st2 => match f with
        | .rt v => .ok (.rt v) st2
        | _ => foL stay tg b xs st2
    else .bad
/-- what a loop over a locked dict leaves -/
def endI (st : St) : Out Fl → Out Fl
  | .ok .nx st2 => match st2.h with
    | [] => if st.σ.length = st2.σ.length then .ok .nx ⟨unmS st.σ st2.σ, st.h⟩ else .bad
    | _ => .bad
  | _ => .bad
/-- the dict that a name, an object's field has -/
def placeD (st : St) (i : Nat) : Option String → Option EV
  | none => match st.σ[i]? with
    | some (.o _) => some (.pl i)
    | some (.d (.ref a)) => some (.d (.ref a))
    | _ => none
  | some f => match st.σ[i]? with
    | some (.d (.ref a)) => match st.h[a]? with
      | some (.ins _ fs) => match fs.lookup f with
        | some (.ref b) => some (.d (.ref b))
        | _ => none
      | _ => none
    | _ => none
def lockO : O → Option (O × EV)
  | .dct false kvs => some (.lkd kvs, .d .non)
  | _ => none
def openO : O → Option (O × EV)
  | .lkd kvs => some (.dct false kvs, .d .non)
  | _ => none
/-- what is walked of a dict -/
def rowsD (k : I) (kvs : List (D × D)) : Option (List D) := match k with
  | .items => some (kvs.map fun p => .tup [p.1, p.2])
  | .values => none
  | .reversed => none
  | .enumerate => none
  | .zip => none
  | .range => some (kvs.map (·.1))
def isD : EV → Bool
  | .d _ => true
  | _ => false
/-- behind a loop over a locked dict -/
def endD (v : EV) : Out Fl → Out Fl
  | .ok .nx st2 => (Out.of2 (change v openO st2)).bind fun _ st3 => .ok .nx st3
  | .ok (.rt x) st2 => if (isD x && isD v) = true then (Out.of2 (change v openO st2)).bind fun _ st3 => .ok (.rt x) st3 else .bad
  | _ => .bad
/-- try .. except cs as i -/
def handle (sub : String → String → Bool) (cs : List String) (i : Option Nat) (hb : St → Out Fl) : Out Fl → Out Fl
  | .ex c st => if sub c c = true ∧ (cs.all fun t => sub t t) = true then (if (cs.any fun t => sub c t) = true then match i with
      | none => hb st
      | some j => if j < st.σ.length then (hb (st.set j (.d (.exn c)))).bind fun f st1 => .ok f (st1.set j .un) else .bad
    else .ex c st) else .bad
  | o => o
mutual
noncomputable def ex (G : Gam) : S → St → Out Fl
  | .pass, st => .ok .nx st
  | .cont, st => .ok .ct st
  | .asg t e, st => (ev G e st).bind fun v st1 => match bindV t v st1 with
    | some st2 => .ok .nx st2
    | none => .bad
  | .sub o i e, st => (ev G e st).bind fun v st1 => (ev G o st1).bind fun vo st2 => (ev G i st2).bind fun vi st3 => match rd st3 vi with
    | some wi => (Out.of2 (toD v st3)).bind fun x st4 => (Out.of2 (change vo (setO wi x) st4)).bind fun _ st5 => .ok .nx st5
    | none => .bad
  | .fld o f e, st => (ev G e st).bind fun v st1 => (ev G o st1).bind fun vo st2 => (Out.of2 (toD v st2)).bind fun x st3 => (Out.of2 (change vo (setA G.cl.fl f x) st3)).bind fun _ st4 => .ok .nx st4
  | .aug i op e, st => match st.σ[i]? with
    | some (.d (.int a)) => (ev G e st).bind fun v st1 => match (rd st1 v).bind intW with
      | some b => match op with
        | .Add => .ok .nx (st1.set i (.d (.int (a + b))))
        | .Sub => .ok .nx (st1.set i (.d (.int (a - b))))
        | _ => .bad
      | none => .bad
    | _ => .bad
  | .ex e, st => (ev G e st).bind fun _ st1 => .ok .nx st1
  | .ret e, st => (ev G e st).bind fun v st1 => match leave v st1 with
    | some r => .ok (.rt r) st1
    | none => .bad
  | .ife c a b, st => (tst G c st).bind fun t st1 => if t = true then exs G a st1 else exs G b st1
  | .whl c b, st => whL (tst G c) (exs G b) G.W st
  | .for_ tg src b, st => (ev G src st).bind fun v st1 => match items st1 v with
    | some xs => if (v.pls.all fun i => !(tg.vars ++ S.asgss b).contains i) = true then foL (fun s => items s v = some xs) tg (exs G b) xs st1 else .bad
    | none => .bad
  | .fori tg i b, st => match st.σ[i]? with
    | some (.d (.ref a)) => match st.h[a]? with
      | some (.dct false kvs) => if ((kvs.all fun p => p.1.lt 0 && p.2.lt 0) && ((tg.vars ++ S.asgss b).all fun j => !asideB st.σ j)) = true then
          endI st (foL (fun _ => True) tg (exs G b) (kvs.map fun p => .tup [p.1, p.2]) ⟨maskS st.σ, []⟩)
        else .bad
      | _ => .bad
    | _ => .bad
  | .ford tg k i f b, st => match placeD st i f with
    | some v => match rd st v with
      | some (.o (.dct false kvs)) => match rowsD k kvs, change v lockO st with
        | some xs, some (_, st1) => if (!(tg.vars ++ S.asgss b).contains i) = true then endD v (foL (fun _ => True) tg (exs G b) xs st1) else .bad
        | _, _ => .bad
      | _ => .bad
    | none => .bad
  | .rse c, st => .ex c st
  | .tr b cs i hb, st => handle G.sub cs i (exs G hb) (exs G b st)
noncomputable def exs (G : Gam) : List S → St → Out Fl
  | [], st => .ok .nx st
  | s :: r, st => (ex G s st).bind fun f st1 => match f with
    | .nx => exs G r st1
    | f => .ok f st1
end

/-! ### defs -/
structure Fd where
  ps : Nat
  n : Nat
  body : List S
  dfl : List D := []
def startS (n : Nat) (ds : List D) : List Sl := ds.map Sl.d ++ List.replicate (n - ds.length) .un
noncomputable def runB (G : Gam) (fd : Fd) (ds : List D) (h : List O) : OutC := match exs G fd.body ⟨startS fd.n ds, h⟩ with
  | .ok (.rt v) st => .ok v st.h
  | .ok .nx st => .ok (.d .non) st.h
  | .ok .ct _ => .bad
  | .ex c st => .ex c st.h
  | .bad => .bad
open Classical in
/-- what nobody can reach any more is forgotten -/
noncomputable def gc (h : List O) : OutC → OutC
  | .ok v h' => if h'.take h.length = h then (match v with
      | .d (.ref i) => if i < h.length then .ok v h else match h'[i]? with
        | some x => if x.lt h.length = true then .ok (.o x) h else .ok v h'
        | none => .ok v h'
      | v => if v.lt h.length = true then .ok v h else .ok v h') else .ok v h'
  | .ex c h' => if h'.take h.length = h then .ex c h else .ex c h'
  | .bad => .bad
structure Tab where
  fn : String → Option Fd
  sub : String → String → Bool
  cl : ClT := {}
noncomputable def callN (T : Tab) : Nat → String → List D → List O → OutC
  | 0, _, _, _ => .bad
  | n + 1, f, ds, h => match T.fn f with
    | none => .bad
    | some fd => if ds.length ≤ fd.ps ∧ fd.ps ≤ ds.length + fd.dfl.length then gc h (runB ⟨callN T n, T.sub, 1000000, T.cl⟩ fd (ds ++ fd.dfl.drop (fd.dfl.length + ds.length - fd.ps)) h) else .bad
noncomputable def gam (T : Tab) (n : Nat) : Gam := ⟨callN T n, T.sub, 1000000, T.cl⟩
end EW

-- part: Sound1
set_option maxHeartbeats 1000000
/-! how Mini's data and state stand in the abstract heap -/
namespace EW
open PySem PySem.Spec PyProof.Rows L2
/-- the class's object, by its name -/
def gaS (K : PySem.W.Frag) (c : String) : Addr := He.ga K (Str.ofString c)
/-- a class of one's own -/
structure InsC (K : PySem.W.Frag) (C : Addr) : Prop where
  cl : Cls K C
  ha : PySem.W.findIn K (.ref C) "__class__" = some (some (.builtin "object.__class__"))
  hn : PySem.W.specialIn K (.builtin "object.__class__") "__get__" = some (some (.builtin "getset_descriptor.__get__"))
  ht : PySem.W.takesIn K (.builtin "object.__class__") = some true
  hm : PySem.W.mroIn K C (.type "object") = some true
theorem ofString_inj {a b : String} (h : Str.ofString a = Str.ofString b) : a = b := by
  rw [Str.ofString_eq_toList, Str.ofString_eq_toList] at h
  have h1 : (a.toList.map Char.toNat) = b.toList.map Char.toNat := by
    have := congrArg (fun z : Str => z.cps.toList) h
    simpa using this
  have inj : ∀ x y : Char, x.toNat = y.toNat → x = y := fun x y e => Char.ext (UInt32.toNat_inj.mp e)
  have h2 : a.toList = b.toList := by
    have key : ∀ (l m : List Char), l.map Char.toNat = m.map Char.toNat → l = m := by
      intro l
      induction l with
      | nil => intro m e; cases m with | nil => rfl | cons _ _ => cases e
      | cons x l ih =>
        intro m e
        cases m with
        | nil => cases e
        | cons y m =>
          simp only [List.map_cons, List.cons.injEq] at e
          rw [inj x y e.1, ih m e.2]
    exact key _ _ h1
  exact String.toList_inj.mp h2
section
variable (K : PySem.W.Frag) (ρ : List Addr) (H : Hp)
def FrzL (a : Addr) (vs : List V) : Prop := (∃ o, H a = some (.frz o (.lst vs))) ∨ ∃ (o : Obj) (its : Array Value) (n : Nat), K.lookup a = some o ∧ o.cls = .type "list" ∧ o.dict = none ∧ o.data = .seq its n ∧ its.size ≤ sizeLine ∧ Vals vs its.toList
mutual
/-- v stands for the datum -/
def VR : D → V → Prop
  | .non, v => v = .non
  | .bl b, v => v = .bl b
  | .int i, v => v = .int i
  | .str x, v => v = .str x
  | .tup ds, v => ∃ a vs, v = .ref a ∧ H a = some (.tup vs) ∧ VRs ds vs
  | .ref i, v => ∃ a, ρ[i]? = some a ∧ v = .ref a
  | .fz ds, v => ∃ a vs, v = .ref a ∧ FrzL K H a vs ∧ VRs ds vs
  | .exn c, v => ∃ a, v = .ref a ∧ H a = some (exT (gaS K c) a) ∧ ExcC K (gaS K c)
def VRs : List D → List V → Prop
  | [], vs => vs = []
  | d :: ds, vs => ∃ v r, vs = v :: r ∧ VR d v ∧ VRs ds r
end
def KVs {κ : Type} (f : D → Option κ) : List (D × D) → List (κ × V) → Prop
  | [], ks => ks = []
  | q :: r, ks => ∃ k v t, ks = (k, v) :: t ∧ f q.1 = some k ∧ VR K ρ H q.2 v ∧ KVs f r t
/-- the fields of an object -/
def FVs : List (String × D) → List (Str × V) → Prop
  | [], vs => vs = []
  | q :: r, vs => ∃ v t, vs = (Str.ofString q.1, v) :: t ∧ VR K ρ H q.2 v ∧ FVs r t
/-- the object at p -/
def OR (p : Addr) : O → Prop
  | .lst ds => ∃ vs, H p = some (.lst vs) ∧ VRs K ρ H ds vs
  | .dct false kvs => ∃ ks : List (Key × V), H p = some (.dK ks) ∧ KVs K ρ H fkey kvs ks
  | .dct true kvs => ∃ ks : List (List Key × V), H p = some (.dT ks) ∧ KVs K ρ H tkey kvs ks
  | .ins c fs => ∃ dx vs, H p = some (.ins (gaS K c) dx vs) ∧ FVs K ρ H fs vs ∧ InsC K (gaS K c) ∧ ∀ q ∈ fs, NoAttr K (gaS K c) (Str.ofString q.1)
  | .lkd kvs => ∃ o, ∃ ks : List (Key × V), H p = some (.frz o (.dK ks)) ∧ KVs K ρ H fkey kvs ks
end
/-- tuples and what is locked stay -/
structure Pers (H H' : Hp) : Prop where
  tup : ∀ a xs, H a = some (.tup xs) → H' a = some (.tup xs)
  frz : ∀ a o u, (∀ ks, u ≠ .dK ks) → H a = some (.frz o u) → H' a = some (.frz o u)
  ext : ∀ a φ, H a = some (.ext φ) → H' a = some (.ext φ)
theorem Pers.refl (H : Hp) : Pers H H := ⟨fun _ _ h => h, fun _ _ _ _ h => h, fun _ _ h => h⟩
theorem Pers.trans {H H1 H2 : Hp} (a : Pers H H1) (b : Pers H1 H2) : Pers H H2 := ⟨fun p xs h => b.tup p xs (a.tup p xs h), fun p o u k h => b.frz p o u k (a.frz p o u k h), fun p φ h => b.ext p φ (a.ext p φ h)⟩
theorem Pers.same {H H' : Hp} (s : Same H H') : Pers H H' := ⟨fun a xs h => s a _ h, fun a o u _ h => s a _ h, fun a φ h => s a _ h⟩
section
variable {K : PySem.W.Frag} {ρ ρ' : List Addr} {H H' : Hp}
theorem Pers.sqT (p : Pers H H') {a : Addr} {vs : List V} (h : SqT K H a vs) : SqT K H' a vs := by
  rcases h with (h | ⟨o, h⟩) | h
  · exact .inl (.inl (p.tup _ _ h))
  · exact .inl (.inr ⟨o, p.frz _ _ _ (fun _ e => nomatch e) h⟩)
  · exact .inr h
theorem pre_get {i : Nat} {a : Addr} (h : ρ <+: ρ') (e : ρ[i]? = some a) : ρ'[i]? = some a := by
  obtain ⟨t, rfl⟩ := h
  rw [List.getElem?_append_left (List.getElem?_eq_some_iff.mp e).1]
  exact e
mutual
theorem VR.mono (p : Pers H H') (hp : ρ <+: ρ') : ∀ (d : D) (v : V), VR K ρ H d v → VR K ρ' H' d v
  | .non, v, h => h
  | .bl b, v, h => h
  | .int i, v, h => h
  | .str x, v, h => h
  | .tup ds, v, h => by
    obtain ⟨a, vs, e, hs, hr⟩ := h
    exact ⟨a, vs, e, p.tup _ _ hs, VRs.mono p hp ds vs hr⟩
  | .ref i, v, h => by
    obtain ⟨a, e, h⟩ := h
    exact ⟨a, pre_get hp e, h⟩
  | .fz ds, v, h => by
    obtain ⟨a, vs, e, hs, hr⟩ := h
    exact ⟨a, vs, e, hs.imp (fun ⟨o, hs⟩ => ⟨o, p.frz _ _ _ (fun _ e => nomatch e) hs⟩) id, VRs.mono p hp ds vs hr⟩
  | .exn c, v, h => by
    obtain ⟨a, e, h1, h2⟩ := h
    exact ⟨a, e, p.ext _ _ h1, h2⟩
theorem VRs.mono (p : Pers H H') (hp : ρ <+: ρ') : ∀ (ds : List D) (vs : List V), VRs K ρ H ds vs → VRs K ρ' H' ds vs
  | [], vs, h => h
  | d :: ds, vs, h => by
    obtain ⟨v, r, e, h1, h2⟩ := h
    exact ⟨v, r, e, VR.mono p hp d v h1, VRs.mono p hp ds r h2⟩
end
theorem VRs.length : ∀ {ds : List D} {vs : List V}, VRs K ρ H ds vs → vs.length = ds.length
  | [], vs, h => by
    have e : vs = [] := h
    rw [e]
    rfl
  | d :: ds, vs, h => by
    obtain ⟨v, r, e, h1, h2⟩ := h
    rw [e, List.length_cons, List.length_cons, VRs.length h2]
theorem VRs.nil : VRs K ρ H [] [] := rfl
theorem VRs.cons {d : D} {ds : List D} {v : V} {vs : List V} (h : VR K ρ H d v) (t : VRs K ρ H ds vs) : VRs K ρ H (d :: ds) (v :: vs) := ⟨v, vs, rfl, h, t⟩
theorem VRs.append : ∀ {ds es : List D} {vs ws : List V}, VRs K ρ H ds vs → VRs K ρ H es ws → VRs K ρ H (ds ++ es) (vs ++ ws)
  | [], es, vs, ws, h, g => by
    have e : vs = [] := h
    rw [e]
    exact g
  | d :: ds, es, vs, ws, h, g => by
    obtain ⟨v, r, rfl, h1, h2⟩ := h
    exact .cons h1 (VRs.append h2 g)
theorem VRs.get : ∀ {ds : List D} {vs : List V} {i : Nat} {d : D}, VRs K ρ H ds vs → ds[i]? = some d → ∃ v, vs[i]? = some v ∧ VR K ρ H d v
  | [], vs, i, d, h, e => by simp at e
  | x :: ds, vs, 0, d, h, e => by
    obtain ⟨v, r, rfl, h1, h2⟩ := h
    simp at e
    subst e
    exact ⟨v, rfl, h1⟩
  | x :: ds, vs, i + 1, d, h, e => by
    obtain ⟨v, r, rfl, h1, h2⟩ := h
    obtain ⟨w, e1, h3⟩ := VRs.get (i := i) h2 (by simpa using e)
    exact ⟨w, by simpa using e1, h3⟩
theorem VRs.getV {ds : List D} {vs : List V} {i : Nat} {v : V} (h : VRs K ρ H ds vs) (e : vs[i]? = some v) : ∃ d, ds[i]? = some d ∧ VR K ρ H d v := by
  have hl := h.length
  have hi : i < ds.length := by
    have := (List.getElem?_eq_some_iff.mp e).1
    omega
  obtain ⟨w, e1, h1⟩ := h.get (List.getElem?_eq_getElem hi)
  rw [e] at e1
  cases e1
  exact ⟨_, List.getElem?_eq_getElem hi, h1⟩
theorem VRs.take : ∀ {ds : List D} {vs : List V} (n : Nat), VRs K ρ H ds vs → VRs K ρ H (ds.take n) (vs.take n)
  | _, _, 0, h => rfl
  | [], vs, n + 1, h => by
    have e : vs = [] := h
    rw [e]
    rfl
  | d :: ds, vs, n + 1, h => by
    obtain ⟨v, r, rfl, h1, h2⟩ := h
    exact .cons h1 (VRs.take n h2)
theorem VRs.drop : ∀ {ds : List D} {vs : List V} (n : Nat), VRs K ρ H ds vs → VRs K ρ H (ds.drop n) (vs.drop n)
  | _, _, 0, h => h
  | [], vs, n + 1, h => by
    have e : vs = [] := h
    rw [e]
    rfl
  | d :: ds, vs, n + 1, h => by
    obtain ⟨v, r, rfl, h1, h2⟩ := h
    exact VRs.drop n h2
theorem VRs.set {d : D} {v : V} (hd : VR K ρ H d v) : ∀ {ds : List D} {vs : List V} (n : Nat), VRs K ρ H ds vs → VRs K ρ H (ds.set n d) (vs.set n v)
  | [], vs, n, h => by
    have e : vs = [] := h
    rw [e]
    rfl
  | x :: ds, vs, 0, h => by
    obtain ⟨w, r, rfl, h1, h2⟩ := h
    exact .cons hd h2
  | x :: ds, vs, n + 1, h => by
    obtain ⟨w, r, rfl, h1, h2⟩ := h
    exact .cons h1 (VRs.set hd n h2)
theorem VRs.reverse : ∀ {ds : List D} {vs : List V}, VRs K ρ H ds vs → VRs K ρ H ds.reverse vs.reverse
  | [], vs, h => by
    have e : vs = [] := h
    rw [e]
    rfl
  | d :: ds, vs, h => by
    obtain ⟨v, r, rfl, h1, h2⟩ := h
    rw [List.reverse_cons, List.reverse_cons]
    exact (VRs.reverse h2).append (.cons h1 .nil)
theorem VRs.cut {ds : List D} {vs : List V} (h : VRs K ρ H ds vs) (lo hi : Option Int) : VRs K ρ H (cut ds lo hi) (cutV vs lo hi) := by
  unfold EW.cut cutV
  rw [h.length]
  exact (h.drop _).take _
theorem KVs.mono {κ : Type} {f : D → Option κ} (p : Pers H H') (hp : ρ <+: ρ') : ∀ {kvs : List (D × D)} {ks : List (κ × V)}, KVs K ρ H f kvs ks → KVs K ρ' H' f kvs ks
  | [], ks, h => h
  | q :: r, ks, h => by
    obtain ⟨k, v, t, e, h1, h2, h3⟩ := h
    exact ⟨k, v, t, e, h1, h2.mono p hp q.2 v, KVs.mono p hp h3⟩
theorem FVs.mono (p : Pers H H') (hp : ρ <+: ρ') : ∀ {fs : List (String × D)} {vs : List (Str × V)}, FVs K ρ H fs vs → FVs K ρ' H' fs vs
  | [], vs, h => h
  | q :: r, vs, h => by
    obtain ⟨v, t, e, h2, h3⟩ := h
    exact ⟨v, t, e, h2.mono p hp q.2 v, FVs.mono p hp h3⟩
theorem FVs.length : ∀ {fs : List (String × D)} {vs : List (Str × V)}, FVs K ρ H fs vs → vs.length = fs.length
  | [], vs, h => by
    have e : vs = [] := h
    rw [e]
    rfl
  | q :: r, vs, h => by
    obtain ⟨v, t, e, h2, h3⟩ := h
    rw [e, List.length_cons, List.length_cons, h3.length]
theorem FVs.look {f : String} {x : D} : ∀ {fs : List (String × D)} {vs : List (Str × V)}, FVs K ρ H fs vs → fs.lookup f = some x → ∃ v, vs.lookup (Str.ofString f) = some v ∧ VR K ρ H x v
  | [], vs, h, e => by simp at e
  | (g, y) :: r, vs, h, e => by
    obtain ⟨v, t, rfl, h2, h3⟩ := h
    rw [List.lookup_cons] at e ⊢
    cases q : f == g with
    | true =>
      rw [q] at e
      cases e
      have : (Str.ofString f == Str.ofString g) = true := by rw [eq_of_beq q]; exact beq_self_eq_true _
      rw [this]
      exact ⟨v, rfl, h2⟩
    | false =>
      rw [q] at e
      have : (Str.ofString f == Str.ofString g) = false := by
        cases z : Str.ofString f == Str.ofString g with
        | false => rfl
        | true =>
          rw [ofString_inj (eq_of_beq z)] at q
          simp at q
      rw [this]
      exact FVs.look h3 e
theorem FVs.lookN {f : String} : ∀ {fs : List (String × D)} {vs : List (Str × V)}, FVs K ρ H fs vs → fs.lookup f = none → vs.lookup (Str.ofString f) = none
  | [], vs, h, e => by
    have e : vs = [] := h
    rw [e]
    rfl
  | (g, y) :: r, vs, h, e => by
    obtain ⟨v, t, rfl, h2, h3⟩ := h
    rw [List.lookup_cons] at e ⊢
    cases q : f == g with
    | true =>
      rw [q] at e
      cases e
    | false =>
      rw [q] at e
      have : (Str.ofString f == Str.ofString g) = false := by
        cases z : Str.ofString f == Str.ofString g with
        | false => rfl
        | true =>
          rw [ofString_inj (eq_of_beq z)] at q
          simp at q
      rw [this]
      exact FVs.lookN h3 e
theorem FVs.mem {f : String} {x : D} : ∀ {fs : List (String × D)}, fs.lookup f = some x → (f, x) ∈ fs
  | [], e => by simp at e
  | (g, y) :: r, e => by
    rw [List.lookup_cons] at e
    cases q : f == g with
    | true =>
      rw [q] at e
      cases e
      rw [eq_of_beq q]
      simp
    | false =>
      rw [q] at e
      exact List.mem_cons_of_mem _ (FVs.mem e)
theorem OR.mono {p : Addr} {x : O} (e : H' p = H p) (s : Pers H H') (hp : ρ <+: ρ') (h : OR K ρ H p x) : OR K ρ' H' p x := by
  cases x with
  | lst ds =>
    obtain ⟨vs, h1, h2⟩ := h
    exact ⟨vs, e.trans h1, h2.mono s hp ds vs⟩
  | dct t kvs =>
    cases t with
    | false =>
      obtain ⟨ks, h1, h2⟩ := h
      exact ⟨ks, e.trans h1, h2.mono s hp⟩
    | true =>
      obtain ⟨ks, h1, h2⟩ := h
      exact ⟨ks, e.trans h1, h2.mono s hp⟩
  | ins c fs =>
    obtain ⟨dx, vs, h1, h2, h3, h4⟩ := h
    exact ⟨dx, vs, e.trans h1, h2.mono s hp, h3, h4⟩
  | lkd kvs =>
    obtain ⟨o, ks, h1, h2⟩ := h
    exact ⟨o, ks, e.trans h1, h2.mono s hp⟩
theorem OR.there {p : Addr} {x : O} (h : OR K ρ H p x) : ∃ o, H p = some o ∧ (∀ xs, o ≠ .tup xs) ∧ (∀ ob u, (∀ ks, u ≠ .dK ks) → o ≠ .frz ob u) ∧ ∀ φ, o ≠ .ext φ := by
  cases x with
  | lst ds =>
    obtain ⟨vs, h1, h2⟩ := h
    exact ⟨_, h1, (fun _ e => nomatch e), (fun _ _ _ e => nomatch e), (fun _ e => nomatch e)⟩
  | dct t kvs =>
    cases t with
    | false =>
      obtain ⟨ks, h1, h2⟩ := h
      exact ⟨_, h1, (fun _ e => nomatch e), (fun _ _ _ e => nomatch e), (fun _ e => nomatch e)⟩
    | true =>
      obtain ⟨ks, h1, h2⟩ := h
      exact ⟨_, h1, (fun _ e => nomatch e), (fun _ _ _ e => nomatch e), (fun _ e => nomatch e)⟩
  | ins c fs =>
    obtain ⟨dx, vs, h1, h2, h3, h4⟩ := h
    exact ⟨_, h1, (fun _ e => nomatch e), (fun _ _ _ e => nomatch e), (fun _ e => nomatch e)⟩
  | lkd kvs =>
    obtain ⟨o, ks, h1, h2⟩ := h
    exact ⟨_, h1, (fun _ e => nomatch e), (fun ob u n e => by cases e; exact n ks rfl), (fun _ e => nomatch e)⟩
end

theorem OR.nfrz {K : PySem.W.Frag} {ρ : List Addr} {H : Hp} {p : Addr} {x : O} (h : OR K ρ H p x) (hx : ∀ kvs, x ≠ .lkd kvs) : ∀ o u, H p ≠ some (.frz o u) := by
  intro o u e
  cases x with
  | lkd kvs => exact hx kvs rfl
  | lst ds =>
    obtain ⟨vs, h1, h2⟩ := h
    rw [e] at h1
    cases h1
  | dct t kvs =>
    cases t with
    | false =>
      obtain ⟨vs, h1, h2⟩ := h
      rw [e] at h1
      cases h1
    | true =>
      obtain ⟨vs, h1, h2⟩ := h
      rw [e] at h1
      cases h1
  | ins c fs =>
    obtain ⟨dx, vs, h1, h2⟩ := h
    rw [e] at h1
    cases h1
/-! ### the state -/
structure HR (K : PySem.W.Frag) (ρ : List Addr) (H : Hp) (h : List O) : Prop where
  len : ρ.length = h.length
  nd : ρ.Nodup
  obj : ∀ (i : Nat) (p : Addr) (x : O), ρ[i]? = some p → h[i]? = some x → OR K ρ H p x
def SlotR (K : PySem.W.Frag) (ρ : List Addr) (H : Hp) (σ : L2.St) (i : Nat) : Sl → Prop
  | .un => True
  | .d x => ∃ v, σ[i]? = some (some v) ∧ VR K ρ H x v
  | .o x => ∃ p, σ[i]? = some (some (.ref p)) ∧ OR K ρ H p x ∧ p ∉ ρ
structure Res (K : PySem.W.Frag) (ρ : List Addr) (H : Hp) (st : St) (σ : L2.St) : Prop where
  hr : HR K ρ H st.h
  len : σ.length = st.σ.length
  sl : ∀ (i : Nat) (s : Sl), st.σ[i]? = some s → SlotR K ρ H σ i s
  sep : ∀ (i j : Nat) (x y : O) (p : Addr), i ≠ j → st.σ[i]? = some (.o x) → st.σ[j]? = some (.o y) → σ[i]? = some (some (.ref p)) → σ[j]? = some (some (.ref p)) → False
/-- what Mini's state has -/
def Dom (st : St) (σ : L2.St) (ρ : List Addr) (a : Addr) : Prop := a ∈ ρ ∨ ∃ (i : Nat) (x : O), st.σ[i]? = some (.o x) ∧ σ[i]? = some (some (.ref a))
theorem Res.dom {K : PySem.W.Frag} {ρ : List Addr} {H : Hp} {st : St} {σ : L2.St} (r : Res K ρ H st σ) {a : Addr} (h : Dom st σ ρ a) : ∃ x, OR K ρ H a x := by
  rcases h with h | ⟨i, x, h1, h2⟩
  · obtain ⟨i, hi, e⟩ := List.mem_iff_getElem.mp h
    have hi' : i < st.h.length := by
      rw [← r.hr.len]
      exact hi
    exact ⟨_, r.hr.obj i a _ (by rw [List.getElem?_eq_getElem hi, e]) (List.getElem?_eq_getElem hi')⟩
  · obtain ⟨p, e, h, _⟩ := r.sl i _ h1
    rw [h2] at e
    cases e
    exact ⟨x, h⟩
theorem Res.notDom {K : PySem.W.Frag} {ρ : List Addr} {H : Hp} {st : St} {σ : L2.St} (r : Res K ρ H st σ) {a : Addr} (h : H a = none) : ¬ Dom st σ ρ a := fun d => by
  obtain ⟨x, h1⟩ := r.dom d
  obtain ⟨o, e, _⟩ := h1.there
  rw [h] at e
  cases e
/-- from one state to a later one -/
structure Step (K : PySem.W.Frag) (ρ : List Addr) (H : Hp) (st : St) (σ : L2.St) (ρ' : List Addr) (H' : Hp) (st' : St) (σ' : L2.St) : Prop where
  res : Res K ρ' H' st' σ'
  pre : ρ <+: ρ'
  frame : ∀ a o, H a = some o → ¬ Dom st σ ρ a → H' a = some o
  grow : ∀ a, Dom st' σ' ρ' a → Dom st σ ρ a ∨ H a = none
  frz : ∀ a o u, H a = some (.frz o u) → H' a = some (.frz o u)
section
variable {K : PySem.W.Frag} {ρ ρ1 ρ2 ρ' : List Addr} {H H1 H2 H' : Hp} {st st1 st2 st' : St} {σ σ1 σ2 σ' : L2.St}
theorem Res.pers (r : Res K ρ H st σ) (f : ∀ a o, H a = some o → ¬ Dom st σ ρ a → H' a = some o) : Pers H H' := by
  refine ⟨fun a xs h => f a _ h fun d => ?_, fun a o u hu h => f a _ h fun d => ?_, fun a φ h => f a _ h fun d => ?_⟩
  · obtain ⟨x, h1⟩ := r.dom d
    obtain ⟨o, e, n, _⟩ := h1.there
    rw [h] at e
    cases e
    exact n xs rfl
  · obtain ⟨x, h1⟩ := r.dom d
    obtain ⟨o', e, _, n, _⟩ := h1.there
    rw [h] at e
    cases e
    exact n o u hu rfl
  · obtain ⟨x, h1⟩ := r.dom d
    obtain ⟨o', e, _, _, n⟩ := h1.there
    rw [h] at e
    cases e
    exact n φ rfl
theorem Step.pers (r : Res K ρ H st σ) (s : Step K ρ H st σ ρ' H' st' σ') : Pers H H' := r.pers s.frame
theorem Step.refl (r : Res K ρ H st σ) : Step K ρ H st σ ρ H st σ := ⟨r, List.prefix_refl _, fun _ _ h _ => h, fun _ h => .inl h, fun _ _ _ h => h⟩
theorem Step.trans (a : Step K ρ H st σ ρ1 H1 st1 σ1) (b : Step K ρ1 H1 st1 σ1 ρ2 H2 st2 σ2) : Step K ρ H st σ ρ2 H2 st2 σ2 := by
  refine ⟨b.res, a.pre.trans b.pre, fun p o h n => b.frame p o (a.frame p o h n) fun d => ?_, fun p d => ?_, fun p o u h => b.frz p o u (a.frz p o u h)⟩
  · rcases a.grow p d with q | q
    · exact n q
    · rw [h] at q
      cases q
  · rcases b.grow p d with q | q
    · exact a.grow p q
    · by_cases n : Dom st σ ρ p
      · exact .inl n
      · right
        cases e : H p with
        | none => rfl
        | some o =>
          rw [a.frame p o e n] at q
          cases q
/-- more is tracked, Mini's state is as it was -/
theorem Res.ext (r : Res K ρ H st σ) (s : Same H H') : Res K ρ H' st σ := by
  have ps := Pers.same s
  have keep : ∀ {p : Addr} {x : O}, OR K ρ H p x → OR K ρ H' p x := fun {p x} h => by
    obtain ⟨o, e, _⟩ := h.there
    exact OR.mono (by rw [e, s p o e]) ps (List.prefix_refl _) h
  refine ⟨⟨r.hr.len, r.hr.nd, fun i p x h1 h2 => keep (r.hr.obj i p x h1 h2)⟩, r.len, fun i sl h => ?_, r.sep⟩
  have q := r.sl i sl h
  cases sl with
  | un => trivial
  | d x =>
    obtain ⟨v, e, h⟩ := q
    exact ⟨v, e, h.mono ps (List.prefix_refl _) x v⟩
  | o x =>
    obtain ⟨p, e, h, n⟩ := q
    exact ⟨p, e, keep h, n⟩
theorem Step.ext (r : Res K ρ H st σ) (s : Same H H') : Step K ρ H st σ ρ H' st σ := ⟨r.ext s, List.prefix_refl _, fun a o h _ => s a o h, fun _ h => .inl h, fun a o u h => s a _ h⟩
end

/-! ### values of expressions -/
/-- v stands for what an expression gives -/
def ER (K : PySem.W.Frag) (ρ : List Addr) (H : Hp) (st : St) (σ : L2.St) : EV → V → Prop
  | .d x, v => VR K ρ H x v
  | .o x, v => ∃ p, v = .ref p ∧ OR K ρ H p x ∧ ¬ Dom st σ ρ p
  | .pl i, v => σ[i]? = some (some v)
  | .it _ _, _ => False
/-- a new object is new: it was none of the tracked, or it was Mini's -/
def New (ρ : List Addr) (H : Hp) (st : St) (σ : L2.St) (r : EV) (v : V) : Prop := ∀ x p, r = .o x → v = .ref p → (H p = none ∨ Dom st σ ρ p)
def WR (K : PySem.W.Frag) (ρ : List Addr) (H : Hp) : Wv → V → Prop
  | .d x, v => VR K ρ H x v ∧ ∀ a, x ≠ .ref a
  | .o x, v => ∃ p, v = .ref p ∧ OR K ρ H p x
section
variable {K : PySem.W.Frag} {ρ ρ1 ρ2 ρ' : List Addr} {H H1 H2 H' : Hp} {st st1 st2 st' : St} {σ σ1 σ2 σ' : L2.St}
theorem ER.step {r : EV} {v : V} (hr : Res K ρ H st σ) (s : Step K ρ H st σ ρ' H' st' σ) (h : ER K ρ H st σ r v) : ER K ρ' H' st' σ r v := by
  have ps := Step.pers hr s
  cases r with
  | d x => exact VR.mono ps s.pre x v h
  | o x =>
    obtain ⟨p, e, h1, n⟩ := h
    obtain ⟨o, e1, _⟩ := h1.there
    refine ⟨p, e, h1.mono (by rw [e1, s.frame p o e1 n]) ps s.pre, fun d => ?_⟩
    rcases s.grow p d with q | q
    · exact n q
    · rw [e1] at q
      cases q
  | pl i => exact h
  | it k vs => exact h
theorem rdD_sound {x : D} {w : Wv} {v : V} (hr : HR K ρ H st.h) (h : VR K ρ H x v) (e : rdD st.h x = some w) : WR K ρ H w v := by
  cases x with
  | ref i =>
    obtain ⟨a, e1, rfl⟩ := h
    simp only [rdD] at e
    cases q : st.h[i]? with
    | none =>
      rw [q] at e
      cases e
    | some y =>
      rw [q] at e
      cases e
      exact ⟨a, rfl, hr.obj i a y e1 q⟩
  | _ =>
    cases e
    exact ⟨h, fun _ e => nomatch e⟩
theorem rd_sound {r : EV} {w : Wv} {v : V} (hr : Res K ρ H st σ) (h : ER K ρ H st σ r v) (e : rd st r = some w) : WR K ρ H w v := by
  cases r with
  | d x => exact rdD_sound hr.hr h e
  | o x =>
    cases e
    obtain ⟨p, e1, h1, _⟩ := h
    exact ⟨p, e1, h1⟩
  | pl i =>
    simp only [rd] at e
    have h' : σ[i]? = some (some v) := h
    cases q : st.σ[i]? with
    | none =>
      rw [q] at e
      cases e
    | some s =>
      rw [q] at e
      have z := hr.sl i s q
      cases s with
      | un => cases e
      | d x =>
        obtain ⟨v', e1, h1⟩ := z
        rw [h'] at e1
        cases e1
        cases x with
        | ref a => exact rdD_sound hr.hr h1 e
        | _ => cases e
      | o x =>
        cases e
        obtain ⟨p, e1, h1, _⟩ := z
        rw [h'] at e1
        cases e1
        exact ⟨p, rfl, h1⟩
  | it k vs => exact h.elim
end

/-! ### outcomes -/
def Wp {α : Type} (o : Out α) (P : α → St → Prop) (F : String → St → Prop) : Prop := match o with
  | .ok a st => P a st
  | .ex c st => F c st
  | .bad => False
section
variable {α β : Type} {o : Out α} {f : α → St → Out β} {P P' : α → St → Prop} {R : β → St → Prop} {F F' : String → St → Prop}
theorem Wp.bind : Wp (o.bind f) R F ↔ Wp o (fun a st => Wp (f a st) R F) F := by
  cases o <;> exact Iff.rfl
theorem Wp.mono (h : Wp o P F) (hP : ∀ a st, P a st → P' a st) (hF : ∀ c st, F c st → F' c st) : Wp o P' F' := by
  cases o with
  | ok a st => exact hP a st h
  | ex c st => exact hF c st h
  | bad => exact h
end
end EW

-- part: MulT
set_option maxHeartbeats 4000000
/-! a tuple once: the tuple itself -/
namespace EW
open PySem PySem.Spec PyProof.Rows L2
theorem mul_once (l : Addr) (items : Array Value) (n : Nat) (dd : Option Addr) (sl : Array (Option Value)) (u : Tok) :
    Meets (Builtin.«tuple.__mul__» ⟨[.ref l, .int 1 u], []⟩) (fun _ R s => s.heap.get? l = some { cls := .type "tuple", dict := dd, data := .seq items n, slots := sl } ∧ R (.ok (.ret (Value.ref l))) s) :=
  .of_wp fun prog w A R s h => by
    obtain ⟨hp, g, d, tk, os⟩ := s
    obtain ⟨hl, h⟩ := h
    have f1 := AutoSeq1.idx_int
    have c1 : (items.isEmpty || (1 : Int) == 1) = true := by simp
    wp_walk using wpAny_loadPart' hl
    repeat (first
      | (refine wpAny_ite_false (by decide) ?_; wp_walk using wpAny_loadPart' hl)
      | (refine wpAny_ite_true (by simp) ?_; wp_walk using wpAny_loadPart' hl))
    first
      | exact ⟨_, rfl, h⟩
      | exact h
def rOnceT (K : PySem.W.Frag) : R2 := fun x y H Q => ∃ l xs, x = .ref l ∧ y = .int 1 ∧ SqT K H l xs ∧ Q (.ref l) H
theorem op_onceT {X : Cx} : OpR X (binaryOp .Mult) (rOnceT X.K) := by
  intro pins s σ H x y v u Q I rx ry h
  obtain ⟨l, xs, rfl, rfl, hT, q⟩ := h
  cases rx
  obtain ⟨t, rfl⟩ := ry
  obtain ⟨its, r, ⟨⟨cls, dd, data, sl⟩, ho, hc, n, hd⟩, hs⟩ := I.tuple hT
  simp only at hc hd
  subst hc hd
  refine wpAny_binaryOp_repeat_ref (T := "tuple") (U := "int") (by decide) ⟨_, ho, rfl⟩ (fun s' => typeIs_int s' 1 t) noFill_tuple_mul F.fills_int_mul F.slot_int_rmul repeat_tuple F.slot_int_index.lookup
    (call_meets F.slot_int_rmul (typeIs_int s 1 t) F.entry_int_rmul (F.args_int_rmul_2 _ _) (int_rmul_tuple 1 t l its.toArray n dd sl)
      ⟨ho, rfl, ⟨_, ho, rfl⟩, call_meets F.slot_tuple_mul ⟨_, ho, rfl⟩ F.entry_tuple_mul (F.args_tuple_mul_2 _ _) (mul_once l its.toArray n dd sl t) ⟨ho, ?_⟩⟩)
  exact ⟨.ref l, H, I, rfl, q⟩
/-- a list and another one, the first one may be locked or kept -/
theorem op_catF {X : Cx} : OpR X (binaryOp .Add) (fun x y H Q => ∃ l b xs zs, x = .ref l ∧ y = .ref b ∧ SqL X.K H l xs ∧ SqL X.K H b zs ∧ xs.length + zs.length ≤ sizeLine ∧ ∀ p, H p = none → Q (.ref p) (upd H p (.lst (xs ++ zs)))) := by
  intro pins s σ H x y v u Q I rx ry h
  obtain ⟨l, b, xs, zs, rfl, rfl, hH, hB, hz, q⟩ := h
  cases rx
  cases ry
  obtain ⟨its, r, ⟨⟨cls, dd, data, sl⟩, n, ho, hc, hd0, hd⟩, z⟩ := I.list hH
  obtain ⟨its2, r2, ⟨⟨cls2, dd2, data2, sl2⟩, n2, ho2, hc2, hd02, hd2⟩, z2⟩ := I.list hB
  simp only at hc hd hc2 hd2
  subst hc hd hc2 hd2
  have l1 := r.length
  have l2 := r2.length
  refine concat_meets ⟨_, ho, rfl⟩ ⟨_, ho2, rfl⟩ noFill_list_add seq_list_add PySem.F.slot_list_add PySem.F.entry_list_add (PySem.F.args_list_add_2 _ _) (list_addW l b its.toArray its2.toArray n n2 dd dd2 sl sl2 (by rw [List.size_toArray, List.size_toArray]; omega)) ⟨ho, ho2, ?_⟩
  have ea : its.toArray ++ its2.toArray = (its ++ its2).toArray := by simp
  rw [ea]
  exact ⟨.ref _, _, I.lnew (t' := s.toks) (r.append r2) (by rw [List.length_append]; omega), rfl, q _ I.fresh⟩
/-- a short text times an int -/
theorem op_mulS {X : Cx} : OpR X (binaryOp .Mult) (fun x y H Q => ∃ i k, x = .str i ∧ y = .int k ∧ i.length ≤ 16 ∧ -(2 ^ 63) ≤ k ∧ k ≤ 1048576 ∧ Q (.str (Txt.mul i k)) H) := by
  intro pins s σ H x y v u Q I rx ry h
  obtain ⟨i, k, rfl, rfl, h1, h2, h3, q⟩ := h
  obtain ⟨t, rfl⟩ := rx
  obtain ⟨t', rfl⟩ := ry
  exact PySem.W.KXi.mul rfl h1 h2 (by omega) fun t' tk _ _ => ⟨.str (Txt.mul i k), H, I.tok _, ⟨_, rfl⟩, q⟩
end EW

-- part: Sound2
set_option maxHeartbeats 1000000
/-! operations by values -/
namespace EW
open PySem PySem.Spec PyProof.Rows L2
theorem lim_line : lim ≤ sizeLine := by rw [sizeLine_eq]; decide
section
variable {K : PySem.W.Frag} {ρ ρ0 ρ1 ρ2 ρ' : List Addr} {H H0 H1 H2 H' : Hp} {st st0 st1 st2 st' : St} {σ : L2.St}
/-- what an operation on values gives: data, or a new object -/
def NewR (K : PySem.W.Frag) (ρ : List Addr) (H : Hp) (r : EV) (H' : Hp) (v : V) : Prop := match r with
  | .d x => VR K ρ H' x v
  | .o x => ∃ p, v = .ref p ∧ H p = none ∧ OR K ρ H' p x
  | .pl _ => False
  | .it _ _ => False
theorem New.back (s : Step K ρ0 H0 st0 σ ρ2 H2 st2 σ) {p : Addr} (h : H2 p = none) : H0 p = none ∨ Dom st0 σ ρ0 p := by
  cases e : H0 p with
  | none => exact .inl rfl
  | some o =>
    by_cases n : Dom st0 σ ρ0 p
    · exact .inr n
    · have z := s.frame p o e n
      rw [h] at z
      cases z
theorem fin_new {r : EV} {v : V} (s : Step K ρ0 H0 st0 σ ρ2 H2 st2 σ) (e : Same H2 H') (n : NewR K ρ2 H2 r H' v) :
    Step K ρ0 H0 st0 σ ρ2 H' st2 σ ∧ ER K ρ2 H' st2 σ r v ∧ New ρ0 H0 st0 σ r v := by
  refine ⟨s.trans (Step.ext s.res e), ?_, ?_⟩
  · cases r with
    | d x => exact n
    | o x =>
      obtain ⟨p, e1, h1, h2⟩ := n
      exact ⟨p, e1, h2, s.res.notDom h1⟩
    | pl i => exact n.elim
    | it k vs => exact n.elim
  · intro x p e1 e2
    subst e1
    obtain ⟨q, e3, h1, h2⟩ := n
    rw [e2] at e3
    cases e3
    exact New.back s h1
theorem same_new {p : Addr} {o : HO} (h : H p = none) : Same H (upd H p o) := fun b x e => by
  rw [upd_ne (ne_of_none e h)]
  exact e
theorem NewR.tup {ds : List D} {vs : List V} {p : Addr} (h : H p = none) (r : VRs K ρ H ds vs) : NewR K ρ H (.d (.tup ds)) (upd H p (.tup vs)) (.ref p) :=
  ⟨p, vs, rfl, upd_same, r.mono (Pers.same (same_new h)) (List.prefix_refl _) ds vs⟩
theorem NewR.lst {ds : List D} {vs : List V} {p : Addr} (h : H p = none) (r : VRs K ρ H ds vs) : NewR K ρ H (.o (.lst ds)) (upd H p (.lst vs)) (.ref p) :=
  ⟨p, rfl, h, vs, upd_same, r.mono (Pers.same (same_new h)) (List.prefix_refl _) ds vs⟩
theorem VRs.rep {ds : List D} {vs : List V} (h : VRs K ρ H ds vs) : ∀ n : Nat, VRs K ρ H (List.replicate n ds).flatten (List.replicate n vs).flatten
  | 0 => rfl
  | n + 1 => by
    rw [List.replicate_succ, List.replicate_succ, List.flatten_cons, List.flatten_cons]
    exact h.append (h.rep n)
theorem VRs.eq_nil {ds : List D} {vs : List V} (r : VRs K ρ H ds vs) : vs = [] ↔ ds = [] := by
  have := r.length
  constructor
  · intro e
    rw [e] at this
    exact List.length_eq_zero_iff.mp this.symm
  · intro e
    rw [e] at this
    exact List.length_eq_zero_iff.mp this
end

theorem mul_ok {i j : Int} (h : i.natAbs.log2 + j.natAbs.log2 < 130000000) : CMulX i j := by
  have b : ∀ x : Int, Builtin.Int.intBits x ≤ x.natAbs.log2 + 1 := fun x => by
    unfold Builtin.Int.intBits
    split <;> omega
  have h1 := b i
  have h2 := b j
  unfold CMulX
  omega
section
variable {X : Cx}
/-- an operation on two values by f -/
def rVal2 (K : PySem.W.Frag) (f : Wv → Wv → Option EV) : R2 := fun x y H Q => ∃ ρ wa wb r, WR K ρ H wa x ∧ WR K ρ H wb y ∧ f wa wb = some r ∧ ∀ v H', Same H H' → NewR K ρ H r H' v → Q v H'
theorem op_binW (op : Operator) : OpR X (binaryOp op) (rVal2 X.K (binW op)) := by
  intro pins s σ H x y v u Q I rx ry ⟨ρ, wa, wb, r, ha, hb, e, q⟩
  have hlim := lim_line
  unfold binW at e
  split at e
  · obtain ⟨rfl, _⟩ := ha
    obtain ⟨rfl, _⟩ := hb
    split at e
    · cases e
      exact op_add pins s σ H _ _ v u Q I rx ry ⟨_, _, rfl, rfl, q _ H (Same.refl H) rfl⟩
    · cases e
      exact op_sub pins s σ H _ _ v u Q I rx ry ⟨_, _, rfl, rfl, q _ H (Same.refl H) rfl⟩
    · split at e
      · rename_i hc
        cases e
        exact opI (fun _ _ _ _ _ _ _ hc q => mul_int q (CMulX.ok hc)) pins s σ H _ _ v u Q I rx ry ⟨_, _, rfl, rfl, mul_ok hc, q _ H (Same.refl H) rfl⟩
      · cases e
    · split at e
      · rename_i hc
        cases e
        exact op_fdivW pins s σ H _ _ v u Q I rx ry ⟨_, _, rfl, rfl, hc, q _ H (Same.refl H) rfl⟩
      · cases e
    · split at e
      · rename_i hc
        cases e
        exact op_mod pins s σ H _ _ v u Q I rx ry ⟨_, _, rfl, rfl, hc, q _ H (Same.refl H) rfl⟩
      · cases e
    · split at e
      · rename_i hc
        cases e
        exact op_pow pins s σ H _ _ v u Q I rx ry ⟨_, _, rfl, rfl, hc, q _ H (Same.refl H) rfl⟩
      · cases e
    · split at e
      · rename_i hc
        cases e
        exact op_shl pins s σ H _ _ v u Q I rx ry ⟨_, _, rfl, rfl, hc, q _ H (Same.refl H) rfl⟩
      · cases e
    · cases e
  · obtain ⟨rfl, _⟩ := ha
    obtain ⟨rfl, _⟩ := hb
    split at e
    · split at e
      · cases e
        exact op_add_str pins s σ H _ _ v u Q I rx ry ⟨_, _, rfl, rfl, by omega, q _ H (Same.refl H) rfl⟩
      · cases e
    · cases e
  · obtain ⟨⟨a, vs, rfl, hs, hv⟩, _⟩ := ha
    obtain ⟨⟨b, ws, rfl, hs', hw⟩, _⟩ := hb
    split at e
    · split at e
      · cases e
        refine op_catA pins s σ H _ _ v u Q I rx ry ⟨a, b, vs, ws, rfl, rfl, .of hs, .of hs', by rw [hv.length, hw.length]; omega, fun z => ?_, fun z z' => ?_, fun z z' p hp => ?_⟩
        · have e1 := hv.eq_nil.mp z
          rw [e1, List.nil_append] at q
          exact q _ H (Same.refl H) ⟨b, ws, rfl, hs', hw⟩
        · have e1 := hw.eq_nil.mp z'
          rw [e1, List.append_nil] at q
          exact q _ H (Same.refl H) ⟨a, vs, rfl, hs, hv⟩
        · exact q _ _ (same_new hp) (NewR.tup hp (hv.append hw))
      · cases e
    · cases e
  · obtain ⟨a, rfl, vs, hs, hv⟩ := ha
    obtain ⟨b, rfl, ws, hs', hw⟩ := hb
    split at e
    · split at e
      · cases e
        exact op_cat pins s σ H _ _ v u Q I rx ry ⟨a, b, vs, ws, rfl, rfl, hs, hs', by rw [hv.length, hw.length]; omega, fun p hp => q _ _ (same_new hp) (NewR.lst hp (hv.append hw))⟩
      · cases e
    · cases e
  · obtain ⟨⟨a, vs, rfl, hs, hv⟩, _⟩ := ha
    obtain ⟨rfl, _⟩ := hb
    split at e
    · split at e
      · rename_i h1
        subst h1
        cases e
        exact op_onceT pins s σ H _ _ v u Q I rx ry ⟨a, vs, rfl, rfl, .of hs, q _ H (Same.refl H) ⟨a, vs, rfl, hs, hv⟩⟩
      split at e
      · rename_i hc
        obtain ⟨c1, c2, c3, c4⟩ := hc
        cases e
        exact op_repT pins s σ H _ _ v u Q I rx ry ⟨a, _, vs, rfl, rfl, .of hs, fun z => c1 (hv.eq_nil.mp z), c2, c3, by rw [hv.length]; exact c4, fun p hp => q _ _ (same_new hp) (NewR.tup hp (hv.rep _))⟩
      · cases e
    · cases e
  · obtain ⟨a, rfl, vs, hs, hv⟩ := ha
    obtain ⟨rfl, _⟩ := hb
    split at e
    · split at e
      · rename_i hc
        obtain ⟨c1, c2, c3⟩ := hc
        cases e
        exact op_rep pins s σ H _ _ v u Q I rx ry ⟨a, _, vs, rfl, rfl, hs, by omega, by omega, by rw [hv.length]; omega, fun p hp => q _ _ (same_new hp) (NewR.lst hp (hv.rep _))⟩
      · cases e
    · cases e
  · obtain ⟨rfl, _⟩ := ha
    obtain ⟨rfl, _⟩ := hb
    split at e
    · split at e
      · rename_i hc
        obtain ⟨c1, c2, c3⟩ := hc
        cases e
        exact op_mulS pins s σ H _ _ v u Q I rx ry ⟨_, _, rfl, rfl, c1, by omega, by omega, q _ H (Same.refl H) rfl⟩
      · cases e
    · cases e
  · obtain ⟨⟨a, vs, rfl, hs, hv⟩, _⟩ := ha
    obtain ⟨b, rfl, ws, hs', hw⟩ := hb
    split at e
    · split at e
      · cases e
        refine op_catF pins s σ H _ _ v u Q I rx ry ⟨a, b, vs, ws, rfl, rfl, ?_, .of hs', by rw [hv.length, hw.length]; omega, fun p hp => q _ _ (same_new hp) (NewR.lst hp (hv.append hw))⟩
        rcases hs with h | h
        · exact .inl (.inr h)
        · exact .inr h
      · cases e
    · cases e
  · cases e
end

section
variable {K : PySem.W.Frag} {ρ : List Addr} {H : Hp}
mutual
theorem VR.dp : ∀ (d : D) (v : V), d.pure = true → VR K ρ H d v → Dp K H v d.toP
  | .non, v, _, h => by
    cases h
    exact .non
  | .bl b, v, _, h => by
    cases h
    exact .bl b
  | .int i, v, _, h => by
    cases h
    exact .int i
  | .str x, v, _, h => by
    cases h
    exact .str x
  | .tup ds, v, p, h => by
    obtain ⟨a, vs, rfl, hs, hr⟩ := h
    exact .tup (.of hs) (VRs.dp ds vs (by simpa [D.pure] using p) hr)
  | .ref a, v, p, h => by simp [D.pure] at p
  | .fz ds, v, p, h => by simp [D.pure] at p
  | .exn c, v, p, h => by simp [D.pure] at p
theorem VRs.dp : ∀ (ds : List D) (vs : List V), D.pures ds = true → VRs K ρ H ds vs → DpAll K H vs (D.toPs ds)
  | [], vs, _, h => by
    have e : vs = [] := h
    rw [e]
    exact .nil
  | d :: ds, vs, p, h => by
    obtain ⟨v, r, rfl, h1, h2⟩ := h
    have p' : d.pure = true ∧ D.pures ds = true := by simpa [D.pures] using p
    exact .cons (VR.dp d v p'.1 h1) (VRs.dp ds r p'.2 h2)
end
mutual
theorem pure_lay : ∀ d : D, d.pure = true → d.toP.canLay0 = true
  | .non, _ => rfl
  | .bl b, _ => rfl
  | .int i, _ => rfl
  | .str x, h => by simpa [D.pure, D.toP, PyData.canLay0] using h
  | .tup ds, h => by
    have := pures_lay ds (by simpa [D.pure] using h)
    simpa [D.toP, PyData.canLay0] using this
  | .ref a, h => by simp [D.pure] at h
  | .fz ds, h => by simp [D.pure] at h
  | .exn c, h => by simp [D.pure] at h
theorem pures_lay : ∀ ds : List D, D.pures ds = true → PyData.canLayAll0 (D.toPs ds) = true
  | [], _ => rfl
  | d :: ds, h => by
    have p' : d.pure = true ∧ D.pures ds = true := by simpa [D.pures] using h
    have h1 := pure_lay d p'.1
    have h2 := pures_lay ds p'.2
    simp [D.toPs, PyData.canLayAll0, h1, h2]
end
theorem any_toPs (x : PyData) : ∀ ds : List D, ((D.toPs ds).any fun y => PyData.eqv y x) = ds.any fun y => PyData.eqv y.toP x
  | [] => rfl
  | d :: ds => by simp [D.toPs, any_toPs x ds]
end
/-- where the stack has room for deep data -/
def Deep (X : Cx) : Prop := X.A.units + 200 < cLine
section
variable {X : Cx}
theorem fin_b {pins : List (Addr × Obj)} {σ : L2.St} {H : Hp} {s : Shared} {Q : VK} {b : Bool} (I : Inv X pins σ H s) (q : Q (.bl b) H) : EP X pins σ Q (.bool b) s := ⟨.bl b, H, I, rfl, q⟩
def rB (K : PySem.W.Frag) (f : Wv → Wv → Option Bool) : R2 := fun x y H Q => ∃ ρ wa wb b, WR K ρ H wa x ∧ WR K ρ H wb y ∧ f wa wb = some b ∧ Q (.bl b) H
theorem WR.dp {K : PySem.W.Frag} {ρ : List Addr} {H : Hp} {w : Wv} {v : V} (p : w.pure = true) (h : WR K ρ H w v) : Dp K H v w.toP := by
  cases w with
  | d x => exact VR.dp x v p h.1
  | o x =>
    cases x with
    | lst ds =>
      obtain ⟨a, rfl, vs, hp, hv⟩ := h
      exact .lst (.of hp) (VRs.dp ds vs p hv)
    | dct _ => cases p
    | ins _ _ => cases p
    | lkd _ => cases p
theorem Wv.lay {w : Wv} (p : w.pure = true) : w.toP.canLay0 = true := by
  cases w with
  | d x => exact pure_lay x p
  | o x =>
    cases x with
    | lst ds => simpa [Wv.toP, PyData.canLay0] using pures_lay ds p
    | dct _ => cases p
    | ins _ _ => cases p
    | lkd _ => cases p
/-- xs == [] looks at the lengths alone -/
theorem eq_empty {pins : List (Addr × Obj)} {σ : L2.St} {H : Hp} {s : Shared} {ρ : List Addr} {a b : Addr} {ds : List D} {vs ws : List V} {v u : Value} {Q E : Value → Shared → Prop} (hu : X.A.units + 200 < cLine) (I : Inv X pins σ H s) (rx : RelV (.ref a) v) (ry : RelV (.ref b) u)
    (hs : H a = some (.lst vs)) (hv : VRs X.K ρ H ds vs) (hs' : H b = some (.lst ws)) (hw : VRs X.K ρ H [] ws) (q : Q (.bool ds.isEmpty) s) : wpAny (model X.prog X.w) X.A (compareOp .Eq v u) Q E s := by
  cases (show v = Value.ref a from rx)
  cases (show u = Value.ref b from ry)
  have e : ws = [] := hw
  subst e
  obtain ⟨us, r1, p1, _⟩ := I.list (SqL.of (K := X.K) hs)
  obtain ⟨us2, r2, p2, _⟩ := I.list (SqL.of (K := X.K) hs')
  cases r2
  have hl := hv.length
  have hl2 : us.length = vs.length := r1.length.symm
  cases ds with
  | nil =>
    have e : us = [] := List.length_eq_zero_iff.mp (by rw [hl2, hl]; rfl)
    subst e
    exact SeqAt.RcAt.lists (e := fun _ => true) p1.isList p2.isList rfl (by omega) (fun j h1 h2 => absurd h1 (Nat.not_lt_zero j)) X.prog X.w E Q q
  | cons d ds =>
    exact SeqAt.RcAt.lists_lengths p1.isList p2.isList (by simp [hl2, hl]) (by omega) X.prog X.w E Q q
theorem ne_empty {pins : List (Addr × Obj)} {σ : L2.St} {H : Hp} {s : Shared} {ρ : List Addr} {a b : Addr} {ds : List D} {vs ws : List V} {v u : Value} {Q E : Value → Shared → Prop} (hu : X.A.units + 200 < cLine) (I : Inv X pins σ H s) (rx : RelV (.ref a) v) (ry : RelV (.ref b) u)
    (hs : H a = some (.lst vs)) (hv : VRs X.K ρ H ds vs) (hs' : H b = some (.lst ws)) (hw : VRs X.K ρ H [] ws) (q : Q (.bool (!ds.isEmpty)) s) : wpAny (model X.prog X.w) X.A (compareOp .NotEq v u) Q E s := by
  cases (show v = Value.ref a from rx)
  cases (show u = Value.ref b from ry)
  have e : ws = [] := hw
  subst e
  obtain ⟨us, r1, p1, _⟩ := I.list (SqL.of (K := X.K) hs)
  obtain ⟨us2, r2, p2, _⟩ := I.list (SqL.of (K := X.K) hs')
  cases r2
  have hl := hv.length
  have hl2 : us.length = vs.length := r1.length.symm
  cases ds with
  | nil =>
    have e : us = [] := List.length_eq_zero_iff.mp (by rw [hl2, hl]; rfl)
    subst e
    exact SeqAt.RcNeAt.lists (e := fun _ => true) p1.isList p2.isList rfl (by omega) (fun j h1 h2 => absurd h1 (Nat.not_lt_zero j)) X.prog X.w E Q q
  | cons d ds =>
    exact SeqAt.RcNeAt.lists_lengths p1.isList p2.isList (by simp [hl2, hl]) (by omega) X.prog X.w E Q q
theorem KVs.len {κ : Type} {f : D → Option κ} {K : PySem.W.Frag} {ρ : List Addr} {H : Hp} : ∀ {kvs : List (D × D)} {ks : List (κ × V)}, KVs K ρ H f kvs ks → kvs.length = ks.length
  | [], ks, h => by
    have e : ks = [] := h
    subst e
    rfl
  | q :: r, ks, h => by
    obtain ⟨k, v, t, rfl, _, _, h3⟩ := h
    rw [List.length_cons, List.length_cons, KVs.len h3]
theorem KVs.find {κ : Type} [DecidableEq κ] {f : D → Option κ} {K : PySem.W.Frag} {ρ : List Addr} {H : Hp} {d : D} {k : κ} (hk : f d = some k) : ∀ {kvs : List (D × D)} {ks : List (κ × V)}, KVs K ρ H f kvs ks →
    ((kvs.find? fun p => decide (f p.1 = f d)).map (·.2) = none ∧ valV ks k = none) ∨ ∃ x v, (kvs.find? fun p => decide (f p.1 = f d)).map (·.2) = some x ∧ valV ks k = some v ∧ VR K ρ H x v
  | [], ks, h => by
    have e : ks = [] := h
    subst e
    exact .inl ⟨rfl, rfl⟩
  | q :: r, ks, h => by
    obtain ⟨k', v, t, rfl, h1, h2, h3⟩ := h
    by_cases c : k' = k
    · subst c
      refine .inr ⟨q.2, v, ?_, valV_pos rfl, h2⟩
      rw [List.find?_cons]
      simp [h1, hk]
    · have e1 : ((q :: r).find? fun p => decide (f p.1 = f d)) = r.find? fun p => decide (f p.1 = f d) := by
        rw [List.find?_cons]
        simp [h1, hk, c]
      rw [e1, valV_neg (p := (k', v)) c]
      exact KVs.find hk h3
theorem kkey_f : (fun (p : D × D) (d : D) => decide (kkey false p.1 = kkey false d)) = fun p d => decide (fkey p.1 = fkey d) := by
  funext p d
  rw [decide_eq_decide]
  unfold kkey
  simp only [Bool.false_eq_true, if_false]
  cases fkey p.1 <;> cases fkey d <;> simp
theorem dget_f (kvs : List (D × D)) (d : D) : dget false kvs d = (kvs.find? fun p => decide (fkey p.1 = fkey d)).map (·.2) := by
  unfold dget
  congr 2
  funext p
  exact congrFun (congrFun kkey_f p) d
theorem dget_t (kvs : List (D × D)) (d : D) : dget true kvs d = (kvs.find? fun p => decide (tkey p.1 = tkey d)).map (·.2) := rfl
/-- what == of dicts looks at -/
theorem dict_hits {pins : List (Addr × Obj)} {σ : L2.St} {H : Hp} {s : Shared} {ρ : List Addr} (I : Inv X pins σ H s) {A : Around} (hu : A.units + 150 < cLine) {ys : List (D × D)} {ls : List (Key × V)} {vb : List (Key × Value)} (hl : KVs X.K ρ H fkey ys ls) (rb : KV ls vb) :
    ∀ (xs : List (D × D)) {ks : List (Key × V)} {va : List (Key × Value)}, KVs X.K ρ H fkey xs ks → KV ks va → (xs.all fun p => match dget false ys p.1 with
      | some y => p.2.pure && y.pure && decide (p.2.toP.depth ≤ 140) && PyData.eqv p.2.toP y.toP
      | none => false) = true → PySem.W.KeqHits A s vb va true
  | [], ks, va, h, r, _ => by
    have e : ks = [] := h
    subst e
    cases r
    exact .nil
  | q :: xs, ks, va, h, r, hall => by
    obtain ⟨k, v, t, rfl, h1, h2, h3⟩ := h
    rw [List.all_cons, Bool.and_eq_true] at hall
    obtain ⟨g, hall⟩ := hall
    cases r with
    | @cons _ q2 _ qs g1 g2 =>
      obtain ⟨key, u⟩ := q2
      obtain ⟨r1, r2⟩ := g1
      have r1' : k = key := r1
      have r2' : RelV v u := r2
      rw [dget_f] at g
      rcases hl.find (d := q.1) h1 with ⟨a, b⟩ | ⟨y, v', a, b, c⟩
      · rw [a] at g
        cases g
      · rw [a] at g
        simp only [Bool.and_eq_true, decide_eq_true_eq] at g
        obtain ⟨⟨⟨p1, p2⟩, p3⟩, p4⟩ := g
        have rr : RelO (some v') (valueAt vb k) := by rw [← b]; exact rb.val k
        obtain ⟨w, hw, rw'⟩ := rr.some_of
        obtain ⟨as, e1⟩ := Dp.reads I _ v u (VR.dp _ v p1 h2) r2'
        obtain ⟨bs, e2⟩ := Dp.reads I _ v' w (VR.dp _ v' p2 c) rw'
        have ea := SeqAt.eqAt_reads q.2.toP y.toP A s u w as bs e1 e2 (pure_lay _ p1) (pure_lay _ p2) (by omega)
        rw [p4] at ea
        rw [r1'] at hw
        show PySem.W.KeqHits A s vb ((key, u) :: qs) (true && true)
        exact .hit hw ea (dict_hits I hu hl rb xs h3 g2 hall)
theorem op_eqW (hu : Deep X) : OpR X (compareOp .Eq) (rB X.K eqW) := by
  intro pins s σ H x y v u Q I rx ry ⟨ρ, wa, wb, b, ha, hb, e, q⟩
  have hd : deepest = 150 := rfl
  unfold Deep at hu
  unfold eqW at e
  split at e
  · obtain ⟨rfl, _⟩ := ha
    obtain ⟨rfl, _⟩ := hb
    cases e
    refine op_eq pins s σ H _ _ v u Q I rx ry ⟨rfl, ?_⟩
    rw [dec_int]
    exact q
  · obtain ⟨rfl, _⟩ := ha
    obtain ⟨rfl, _⟩ := hb
    cases e
    refine op_eq pins s σ H _ _ v u Q I rx ry ⟨rfl, ?_⟩
    rw [dec_str]
    exact q
  · obtain ⟨a, rfl, vs, hs, hv⟩ := ha
    obtain ⟨b', rfl, ws, hs', hw⟩ := hb
    cases e
    exact eq_empty hu I rx ry hs hv hs' hw (fin_b I q)
  · split at e
    · rename_i xs ys hc
      cases e
      obtain ⟨a, rfl, ks, hk, hv⟩ := ha
      obtain ⟨b', rfl, ls, hl, hw⟩ := hb
      unfold dEq at hc
      rw [Bool.and_eq_true, decide_eq_true_eq] at hc
      cases rx
      cases ry
      obtain ⟨_, ya, va, ra, da⟩ := (show ObjOk X.prog X.w H s.heap a (.dK ks) from I.hok a _ hk)
      obtain ⟨_, yb, vb, rb, db⟩ := (show ObjOk X.prog X.w H s.heap b' (.dK ls) from I.hok b' _ hl)
      have hits := dict_hits (A := X.A.in1) I (by show X.A.units + 1 + 150 < cLine; omega) hw rb xs hv ra hc.2
      have len : va.length = vb.length := by
        rw [← ra.length, ← rb.length, ← hv.len, ← hw.len]
        exact hc.1
      refine PySem.W.keq_eq (knd := mixKind X.prog X.w) (r := true) ya yb da db (by omega) (fun _ => hits) ?_
      rw [len]
      simpa using fin_b I q
    · cases e
  · split at e
    · rename_i hc
      simp only [Bool.and_eq_true, decide_eq_true_eq] at hc
      cases e
      obtain ⟨as, r1⟩ := Dp.reads I _ x v (WR.dp hc.1.1 ha) rx
      obtain ⟨bs, r2⟩ := Dp.reads I _ y u (WR.dp hc.1.2 hb) ry
      exact SeqAt.compareEq_reads r1 r2 (Wv.lay hc.1.1) (Wv.lay hc.1.2) (by have := hc.2; omega) (fin_b I q)
    · cases e
theorem op_neW (hu : Deep X) : OpR X (compareOp .NotEq) (rB X.K fun a b => (eqW a b).map (!·)) := by
  intro pins s σ H x y v u Q I rx ry ⟨ρ, wa, wb, b, ha, hb, e, q⟩
  have hd : deepest = 150 := rfl
  unfold Deep at hu
  have e' : (eqW wa wb).map (!·) = some b := e
  cases e1 : eqW wa wb with
  | none =>
    rw [e1] at e'
    cases e'
  | some c =>
    rw [e1] at e'
    cases e'
    unfold eqW at e1
    split at e1
    · obtain ⟨rfl, _⟩ := ha
      obtain ⟨rfl, _⟩ := hb
      cases e1
      refine op_ne pins s σ H _ _ v u Q I rx ry ⟨rfl, ?_⟩
      rw [dec_int]
      exact q
    · obtain ⟨rfl, _⟩ := ha
      obtain ⟨rfl, _⟩ := hb
      cases e1
      refine op_ne pins s σ H _ _ v u Q I rx ry ⟨rfl, ?_⟩
      rw [dec_str]
      exact q
    · obtain ⟨a, rfl, vs, hs, hv⟩ := ha
      obtain ⟨b', rfl, ws, hs', hw⟩ := hb
      cases e1
      exact ne_empty hu I rx ry hs hv hs' hw (fin_b I q)
    · split at e1
      · rename_i xs ys hc
        cases e1
        obtain ⟨a, rfl, ks, hk, hv⟩ := ha
        obtain ⟨b', rfl, ls, hl, hw⟩ := hb
        unfold dEq at hc
        rw [Bool.and_eq_true, decide_eq_true_eq] at hc
        cases rx
        cases ry
        obtain ⟨_, ya, va, ra, da⟩ := (show ObjOk X.prog X.w H s.heap a (.dK ks) from I.hok a _ hk)
        obtain ⟨_, yb, vb, rb, db⟩ := (show ObjOk X.prog X.w H s.heap b' (.dK ls) from I.hok b' _ hl)
        have hits := dict_hits (A := X.A.in1) I (by show X.A.units + 1 + 150 < cLine; omega) hw rb xs hv ra hc.2
        have len : va.length = vb.length := by
          rw [← ra.length, ← rb.length, ← hv.len, ← hw.len]
          exact hc.1
        refine PySem.W.keq_ne (knd := mixKind X.prog X.w) (r := true) ya yb da db (by omega) (fun _ => hits) ?_
        rw [len]
        simpa using fin_b I q
      · cases e1
    · split at e1
      · rename_i hc
        simp only [Bool.and_eq_true, decide_eq_true_eq] at hc
        cases e1
        obtain ⟨as, r1⟩ := Dp.reads I _ x v (WR.dp hc.1.1 ha) rx
        obtain ⟨bs, r2⟩ := Dp.reads I _ y u (WR.dp hc.1.2 hb) ry
        exact SeqAt.compareNe_reads r1 r2 (Wv.lay hc.1.1) (Wv.lay hc.1.2) (by have := hc.2; omega) (fin_b I q)
      · cases e1
theorem op_swap {op : CmpOp} {f : Wv → Wv → Option Bool} (h : OpR X (compareOp op) (rB X.K f)) {g : Wv → Wv → Option Bool} (e : ∀ a b, g a b = f a b) : OpR X (compareOp op) (rB X.K g) := by
  rw [show g = f from funext fun a => funext fun b => e a b]
  exact h
theorem seq_ne {w : Wv} (h : w.isSeq = true) : w.toP ≠ .none := by
  cases w with
  | d x => cases x <;> first | (simp [Wv.isSeq] at h; done) | simp [Wv.toP, D.toP]
  | o x => cases x <;> first | (simp [Wv.isSeq] at h; done) | simp [Wv.toP]
theorem op_ltW (hu : Deep X) : OpR X (compareOp .Lt) (rB X.K ltW) := by
  intro pins s σ H x y v u Q I rx ry ⟨ρ, wa, wb, b, ha, hb, e, q⟩
  have hd : deepest = 150 := rfl
  unfold Deep at hu
  unfold ltW at e
  split at e
  · obtain ⟨rfl, _⟩ := ha
    obtain ⟨rfl, _⟩ := hb
    cases e
    exact op_lt pins s σ H _ _ v u Q I rx ry ⟨_, _, rfl, rfl, q⟩
  · obtain ⟨rfl, _⟩ := ha
    obtain ⟨rfl, _⟩ := hb
    cases e
    exact op_lt_str pins s σ H _ _ v u Q I rx ry ⟨_, _, rfl, rfl, q⟩
  · split at e
    · rename_i hc
      simp only [Bool.and_eq_true, decide_eq_true_eq] at hc
      cases e
      obtain ⟨as, r1⟩ := Dp.reads I _ x v (WR.dp hc.1.1.1.1 ha) rx
      obtain ⟨bs, r2⟩ := Dp.reads I _ y u (WR.dp hc.1.1.1.2 hb) ry
      exact PySem.W.lt_data r1 r2 hc.1.2 (seq_ne hc.1.1.2) (by have := hc.2; omega) (fin_b I q)
    · cases e
theorem op_gtW (hu : Deep X) : OpR X (compareOp .Gt) (rB X.K fun a b => ltW b a) := by
  intro pins s σ H x y v u Q I rx ry ⟨ρ, wa, wb, b, ha, hb, e, q⟩
  have hd : deepest = 150 := rfl
  unfold Deep at hu
  simp only at e
  unfold ltW at e
  split at e
  · obtain ⟨rfl, _⟩ := ha
    obtain ⟨rfl, _⟩ := hb
    cases e
    exact op_gt pins s σ H _ _ v u Q I rx ry ⟨_, _, rfl, rfl, q⟩
  · obtain ⟨rfl, _⟩ := ha
    obtain ⟨rfl, _⟩ := hb
    cases e
    exact op_gt_str pins s σ H _ _ v u Q I rx ry ⟨_, _, rfl, rfl, q⟩
  · split at e
    · rename_i hc
      simp only [Bool.and_eq_true, decide_eq_true_eq] at hc
      cases e
      obtain ⟨as, r1⟩ := Dp.reads I _ x v (WR.dp hc.1.1.1.2 ha) rx
      obtain ⟨bs, r2⟩ := Dp.reads I _ y u (WR.dp hc.1.1.1.1 hb) ry
      have al := hc.1.2
      exact PySem.W.gt_data r1 r2 (by rw [PySem.W.alike_comm]; exact al) (PySem.W.ne_none_both al (seq_ne hc.1.1.2)) (by have := hc.2; omega) (fin_b I q)
    · cases e
theorem not_lt_le (a b : Int) : (!decide (b < a)) = decide (a ≤ b) := by
  by_cases h : b < a
  · rw [decide_eq_true h, decide_eq_false (by omega)]
    rfl
  · rw [decide_eq_false h, decide_eq_true (by omega)]
    rfl
theorem op_leW (hu : Deep X) : OpR X (compareOp .LtE) (rB X.K fun a b => (ltW b a).map (!·)) := by
  intro pins s σ H x y v u Q I rx ry ⟨ρ, wa, wb, b, ha, hb, e, q⟩
  have hd : deepest = 150 := rfl
  unfold Deep at hu
  have e' : (ltW wb wa).map (!·) = some b := e
  cases e1 : ltW wb wa with
  | none =>
    rw [e1] at e'
    cases e'
  | some c =>
    rw [e1] at e'
    cases e'
    unfold ltW at e1
    split at e1
    · obtain ⟨rfl, _⟩ := ha
      obtain ⟨rfl, _⟩ := hb
      cases e1
      exact op_le pins s σ H _ _ v u Q I rx ry ⟨_, _, rfl, rfl, by simp only []; rw [← not_lt_le]; exact q⟩
    · cases e1
      obtain ⟨rfl, _⟩ := ha
      obtain ⟨rfl, _⟩ := hb
      exact op_le_str pins s σ H _ _ v u Q I rx ry ⟨_, _, rfl, rfl, q⟩
    · split at e1
      · rename_i hc
        simp only [Bool.and_eq_true, decide_eq_true_eq] at hc
        cases e1
        obtain ⟨as, r1⟩ := Dp.reads I _ x v (WR.dp hc.1.1.1.2 ha) rx
        obtain ⟨bs, r2⟩ := Dp.reads I _ y u (WR.dp hc.1.1.1.1 hb) ry
        have al := hc.1.2
        exact PySem.W.le_data r1 r2 (by rw [PySem.W.alike_comm]; exact al) (PySem.W.ne_none_both al (seq_ne hc.1.1.2)) (by have := hc.2; omega) (fin_b I q)
      · cases e1
theorem op_geW (hu : Deep X) : OpR X (compareOp .GtE) (rB X.K fun a b => (ltW a b).map (!·)) := by
  intro pins s σ H x y v u Q I rx ry ⟨ρ, wa, wb, b, ha, hb, e, q⟩
  have hd : deepest = 150 := rfl
  unfold Deep at hu
  have e' : (ltW wa wb).map (!·) = some b := e
  cases e1 : ltW wa wb with
  | none =>
    rw [e1] at e'
    cases e'
  | some c =>
    rw [e1] at e'
    cases e'
    unfold ltW at e1
    split at e1
    · obtain ⟨rfl, _⟩ := ha
      obtain ⟨rfl, _⟩ := hb
      cases e1
      exact op_ge pins s σ H _ _ v u Q I rx ry ⟨_, _, rfl, rfl, by simp only []; rw [← not_lt_le]; exact q⟩
    · cases e1
      obtain ⟨rfl, _⟩ := ha
      obtain ⟨rfl, _⟩ := hb
      exact op_ge_str pins s σ H _ _ v u Q I rx ry ⟨_, _, rfl, rfl, q⟩
    · split at e1
      · rename_i hc
        simp only [Bool.and_eq_true, decide_eq_true_eq] at hc
        cases e1
        obtain ⟨as, r1⟩ := Dp.reads I _ x v (WR.dp hc.1.1.1.1 ha) rx
        obtain ⟨bs, r2⟩ := Dp.reads I _ y u (WR.dp hc.1.1.1.2 hb) ry
        exact PySem.W.ge_data r1 r2 hc.1.2 (seq_ne hc.1.1.2) (by have := hc.2; omega) (fin_b I q)
      · cases e1
/-- dicts: what stands by a key -/
theorem fkey_V {K : PySem.W.Frag} {ρ : List Addr} {H : Hp} {d : D} {v : V} {k : Key} (h : VR K ρ H d v) (e : fkey d = some k) : v = kV k := by
  cases d with
  | int i =>
    cases e
    exact h
  | str x =>
    cases e
    exact h
  | _ => cases e
theorem fkeys_V {K : PySem.W.Frag} {ρ : List Addr} {H : Hp} : ∀ {ds : List D} {vs : List V} {ks : List Key}, VRs K ρ H ds vs → fkeys ds = some ks → vs = ks.map kV
  | [], vs, ks, h, e => by
    cases e
    exact h
  | d :: ds, vs, ks, h, e => by
    obtain ⟨v, r, rfl, h1, h2⟩ := h
    simp only [fkeys] at e
    cases e1 : fkey d with
    | none =>
      rw [e1] at e
      cases e
    | some k =>
      cases e2 : fkeys ds with
      | none =>
        rw [e1, e2] at e
        cases e
      | some r' =>
        rw [e1, e2] at e
        cases e
        rw [fkey_V h1 e1, fkeys_V h2 e2]
        rfl
theorem kkey_some {d : D} (h : (kkey false d).isSome = true) : ∃ k, fkey d = some k := by
  unfold kkey at h
  simp only [Bool.false_eq_true, if_false] at h
  cases e : fkey d with
  | none =>
    rw [e] at h
    cases h
  | some k => exact ⟨k, rfl⟩
theorem tkey_some {d : D} (h : (kkey true d).isSome = true) : ∃ ds ks, d = .tup ds ∧ fkeys ds = some ks ∧ tkey d = some ks := by
  have h' : (tkey d).isSome = true := h
  cases d with
  | tup ds =>
    cases e : fkeys ds with
    | none =>
      have : tkey (.tup ds) = none := e
      rw [this] at h'
      cases h'
    | some ks => exact ⟨ds, ks, rfl, e, e⟩
  | _ => cases h'
/-- a dict's reading -/
theorem OR.get {K : PySem.W.Frag} {ρ : List Addr} {H : Hp} {p : Addr} {t : Bool} {kvs : List (D × D)} {d : D} {v : V} (h : OR K ρ H p (.dct t kvs)) (hd : VR K ρ H d v) (hk : (kkey t d).isSome = true) :
    ∃ o, DGet H p v o ∧ ((dget t kvs d = none ∧ o = none) ∨ ∃ x u, dget t kvs d = some x ∧ o = some u ∧ VR K ρ H x u) := by
  cases t with
  | false =>
    obtain ⟨ks, h1, h2⟩ := h
    obtain ⟨k, hk⟩ := kkey_some hk
    have e := fkey_V hd hk
    subst e
    refine ⟨_, DGet.k h1, ?_⟩
    rw [dget_f]
    rcases h2.find hk with ⟨a, b⟩ | ⟨x, u, a, b, c⟩
    · exact .inl ⟨a, b⟩
    · exact .inr ⟨x, u, a, b, c⟩
  | true =>
    obtain ⟨ks, h1, h2⟩ := h
    obtain ⟨ds, k, rfl, hk1, hk2⟩ := tkey_some hk
    obtain ⟨b, vs, rfl, hb, hv⟩ := hd
    have e := fkeys_V hv hk1
    subst e
    refine ⟨_, DGet.t h1 hb, ?_⟩
    rw [dget_t]
    rcases h2.find hk2 with ⟨a, b⟩ | ⟨x, u, a, b, c⟩
    · exact .inl ⟨a, b⟩
    · exact .inr ⟨x, u, a, b, c⟩
theorem OR.getL {K : PySem.W.Frag} {ρ : List Addr} {H : Hp} {p : Addr} {kvs : List (D × D)} {d : D} {y : V} (h : OR K ρ H p (.lkd kvs)) (hd : VR K ρ H d y) (hk : (kkey false d).isSome = true) :
    ∃ o, DGet H p y o ∧ ((dget false kvs d = none ∧ o = none) ∨ ∃ x v, dget false kvs d = some x ∧ o = some v ∧ VR K ρ H x v) := by
  obtain ⟨ob, ks, h1, h2⟩ := h
  obtain ⟨k, hk2⟩ := kkey_some hk
  have e := fkey_V hd hk2
  subst e
  refine ⟨_, .inl ⟨ks, k, .inr ⟨ob, h1⟩, rfl, rfl⟩, ?_⟩
  rw [dget_f]
  rcases h2.find hk2 with ⟨a, b⟩ | ⟨x, u, a, b, c⟩
  · exact .inl ⟨a, b⟩
  · exact .inr ⟨x, u, a, b, c⟩
theorem op_inW (hu : Deep X) : OpR X (compareOp .In) (rB X.K inW) := by
  intro pins s σ H x y v u Q I rx ry ⟨ρ, wa, wb, b, ha, hb, e, q⟩
  have hd : deepest = 150 := rfl
  unfold Deep at hu
  unfold inW at e
  split at e
  · obtain ⟨rfl, _⟩ := ha
    obtain ⟨rfl, _⟩ := hb
    cases e
    exact op_in_str pins s σ H _ _ v u Q I rx ry ⟨_, _, rfl, rfl, q⟩
  · split at e
    · rename_i hk
      obtain ⟨hd, _⟩ := ha
      obtain ⟨p, rfl, hp⟩ := hb
      obtain ⟨o, g, hg⟩ := hp.get hd hk
      cases (show u = Value.ref p from ry)
      have eo : b = o.isSome := by
        rcases hg with ⟨a, b'⟩ | ⟨x, w, a, b', _⟩ <;> rw [a] at e <;> cases e <;> rw [b'] <;> rfl
      rw [eo] at q
      exact d_in (by omega) I g rx fun s' I' => ⟨.bl o.isSome, H, I', rfl, q⟩
    · cases e
  · split at e
    · rename_i hk
      obtain ⟨hd, _⟩ := ha
      obtain ⟨p, rfl, hp⟩ := hb
      obtain ⟨o, g, hg⟩ := hp.getL hd hk
      cases (show u = Value.ref p from ry)
      have eo : b = o.isSome := by
        rcases hg with ⟨a, b'⟩ | ⟨x, w, a, b', _⟩ <;> rw [a] at e <;> cases e <;> rw [b'] <;> rfl
      rw [eo] at q
      exact d_in (by omega) I g rx fun s' I' => ⟨.bl o.isSome, H, I', rfl, q⟩
    · cases e
  · split at e
    · rename_i hc
      simp only [Bool.and_eq_true, decide_eq_true_eq] at hc
      cases e
      obtain ⟨as, r1⟩ := Dp.reads I _ x v (WR.dp hc.1.1 ha) rx
      obtain ⟨bs, r2⟩ := Dp.reads I _ y u (WR.dp (w := .d (.tup _)) (by simpa [Wv.pure, D.pure] using hc.1.2) hb) ry
      refine SeqAt.in_tuple_reads (by simpa [Wv.toP, D.toP] using r2) r1 (pures_lay _ hc.1.2) (Wv.lay hc.1.1) (by have := hc.2; omega) (fin_b I ?_)
      rw [any_toPs]
      exact q
    · cases e
  · split at e
    · rename_i hc
      simp only [Bool.and_eq_true, decide_eq_true_eq] at hc
      cases e
      obtain ⟨as, r1⟩ := Dp.reads I _ x v (WR.dp hc.1.1 ha) rx
      obtain ⟨bs, r2⟩ := Dp.reads I _ y u (WR.dp (w := .o (.lst _)) (by simpa [Wv.pure] using hc.1.2) hb) ry
      refine SeqAt.in_list_reads (by simpa [Wv.toP] using r2) r1 (pures_lay _ hc.1.2) (Wv.lay hc.1.1) (by have := hc.2; omega) (fin_b I ?_)
      rw [any_toPs]
      exact q
    · cases e
  · cases e
theorem op_notInW (hu : Deep X) : OpR X (compareOp .NotIn) (rB X.K fun a b => (inW a b).map (!·)) := by
  intro pins s σ H x y v u Q I rx ry ⟨ρ, wa, wb, b, ha, hb, e, q⟩
  have hd : deepest = 150 := rfl
  unfold Deep at hu
  have e' : (inW wa wb).map (!·) = some b := e
  cases e1 : inW wa wb with
  | none =>
    rw [e1] at e'
    cases e'
  | some c =>
    rw [e1] at e'
    cases e'
    unfold inW at e1
    split at e1
    · obtain ⟨rfl, _⟩ := ha
      obtain ⟨rfl, _⟩ := hb
      cases e1
      exact op_notin_str pins s σ H _ _ v u Q I rx ry ⟨_, _, rfl, rfl, q⟩
    · split at e1
      · rename_i hk
        obtain ⟨hd, _⟩ := ha
        obtain ⟨p, rfl, hp⟩ := hb
        obtain ⟨o, g, hg⟩ := hp.get hd hk
        cases (show u = Value.ref p from ry)
        have eo : c = o.isSome := by
          rcases hg with ⟨a, b'⟩ | ⟨x, w, a, b', _⟩ <;> rw [a] at e1 <;> cases e1 <;> rw [b'] <;> rfl
        rw [eo] at q
        exact d_notIn (by omega) I g rx fun s' I' => ⟨.bl (!o.isSome), H, I', rfl, q⟩
      · cases e1
    · split at e1
      · rename_i hk
        obtain ⟨hd, _⟩ := ha
        obtain ⟨p, rfl, hp⟩ := hb
        obtain ⟨o, g, hg⟩ := hp.getL hd hk
        cases (show u = Value.ref p from ry)
        have eo : c = o.isSome := by
          rcases hg with ⟨a, b'⟩ | ⟨x, w, a, b', _⟩ <;> rw [a] at e1 <;> cases e1 <;> rw [b'] <;> rfl
        rw [eo] at q
        exact d_notIn (by omega) I g rx fun s' I' => ⟨.bl (!o.isSome), H, I', rfl, q⟩
      · cases e1
    · split at e1
      · rename_i hc
        simp only [Bool.and_eq_true, decide_eq_true_eq] at hc
        cases e1
        obtain ⟨as, r1⟩ := Dp.reads I _ x v (WR.dp hc.1.1 ha) rx
        obtain ⟨bs, r2⟩ := Dp.reads I _ y u (WR.dp (w := .d (.tup _)) (by simpa [Wv.pure, D.pure] using hc.1.2) hb) ry
        refine SeqAt.notIn_tuple_reads (by simpa [Wv.toP, D.toP] using r2) r1 (pures_lay _ hc.1.2) (Wv.lay hc.1.1) (by have := hc.2; omega) (fin_b I ?_)
        rw [any_toPs]
        exact q
      · cases e1
    · split at e1
      · rename_i hc
        simp only [Bool.and_eq_true, decide_eq_true_eq] at hc
        cases e1
        obtain ⟨as, r1⟩ := Dp.reads I _ x v (WR.dp hc.1.1 ha) rx
        obtain ⟨bs, r2⟩ := Dp.reads I _ y u (WR.dp (w := .o (.lst _)) (by simpa [Wv.pure] using hc.1.2) hb) ry
        refine SeqAt.notIn_list_reads (by simpa [Wv.toP] using r2) r1 (pures_lay _ hc.1.2) (Wv.lay hc.1.1) (by have := hc.2; omega) (fin_b I ?_)
        rw [any_toPs]
        exact q
      · cases e1
    · cases e1
theorem WR.non {K : PySem.W.Frag} {ρ : List Addr} {H : Hp} {w : Wv} {v : V} (h : WR K ρ H w v) : decide (v = .non) = w.isNon := by
  cases w with
  | d x =>
    obtain ⟨h, n⟩ := h
    cases x with
    | non =>
      cases h
      rfl
    | bl b =>
      cases h
      rfl
    | int i =>
      cases h
      rfl
    | str y =>
      cases h
      rfl
    | tup ds =>
      obtain ⟨a, vs, rfl, _⟩ := h
      rfl
    | ref a => exact (n a rfl).elim
    | fz ds =>
      obtain ⟨a, vs, rfl, _⟩ := h
      rfl
    | exn c =>
      obtain ⟨a, rfl, _⟩ := h
      rfl
  | o x =>
    obtain ⟨p, rfl, _⟩ := h
    rfl
theorem op_cmpW (hu : Deep X) (op : CmpOp) : OpR X (compareOp op) (rB X.K (cmpW op)) := by
  cases op with
  | Eq => exact op_eqW hu
  | NotEq => exact op_neW hu
  | Lt => exact op_ltW hu
  | LtE => exact op_leW hu
  | Gt => exact op_gtW hu
  | GtE => exact op_geW hu
  | In => exact op_inW hu
  | NotIn => exact op_notInW hu
  | Is =>
    intro pins s σ H x y v u Q I rx ry ⟨ρ, wa, wb, b, ha, hb, e, q⟩
    simp only [cmpW] at e
    split at e
    · cases e
      obtain ⟨rfl, _⟩ := hb
      refine op_isN pins s σ H _ _ v u Q I rx ry ⟨rfl, ?_⟩
      rw [ha.non]
      exact q
    · cases e
  | IsNot =>
    intro pins s σ H x y v u Q I rx ry ⟨ρ, wa, wb, b, ha, hb, e, q⟩
    simp only [cmpW] at e
    split at e
    · cases e
      obtain ⟨rfl, _⟩ := hb
      refine op_notN pins s σ H _ _ v u Q I rx ry ⟨rfl, ?_⟩
      rw [ha.non]
      exact q
    · cases e
end
end EW

-- part: Sound3
set_option maxHeartbeats 1000000
/-! subscripts, slices, built-in calls, by values -/
namespace EW
open PySem PySem.Spec PyProof.Rows L2
section
variable {K : PySem.W.Frag} {ρ : List Addr} {H : Hp}
theorem FrzL.sq {a : Addr} {vs : List V} (h : FrzL K H a vs) : SqL K H a vs := by
  rcases h with ⟨o, h⟩ | h
  · exact .inl (.inr ⟨o, h⟩)
  · exact .inr h
theorem VRs.atI {ds : List D} {vs : List V} {i : Int} {d : D} (r : VRs K ρ H ds vs) (e : L2.atI ds i = some d) : ∃ v, L2.atI vs i = some v ∧ VR K ρ H d v := by
  unfold L2.atI at e ⊢
  rw [r.length]
  cases q : L2.ixN ds.length i with
  | none =>
    rw [q] at e
    cases e
  | some j =>
    rw [q] at e
    exact r.get e
/-- a list that is read, as it stands -/
theorem WR.seq {w : Wv} {v : V} {ds : List D} (h : WR K ρ H w v) (e : seqW w = some ds) (hs : ∀ x, w ≠ .d (.str x)) :
    ∃ a vs, v = .ref a ∧ VRs K ρ H ds vs ∧ (SqL K H a vs ∨ SqT K H a vs) := by
  cases w with
  | d x =>
    cases x with
    | tup es =>
      cases e
      obtain ⟨⟨a, vs, rfl, hs, hv⟩, _⟩ := h
      exact ⟨a, vs, rfl, hv, .inr (.of hs)⟩
    | fz es =>
      cases e
      obtain ⟨⟨a, vs, rfl, hs, hv⟩, _⟩ := h
      exact ⟨a, vs, rfl, hv, .inl hs.sq⟩
    | str x => exact (hs x rfl).elim
    | _ => cases e
  | o x =>
    cases x with
    | lst es =>
      cases e
      obtain ⟨a, rfl, vs, hp, hv⟩ := h
      exact ⟨a, vs, rfl, hv, .inl (.of hp)⟩
    | dct kvs => cases e
    | ins c fs => cases e
    | lkd kvs => cases e
theorem ints_of : ∀ {ds : List D} {ns : List Int}, intsD ds = some ns → ds = ns.map D.int
  | [], ns, h => by
    cases h
    rfl
  | d :: ds, ns, h => by
    cases d with
    | int i =>
      simp only [intsD] at h
      cases q : intsD ds with
      | none =>
        rw [q] at h
        cases h
      | some ms =>
        rw [q] at h
        cases h
        rw [ints_of q]
        rfl
    | _ => cases h
theorem sums_of : ∀ {ds : List D} {a b : Int}, sumD a ds = some b → ∃ ns : List Int, ds = ns.map D.int ∧ b = a + ns.sum
  | [], a, b, h => by
    cases h
    exact ⟨[], rfl, by simp⟩
  | d :: ds, a, b, h => by
    cases d with
    | int i =>
      simp only [sumD] at h
      obtain ⟨ns, e1, e2⟩ := sums_of h
      exact ⟨i :: ns, by rw [e1]; rfl, by rw [e2, List.sum_cons]; omega⟩
    | _ => cases h
theorem bools_of : ∀ {ds : List D} {ns : List Bool}, boolsD ds = some ns → ds = ns.map D.bl
  | [], ns, h => by
    cases h
    rfl
  | d :: ds, ns, h => by
    cases d with
    | bl i =>
      simp only [boolsD] at h
      cases q : boolsD ds with
      | none =>
        rw [q] at h
        cases h
      | some ms =>
        rw [q] at h
        cases h
        rw [bools_of q]
        rfl
    | _ => cases h
theorem strs_of : ∀ {ds : List D} {ns : List Str}, strsD ds = some ns → ds = ns.map D.str
  | [], ns, e => by
    cases e
    rfl
  | d :: ds, ns, e => by
    cases d with
    | str i =>
      simp only [strsD] at e
      cases q : strsD ds with
      | none =>
        rw [q] at e
        cases e
      | some r =>
        rw [q] at e
        cases e
        rw [strs_of q]
        rfl
    | _ => cases e
theorem VRs.strs : ∀ {ns : List Str} {vs : List V}, VRs K ρ H (ns.map D.str) vs → vs = ns.map V.str
  | [], vs, h => h
  | n :: ns, vs, h => by
    obtain ⟨v, r, rfl, h1, h2⟩ := h
    have e : v = .str n := h1
    rw [e, VRs.strs h2]
    rfl
theorem VRs.ints : ∀ {ns : List Int} {vs : List V}, VRs K ρ H (ns.map D.int) vs → vs = ns.map V.int
  | [], vs, h => h
  | n :: ns, vs, h => by
    obtain ⟨v, r, rfl, h1, h2⟩ := h
    have e : v = .int n := h1
    rw [e, VRs.ints h2]
    rfl
theorem VRs.bools : ∀ {ns : List Bool} {vs : List V}, VRs K ρ H (ns.map D.bl) vs → vs = ns.map V.bl
  | [], vs, h => h
  | n :: ns, vs, h => by
    obtain ⟨v, r, rfl, h1, h2⟩ := h
    have e : v = .bl n := h1
    rw [e, VRs.bools h2]
    rfl
theorem intW_of {w : Wv} {v : V} {i : Int} (h : WR K ρ H w v) (e : intW w = some i) : v = .int i := by
  cases w with
  | d x =>
    cases x with
    | int j =>
      cases e
      exact h.1
    | _ => cases e
  | o x => cases e
theorem maxI_ge : ∀ (r : List Int) (a : Int), a ≤ maxI a r ∧ (∀ y ∈ r, y ≤ maxI a r) ∧ (maxI a r = a ∨ maxI a r ∈ r)
  | [], a => ⟨Int.le_refl a, (fun _ h => nomatch h), .inl rfl⟩
  | b :: r, a => by
    obtain ⟨h1, h2, h3⟩ := maxI_ge r (if a < b then b else a)
    have e : maxI a (b :: r) = maxI (if a < b then b else a) r := rfl
    rw [e]
    by_cases h : a < b
    · rw [if_pos h] at h1 h2 h3 ⊢
      refine ⟨by omega, fun y hy => ?_, ?_⟩
      · rcases List.mem_cons.mp hy with z | z
        · rw [z]
          exact h1
        · exact h2 y z
      · rcases h3 with z | z
        · exact .inr (by rw [z]; exact List.mem_cons_self)
        · exact .inr (List.mem_cons_of_mem _ z)
    · rw [if_neg h] at h1 h2 h3 ⊢
      refine ⟨h1, fun y hy => ?_, ?_⟩
      · rcases List.mem_cons.mp hy with z | z
        · rw [z]
          omega
        · exact h2 y z
      · rcases h3 with z | z
        · exact .inl z
        · exact .inr (List.mem_cons_of_mem _ z)
end
section
variable {X : Cx}
theorem sub_tail_of {prog : Program} {w : World} {A : Around} {E : Value → Shared → Prop} {s₂ : Shared} {value slice : Expr} {T id : String} {o i : Value} {Q : Value → Shared → Prop}
    (hl : typeLookup (.type T) "__getitem__" = pure (some (.builtin id))) (hs : subscripted slice false o i = operate [o, i] (getItem o i)) (hT : s₂.TypeIs o T) (h₂ : wpAny (model prog w) A (getItem o i) Q E s₂) :
    wpAny (model prog w) A (subscriptTail value slice o i) Q E s₂ := by
  unfold subscriptTail
  refine wpAny_bind ?_
  rw [getitemInPython_of_ne hT.not_modules]
  refine wpAny_bind (wpAny_specialOf hT hl ?_)
  have fin : wpAny (model prog w) A (subscripted slice false o i) (fun r s₃ => wpAny (model prog w) A (letTemporaryGo value o r >>= fun _ => pure r) Q E s₃) E s₂ := by
    rw [hs]
    exact wpAny_operating (wpAny_mono h₂ (fun r s₃ h₃ => wpAny_bind (wpAny_letTemporaryGo (wpAny_pure h₃))) fun _ _ x => x)
  first
    | exact wpAny_pure (wpAny_bind fin)
    | exact wpAny_bind (wpAny_pure (wpAny_bind fin))
    | exact wpAny_bind fin
theorem ix_idxW (hu : Deep X) : IxR X (rVal2 X.K fun a b => (idxW a b).map EV.d) := by
  intro value slice pins s σ H x y v u Q I rx ry ⟨ρ, wa, wb, r, ha, hb, e, q⟩ hs
  have hlim := lim_line
  have e' : (idxW wa wb).map EV.d = some r := e
  cases e1 : idxW wa wb with
  | none =>
    rw [e1] at e'
    cases e'
  | some d =>
    rw [e1] at e'
    cases e'
    unfold idxW at e1
    split at e1
    · obtain ⟨⟨a, vs, rfl, hsq, hv⟩, _⟩ := ha
      obtain ⟨rfl, _⟩ := hb
      obtain ⟨z, e2, hz⟩ := hv.atI e1
      exact ix_tup value slice pins s σ H _ _ v u Q I rx ry ⟨a, vs, _, z, rfl, rfl, (.of hsq), e2, q z H (Same.refl H) hz⟩ hs
    · obtain ⟨⟨a, vs, rfl, hsq, hv⟩, _⟩ := ha
      obtain ⟨rfl, _⟩ := hb
      obtain ⟨z, e2, hz⟩ := hv.atI e1
      exact ix_list value slice pins s σ H _ _ v u Q I rx ry ⟨a, vs, _, z, rfl, rfl, hsq.sq, e2, q z H (Same.refl H) hz⟩ hs
    · obtain ⟨a, rfl, vs, hp, hv⟩ := ha
      obtain ⟨rfl, _⟩ := hb
      obtain ⟨z, e2, hz⟩ := hv.atI e1
      exact ix_list value slice pins s σ H _ _ v u Q I rx ry ⟨a, vs, _, z, rfl, rfl, .of hp, e2, q z H (Same.refl H) hz⟩ hs
    · split at e1
      · rename_i x i hlen
        obtain ⟨rfl, _⟩ := ha
        obtain ⟨rfl, _⟩ := hb
        cases e2 : L2.atI x.cps.toList i with
        | none =>
          rw [e2] at e1
          cases e1
        | some c =>
          rw [e2] at e1
          cases e1
          exact ix_str value slice pins s σ H _ _ v u Q I rx ry ⟨x, i, c, rfl, rfl, by omega, e2, q _ H (Same.refl H) rfl⟩ hs
      · cases e1
    · split at e1
      · rename_i hk
        obtain ⟨a, rfl, hd⟩ := ha
        obtain ⟨hb, _⟩ := hb
        obtain ⟨o, g, h⟩ := hd.get hb hk
        rcases h with ⟨h1, _⟩ | ⟨x', w', h1, rfl, hw⟩
        · rw [h1] at e1
          cases e1
        · rw [h1] at e1
          cases e1
          cases rx
          unfold Deep at hu
          exact sub_tail_of PySem.F.slot_dict_getitem.lookup hs (dict_typeIs I g) (d_getItem (by omega) I g ry fun w2 s3 I3 rw3 => ⟨w', H, I3, rw3, q w' H (Same.refl H) hw⟩)
      · cases e1
    · split at e1
      · rename_i hk
        obtain ⟨a, rfl, hd⟩ := ha
        obtain ⟨hb, _⟩ := hb
        obtain ⟨o, g, h⟩ := hd.getL hb hk
        rcases h with ⟨h1, _⟩ | ⟨x', w', h1, rfl, hw⟩
        · rw [h1] at e1
          cases e1
        · rw [h1] at e1
          cases e1
          cases rx
          unfold Deep at hu
          exact sub_tail_of PySem.F.slot_dict_getitem.lookup hs (dict_typeIs I g) (d_getItem (by omega) I g ry fun w2 s3 I3 rw3 => ⟨w', H, I3, rw3, q w' H (Same.refl H) hw⟩)
      · cases e1
    · cases e1
/-- a slice by values -/
def rSlW (K : PySem.W.Frag) : V → Option Int → Option Int → Hp → VK → Prop := fun x lo hi H Q => ∃ ρ w r, WR K ρ H w x ∧ slW w lo hi = some r ∧ ∀ v H', Same H H' → NewR K ρ H r H' v → Q v H'
theorem cutV_all {α : Type} (xs : List α) (lo hi : Option Int) (h : HT.sIx xs.length 0 lo = 0 ∧ HT.sIx xs.length xs.length hi = xs.length) : cut xs lo hi = xs := by
  unfold cut
  rw [h.1, h.2]
  simp
theorem sl_W : SlR X (rSlW X.K) := by
  intro pins s σ H x v vl vu lo hi sl Q I rx hs pl pu ⟨ρ, w, r, hw, e, q⟩
  have hlim := lim_line
  unfold slW at e
  split at e
  · cases e
    obtain ⟨⟨a, vs, rfl, hsq, hv⟩, _⟩ := hw
    refine sl_tupA pins s σ H _ v vl vu lo hi sl Q I rx hs pl pu ⟨a, vs, rfl, (.of hsq), fun z => ?_, fun z p hp => q _ _ (same_new hp) (NewR.tup hp (hv.cut lo hi))⟩
    rw [hv.length] at z
    rw [cutV_all _ lo hi z] at q
    exact q _ H (Same.refl H) ⟨a, vs, rfl, hsq, hv⟩
  · cases e
    obtain ⟨⟨a, vs, rfl, hsq, hv⟩, _⟩ := hw
    exact sl_list pins s σ H _ v vl vu lo hi sl Q I rx hs pl pu ⟨a, vs, rfl, hsq.sq, fun p hp => q _ _ (same_new hp) (NewR.lst hp (hv.cut lo hi))⟩
  · cases e
    obtain ⟨a, rfl, vs, hp, hv⟩ := hw
    exact sl_list pins s σ H _ v vl vu lo hi sl Q I rx hs pl pu ⟨a, vs, rfl, .of hp, fun p hp => q _ _ (same_new hp) (NewR.lst hp (hv.cut lo hi))⟩
  · split at e
    · cases e
      obtain ⟨rfl, _⟩ := hw
      refine sl_str pins s σ H _ v vl vu lo hi sl Q I rx hs pl pu ⟨_, rfl, by omega, q _ H (Same.refl H) ?_⟩
      show V.str _ = V.str _
      unfold cutS EW.cut
      simp [Str.length]
    · cases e
  · cases e

theorem empty_len {α β : Type} {xs : List α} {ys : List β} (h : xs.length = ys.length) : xs.isEmpty = ys.isEmpty := by
  cases xs <;> cases ys <;> first | rfl | simp at h
theorem len_ne (n : Nat) : (n != 0) = ((n : Int) != 0) := by
  cases n with
  | zero => rfl
  | succ n =>
    have h1 : (n + 1 != 0) = true := by simp
    have h2 : (((n + 1 : Nat) : Int) != 0) = true := by
      simp only [bne_iff_ne, ne_eq]
      omega
    rw [h1, h2]
/-- a value's truth -/
theorem tru_W : TruR X (fun x H Q => ∃ ρ w b, WR X.K ρ H w x ∧ truthW w = some b ∧ Q b H) := by
  intro pins s σ H x v Q I rx ⟨ρ, w, b, hw, e, q⟩
  have hlim := lim_line
  refine tru_ok pins s σ H x v Q I rx ⟨b, ?_, q⟩
  unfold truthW at e
  split at e
  · cases e
    obtain ⟨rfl, _⟩ := hw
    exact rfl
  · cases e
    obtain ⟨rfl, _⟩ := hw
    exact rfl
  · cases e
    obtain ⟨rfl, _⟩ := hw
    exact rfl
  · split at e
    · cases e
      obtain ⟨rfl, _⟩ := hw
      exact ⟨by omega, len_ne _⟩
    · cases e
  · cases e
    obtain ⟨⟨a, vs, rfl, hsq, hv⟩, _⟩ := hw
    refine .inr (.inl ⟨vs, (.of hsq), ?_⟩)
    rw [empty_len hv.length]
  · cases e
    obtain ⟨⟨a, vs, rfl, hsq, hv⟩, _⟩ := hw
    refine .inl ⟨vs, hsq.sq, ?_⟩
    rw [empty_len hv.length]
  · cases e
    obtain ⟨a, rfl, vs, hp, hv⟩ := hw
    refine .inl ⟨vs, .of hp, ?_⟩
    rw [empty_len hv.length]
  · cases e
end
end EW

-- part: SoundS
set_option maxHeartbeats 2000000
/-! sorted, of a list, of a dict whose keys are tuples -/
namespace EW
open PySem PySem.Spec PyProof.Rows L2
section
variable {K : PySem.W.Frag} {ρ : List Addr} {H : Hp}
theorem each_of : ∀ {ds : List D} {vs : List V} {us : List Value}, VRs K ρ H ds vs → Vals vs us → W.EachIs (fun (v : Value) (d : D) => ∃ x, RelV x v ∧ VR K ρ H d x) us ds
  | [], vs, us, h, r => by
    have e : vs = [] := h
    subst e
    cases r
    exact .nil
  | d :: ds, vs, us, h, r => by
    obtain ⟨v, t, rfl, h1, h2⟩ := h
    cases r with
    | cons a b => exact .cons ⟨v, a, h1⟩ (each_of h2 b)
theorem each_back : ∀ {us : List Value} {ds : List D}, W.EachIs (fun (v : Value) (d : D) => ∃ x, RelV x v ∧ VR K ρ H d x) us ds → ∃ vs, Vals vs us ∧ VRs K ρ H ds vs
  | _, _, .nil => ⟨[], .nil, rfl⟩
  | _, _, .cons ⟨x, a, h⟩ t => by
    obtain ⟨vs, b, c⟩ := each_back t
    exact ⟨x :: vs, .cons a b, .cons h c⟩
structure SortOk (ds : List D) : Prop where
  pure : D.pures ds = true
  alike : W.AllAlike (ds.map D.toP)
  srt : W.Sortable (ds.map D.toP)
  dep : ∀ d ∈ ds, d.toP.depth ≤ 150
  len : ds.length ≤ 1000000
theorem sortOk_is {ds : List D} (h : sortOk ds = true) : SortOk ds := by
  unfold sortOk at h
  simp only [Bool.and_eq_true, Bool.or_eq_true, List.all_eq_true, decide_eq_true_eq] at h
  obtain ⟨⟨⟨⟨h1, h2⟩, h3⟩, h4⟩, h5⟩ := h
  refine ⟨h1, fun a ha b hb => ?_, ?_, h4, h5⟩
  · obtain ⟨x, hx, rfl⟩ := List.mem_map.mp ha
    obtain ⟨y, hy, rfl⟩ := List.mem_map.mp hb
    exact h2 x hx y hy
  · rcases h3 with h3 | h3
    · refine .inl fun d hd => ?_
      obtain ⟨x, hx, rfl⟩ := List.mem_map.mp hd
      have z := h3 x hx
      cases x with
      | tup es =>
        cases es with
        | nil => cases z
        | cons e es => exact ⟨e.toP, D.toPs es, rfl⟩
      | _ => cases z
    · refine .inr fun d hd => ?_
      obtain ⟨x, hx, rfl⟩ := List.mem_map.mp hd
      have z := h3 x hx
      cases x with
      | int i => exact ⟨(fun e => nomatch e), fun xs e => nomatch e⟩
      | str i => exact ⟨(fun e => nomatch e), fun xs e => nomatch e⟩
      | _ => cases z
theorem sortD_is (ds : List D) : ds.mergeSort (W.dataLe false D.toP) = sortD ds := rfl
theorem pures_mem {ds : List D} (h : D.pures ds = true) : ∀ d ∈ ds, d.pure = true := by
  induction ds with
  | nil => intro d hd; cases hd
  | cons x r ih =>
    have h' : (x.pure && D.pures r) = true := h
    rw [Bool.and_eq_true] at h'
    intro d hd
    rcases List.mem_cons.mp hd with z | z
    · rw [z]; exact h'.1
    · exact ih h'.2 d z
theorem each_with {R R' : Value → D → Prop} : ∀ {us : List Value} {ds : List D}, W.EachIs R us ds → (∀ u d, d ∈ ds → R u d → R' u d) → W.EachIs R' us ds
  | _, _, .nil, _ => .nil
  | _, _, .cons h t, f => .cons (f _ _ (by simp) h) (each_with t fun u d m => f u d (by simp [m]))
end
section
variable {X : Cx}
theorem cr_sortL (hu : Deep X) : CallR X (.builtin "sorted") (fun xs H Q => ∃ (a : Addr) (ρ : List Addr) (ds : List D) (vs : List V), xs = [.ref a] ∧ H a = some (.lst vs) ∧ VRs X.K ρ H ds vs ∧ sortOk ds = true ∧
    ∀ p ws, H p = none → VRs X.K ρ H (sortD ds) ws → Q (.ref p) (upd H p (.lst ws))) := by
  intro pins s σ H xs us Q I rs ⟨a, ρ, ds, vs, ex, ha, hv, hok, q⟩
  subst ex
  obtain ⟨u, rfl, ru⟩ := vals1 rs
  cases ru
  obtain ⟨its, rv, hl, hz⟩ := I.list (SqL.of (K := X.K) ha)
  have so := sortOk_is hok
  have lln := lim_line
  have l0 : lim = 1000000 := rfl
  have e1 := each_of hv rv
  have dl := so.len
  unfold Deep at hu
  refine W.sorted_data (enc := D.toP) hl.isList e1 (each_with e1 fun u d hd ⟨x, r1, h1⟩ => ?_) so.alike so.srt (by omega) (fun d hd => by have := so.dep d hd; omega) fun out ho e2 => ?_
  · exact Dp.reads I d.toP x u (VR.dp d x (pures_mem so.pure d hd) h1) r1
  · rw [sortD_is] at e2
    obtain ⟨ws, w1, w2⟩ := each_back e2
    obtain ⟨c, hc⟩ := sortedAll_at s.heap its out.toArray
    have hlen : ws.length ≤ sizeLine := by
      rw [w1.length, ho]
      omega
    refine ⟨.ref (s.heap.objs.size + 1), upd H (s.heap.objs.size + 1) (.lst ws), I.laid (t' := s.toks) (fun b o hb => sortedAll_old hb) (Nat.le_succ _) ⟨hlen, out, c, w1, hc⟩, rfl, q _ ws (I.hok.fresh (Nat.le_succ _)) w2⟩
theorem flats {K : PySem.W.Frag} {ρ : List Addr} {H : Hp} : ∀ {ds : List D} {ks : List Key}, fkeys ds = some ks → VRs K ρ H ds (ks.map kV)
  | [], ks, e => by
    cases e
    rfl
  | d :: ds, ks, e => by
    simp only [fkeys] at e
    cases e1 : fkey d with
    | none =>
      rw [e1] at e
      cases e
    | some k =>
      cases e2 : fkeys ds with
      | none =>
        rw [e1, e2] at e
        cases e
      | some r =>
        rw [e1, e2] at e
        cases e
        refine .cons ?_ (flats e2)
        cases d with
        | int i =>
          cases e1
          rfl
        | str x =>
          cases e1
          rfl
        | _ => cases e1
theorem flat_reads {h : Heap} : ∀ {ds : List D} {ks : List Key} {us : List Value}, fkeys ds = some ks → Vals (ks.map kV) us → ReadsAll h us (D.toPs ds) []
  | [], ks, us, e, r => by
    cases e
    cases r
    exact .nil
  | d :: ds, ks, us, e, r => by
    simp only [fkeys] at e
    cases e1 : fkey d with
    | none =>
      rw [e1] at e
      cases e
    | some k =>
      cases e2 : fkeys ds with
      | none =>
        rw [e1, e2] at e
        cases e
      | some r' =>
        rw [e1, e2] at e
        cases e
        cases r with
        | cons a b =>
          refine ReadsAll.cons (as := []) (bs := []) ?_ (flat_reads e2 b)
          cases d with
          | int i =>
            cases e1
            obtain ⟨t, rfl⟩ := a
            exact .int i t
          | str x =>
            cases e1
            obtain ⟨t, rfl⟩ := a
            exact .str x t
          | _ => cases e1
theorem KVs.rows {κ : Type} {f : D → Option κ} {K : PySem.W.Frag} {ρ : List Addr} {H : Hp} : ∀ {kvs : List (D × D)} {ks : List (κ × V)}, KVs K ρ H f kvs ks → kvs.length = ks.length ∧ ∀ (i : Nat) (q : D × D), kvs[i]? = some q → ∃ p, ks[i]? = some p ∧ f q.1 = some p.1
  | [], ks, h => by
    have e : ks = [] := h
    subst e
    exact ⟨rfl, fun i q e => by simp at e⟩
  | q :: r, ks, h => by
    obtain ⟨k, v, t, rfl, h1, h2, h3⟩ := h
    obtain ⟨l, g⟩ := KVs.rows h3
    refine ⟨by simp [l], fun i p e => ?_⟩
    cases i with
    | zero =>
      simp at e
      subst e
      exact ⟨_, rfl, h1⟩
    | succ i => exact g i p (by simpa using e)
theorem each_idx {R : Value → D → Prop} : ∀ {us : List Value} {ds : List D}, us.length = ds.length → (∀ (i : Nat) (d : D), ds[i]? = some d → ∃ u, us[i]? = some u ∧ R u d) → W.EachIs R us ds
  | [], [], _, _ => .nil
  | u :: us, d :: ds, hl, h => by
    obtain ⟨u', e, r⟩ := h 0 d rfl
    cases e
    exact .cons r (each_idx (by simpa using hl) fun i x e => h (i + 1) x (by simpa using e))
  | [], _ :: _, hl, _ => by simp at hl
  | _ :: _, [], hl, _ => by simp at hl
theorem paired_at {α β : Type} {R : α → β → Prop} {as : List α} {bs : List β} (h : Paired R as bs) : ∀ (i : Nat) (h1 : i < as.length) (h2 : i < bs.length), R as[i] bs[i] := by
  induction h with
  | nil => intro i h1; exact absurd h1 (Nat.not_lt_zero i)
  | cons r t ih =>
    intro i h1 h2
    cases i with
    | zero => exact r
    | succ i => exact ih i (Nat.lt_of_succ_lt_succ h1) (Nat.lt_of_succ_lt_succ h2)
/-- sorted(d), the keys tuples -/
theorem cr_sortT (hc : X.calm = true) (hu : Deep X) : CallR X (.builtin "sorted") (fun xs H Q => ∃ (a : Addr) (ρ : List Addr) (kvs : List (D × D)) (ks : List (List Key × V)), xs = [.ref a] ∧ H a = some (.dT ks) ∧ KVs X.K ρ H tkey kvs ks ∧ sortOk (kvs.map (·.1)) = true ∧
    ∀ p ws, H p = none → VRs X.K ρ H (sortD (kvs.map (·.1))) ws → Q (.ref p) (upd H p (.lst ws))) := by
  intro pins s σ H xs us Q I rs ⟨a, ρ, kvs, ks, ex, ha, hv, hok, q⟩
  subst ex
  obtain ⟨u, rfl, ru⟩ := vals1 rs
  cases ru
  have so := sortOk_is hok
  have dl := so.len
  have lln := lim_line
  have l0 : lim = 1000000 := rfl
  unfold Deep at hu
  obtain ⟨hz, hsys, xs, pr, o, es, ep, ho, hx, hdt, he, _⟩ := (show ObjOk X.prog X.w H s.heap a (.dT ks) from I.hok a _ ha)
  obtain ⟨hlk, hrow⟩ := hv.rows
  have n1 : es.size = xs.length := size_of_entries he
  have n2 : ks.length = xs.length := Paired.length pr
  refine Calls.call_function_entry kind_sorted plain_sorted entry_sorted (args_sorted1 _) ?_
  unfold Builtin.«sorted»
  refine wpAny_bind (m := checkCount "sorted" 1 1 _) (wpAny_pure ?_)
  refine wpAny_bind (PySem.W.kdu_collect (A := X.A.in1) (kdl_raw hsys hx hdt) (I.ok.hd hc) ho (by omega) fun h' tk acc kp it => ?_)
  have I1 : Inv X pins σ H { s with heap := h', toks := tk } := I.kept kp
  have ea : acc.toList.length = es.size := by rw [Array.length_toList, it.1]
  -- each key's value
  have key : ∀ (i : Nat) (d : D), (kvs.map (·.1))[i]? = some d → ∃ (b : Addr) (ds : List D) (k : List Key), acc.toList[i]? = some (.ref b) ∧ d = .tup ds ∧ fkeys ds = some k ∧ H b = some (.tup (k.map kV)) := by
    intro i d hd
    rw [List.getElem?_map] at hd
    cases hq : kvs[i]? with
    | none =>
      rw [hq] at hd
      cases hd
    | some qd =>
      rw [hq] at hd
      have hd' : qd.1 = d := Option.some.inj hd
      obtain ⟨p, hp, hf⟩ := hrow i qd hq
      rw [hd'] at hf
      obtain ⟨hpl, hpe⟩ := List.getElem?_eq_some_iff.mp hp
      have hxl : i < xs.length := by omega
      have pq : p.1 = xs[i].1 ∧ H xs[i].2.1 = some (.tup (p.1.map kV)) ∧ RelV p.2 xs[i].2.2 := by
        have := paired_at pr i hpl hxl
        rw [hpe] at this
        exact this
      have hi : i < acc.toList.length := by omega
      obtain ⟨en, hen, hv⟩ := it.2 i acc.toList[i] (by rw [← Array.getElem?_toList, List.getElem?_eq_getElem hi])
      have qe := entry_at he i
      rw [hen, List.getElem?_eq_getElem hxl] at qe
      have e2 : en = entryOfKey (tupleKind (mixKind X.prog X.w)) xs[i] := Option.some.inj qe
      cases d with
      | tup ds =>
        refine ⟨xs[i].2.1, ds, p.1, ?_, rfl, hf, pq.2.1⟩
        rw [List.getElem?_eq_getElem hi, hv, e2]
        rfl
      | _ => cases hf
  refine wpAny_bind (wpAny_newList ?_ (by omega))
  have hoL : (h'.push (seqObj "list" acc.toList.toArray 0)).get? h'.objs.size = some (seqObj "list" acc.toList.toArray 0) := Heap.get?_push_size _ rfl
  have hll : acc.toList.length = (kvs.map (·.1)).length := by rw [List.length_map]; omega
  show wpAny _ _ _ _ _ { s with heap := h'.push (seqObj "list" acc.toList.toArray 0), toks := tk }
  refine wpAny_bind (wpAny_holding (W.list_sort_data (s := { s with heap := h'.push (seqObj "list" acc.toList.toArray 0), toks := tk }) (enc := D.toP) (R := fun (v : Value) (d : D) => ∃ x, RelV x v ∧ VR X.K ρ H d x) (bs := kvs.map (·.1)) hoL
    (each_idx hll fun i d hd => ?_) (each_idx hll fun i d hd => ?_) so.alike so.srt (by omega) (fun d hd => by have := so.dep d hd; show X.A.units + 1 + 1 + _ < _; omega) fun out hout e2 => ?_))
  · obtain ⟨b, ds, k, e, rfl, hk, hb⟩ := key i d hd
    exact ⟨_, e, .ref b, rfl, ⟨b, _, rfl, hb, flats hk⟩⟩
  · obtain ⟨b, ds, k, e, rfl, hk, hb⟩ := key i d hd
    refine ⟨_, e, [], ?_, List.not_mem_nil⟩
    obtain ⟨_, its, r2, ob, hob, hcl, n, hdata⟩ := I1.hok b _ hb
    have r := flat_reads (h := h'.push (seqObj "list" acc.toList.toArray 0)) hk r2
    exact Reads.tuple (Heap.get?_push_of_some _ hob) hcl hdata (by simpa using r)
  · rw [sortD_is] at e2
    obtain ⟨ws, w1, w2⟩ := each_back e2
    obtain ⟨c, hcc⟩ := sortedHeap_at (vs := acc.toList) (out := out.toArray) hoL
    have hlen : ws.length ≤ sizeLine := by
      rw [w1.length, hout]
      omega
    refine wpAny_pure ⟨_, rfl, .ref h'.objs.size, upd H h'.objs.size (.lst ws), I1.laid (t' := tk) (fun b ob hb => ?_) (Nat.le_refl _) ⟨hlen, out, c, w1, hcc⟩, rfl, q _ ws (I1.hok.fresh (Nat.le_refl _)) w2⟩
    have hlt : b < h'.objs.size := Heap.lt_size hb
    rw [sortedHeap_old (Nat.ne_of_lt hlt) (by rw [size_push']; exact Nat.lt_succ_of_lt hlt)]
    exact Heap.get?_push_of_some _ hb
end
end EW

-- part: Sound4
set_option maxHeartbeats 1000000
/-! built-in calls by values -/
namespace EW
open PySem PySem.Spec PyProof.Rows L2
def ERl (K : PySem.W.Frag) (ρ : List Addr) (H : Hp) (st : St) (σ : L2.St) : List EV → List V → Prop
  | [], xs => xs = []
  | r :: rs, xs => ∃ v t, xs = v :: t ∧ ER K ρ H st σ r v ∧ ERl K ρ H st σ rs t
def biV : B → Value
  | .len => .builtin "len" | .max => .builtin "max" | .min => .builtin "min" | .sum => .builtin "sum" | .all => .builtin "all" | .any => .builtin "any" | .abs => .builtin "abs"
  | .int => .type "int" | .str => .type "str" | .tuple => .type "tuple" | .list => .type "list" | .sorted => .builtin "sorted" | .divmod => .builtin "divmod" | .repr => .builtin "repr" | .dict => .type "dict" | .set => .type "set"
def rBi (K : PySem.W.Frag) (b : B) : List V → Hp → VK → Prop := fun xs H Q => ∃ ρ st σ vs r, Res K ρ H st σ ∧ ERl K ρ H st σ vs xs ∧ biS b st vs = some r ∧ ∀ v H', Same H H' → NewR K ρ H r H' v → Q v H'
section
variable {K : PySem.W.Frag} {ρ : List Addr} {H : Hp} {st : St} {σ : L2.St}
theorem ERl.one {r : EV} {xs : List V} (h : ERl K ρ H st σ [r] xs) : ∃ v, xs = [v] ∧ ER K ρ H st σ r v := by
  obtain ⟨v, t, rfl, h1, h2⟩ := h
  have e : t = [] := h2
  rw [e]
  exact ⟨v, rfl, h1⟩
theorem ERl.two {r r' : EV} {xs : List V} (h : ERl K ρ H st σ [r, r'] xs) : ∃ v v', xs = [v, v'] ∧ ER K ρ H st σ r v ∧ ER K ρ H st σ r' v' := by
  obtain ⟨v, t, rfl, h1, h2⟩ := h
  obtain ⟨v', rfl, h3⟩ := h2.one
  exact ⟨v, v', rfl, h1, h3⟩
theorem items_rd {v : EV} {x : V} (h : ER K ρ H st σ v x) : items st v = (rd st v).bind seqW := by
  cases v with
  | it k vs => exact h.elim
  | _ => simp [items]
end
section
variable {X : Cx}
theorem KVs.keys {K : PySem.W.Frag} {ρ : List Addr} {H : Hp} : ∀ {kvs : List (D × D)} {ks : List (Key × V)}, KVs K ρ H fkey kvs ks → VRs K ρ H (kvs.map (·.1)) (ks.map fun kv => kV kv.1)
  | [], ks, h => by
    have e : ks = [] := h
    subst e
    rfl
  | q :: r, ks, h => by
    obtain ⟨k, v, t, rfl, h1, h2, h3⟩ := h
    refine .cons ?_ (KVs.keys h3)
    obtain ⟨d, z⟩ := q
    have hk : fkey d = some k := h1
    cases d with
    | int i =>
      cases hk
      rfl
    | str x =>
      cases hk
      rfl
    | _ => cases hk
theorem call_bi (hc : X.calm = true) (hu : Deep X) (b : B) : CallR X (biV b) (rBi X.K b) := by
  intro pins s σ' H xs us Q I rs ⟨ρ, st, σ, vs, r, hR, hvs, e, q⟩
  have hlim := lim_line
  unfold biS at e
  split at e
  · -- len
    rename_i v
    obtain ⟨x, rfl, hx⟩ := hvs.one
    split at e
    · rename_i ds e1
      cases e
      obtain ⟨⟨a, ws, rfl, hs, hv⟩, _⟩ := rd_sound hR hx e1
      exact call_len pins s σ' H _ us Q I rs ⟨_, _, rfl, .inr ⟨ws, (.of hs), rfl⟩, by rw [hv.length]; exact q _ H (Same.refl H) rfl⟩
    · rename_i ds e1
      cases e
      obtain ⟨⟨a, ws, rfl, hs, hv⟩, _⟩ := rd_sound hR hx e1
      exact call_len pins s σ' H _ us Q I rs ⟨_, _, rfl, .inl ⟨ws, hs.sq, rfl⟩, by rw [hv.length]; exact q _ H (Same.refl H) rfl⟩
    · rename_i y e1
      split at e
      · cases e
        obtain ⟨rfl, _⟩ := rd_sound hR hx e1
        exact call_len pins s σ' H _ us Q I rs ⟨_, _, rfl, ⟨by omega, rfl⟩, q _ H (Same.refl H) rfl⟩
      · cases e
    · rename_i ds e1
      cases e
      obtain ⟨a, rfl, ws, hp, hv⟩ := rd_sound hR hx e1
      exact call_len pins s σ' H _ us Q I rs ⟨_, _, rfl, .inl ⟨ws, .of hp, rfl⟩, by rw [hv.length]; exact q _ H (Same.refl H) rfl⟩
    · rename_i kvs e1
      cases e
      obtain ⟨a, rfl, ks, hp, hv⟩ := rd_sound hR hx e1
      obtain ⟨u, rfl, ru⟩ := vals1 rs
      cases ru
      exact d_len I (.inl hp) fun t s' I' => ⟨.int ks.length, H, I', ⟨t, rfl⟩, by rw [← hv.rows.1]; exact q _ H (Same.refl H) rfl⟩
    · cases e
  · -- max of a list
    rename_i v
    obtain ⟨x, rfl, hx⟩ := hvs.one
    split at e
    · rename_i ds e1
      obtain ⟨a, rfl, ws, hp, hv⟩ := rd_sound hR hx e1
      split at e
      · rename_i i r' e2
        cases e
        have e3 := ints_of e2
        subst e3
        have e4 := VRs.ints (ns := i :: r') hv
        subst e4
        obtain ⟨h1, h2, h3⟩ := maxI_ge r' i
        refine cr_max hc pins s σ' H _ us Q I rs ⟨a, i :: r', rfl, .of hp, by simp, fun m hm hall => ?_⟩
        have e5 : m = maxI i r' := by
          have g1 : m ≤ maxI i r' := by
            rcases List.mem_cons.mp hm with z | z
            · rw [z]
              exact h1
            · exact h2 m z
          have g2 : maxI i r' ≤ m := by
            rcases h3 with z | z
            · rw [z]
              exact hall i List.mem_cons_self
            · exact hall _ (List.mem_cons_of_mem _ z)
          omega
        rw [e5]
        exact q _ H (Same.refl H) rfl
      · cases e
    · cases e
  · -- max of two
    rename_i v u
    obtain ⟨x, y, rfl, hx, hy⟩ := hvs.two
    split at e
    · rename_i i j e1 e2
      cases e
      cases q1 : rd st v with
      | none =>
        rw [q1] at e1
        cases e1
      | some w1 =>
        rw [q1] at e1
        cases q2 : rd st u with
        | none =>
          rw [q2] at e2
          cases e2
        | some w2 =>
          rw [q2] at e2
          have ex := intW_of (rd_sound hR hx q1) e1
          have ey := intW_of (rd_sound hR hy q2) e2
          subst ex ey
          exact call_max2 hc pins s σ' H _ us Q I rs ⟨i, j, rfl, q _ H (Same.refl H) rfl⟩
    · cases e
  · -- min of two
    rename_i v u
    obtain ⟨x, y, rfl, hx, hy⟩ := hvs.two
    split at e
    · rename_i i j e1 e2
      cases e
      cases q1 : rd st v with
      | none =>
        rw [q1] at e1
        cases e1
      | some w1 =>
        rw [q1] at e1
        cases q2 : rd st u with
        | none =>
          rw [q2] at e2
          cases e2
        | some w2 =>
          rw [q2] at e2
          have ex := intW_of (rd_sound hR hx q1) e1
          have ey := intW_of (rd_sound hR hy q2) e2
          subst ex ey
          exact call_min2 hc pins s σ' H _ us Q I rs ⟨i, j, rfl, q _ H (Same.refl H) rfl⟩
    · cases e
  · -- sum
    rename_i v
    obtain ⟨x, rfl, hx⟩ := hvs.one
    split at e
    · rename_i ds e1
      obtain ⟨a, rfl, ws, hp, hv⟩ := rd_sound hR hx e1
      cases e2 : sumD 0 ds with
      | none =>
        rw [e2] at e
        cases e
      | some n =>
        rw [e2] at e
        cases e
        obtain ⟨ns, rfl, rfl⟩ := sums_of e2
        have e4 := VRs.ints hv
        subst e4
        refine cr_sum hc pins s σ' H _ us Q I rs ⟨a, ns, rfl, .of hp, ?_⟩
        have := q (.int (0 + ns.sum)) H (Same.refl H) rfl
        rw [Int.zero_add] at this
        exact this
    · cases e
  · -- all
    rename_i v
    obtain ⟨x, rfl, hx⟩ := hvs.one
    split at e
    · rename_i ds e1
      obtain ⟨a, rfl, ws, hp, hv⟩ := rd_sound hR hx e1
      cases e2 : boolsD ds with
      | none =>
        rw [e2] at e
        cases e
      | some n =>
        rw [e2] at e
        cases e
        have e3 := bools_of e2
        subst e3
        have e4 := VRs.bools hv
        subst e4
        exact cr_all hc pins s σ' H _ us Q I rs ⟨a, n, rfl, .of hp, q _ H (Same.refl H) rfl⟩
    · cases e
  · -- any
    rename_i v
    obtain ⟨x, rfl, hx⟩ := hvs.one
    split at e
    · rename_i ds e1
      obtain ⟨a, rfl, ws, hp, hv⟩ := rd_sound hR hx e1
      cases e2 : boolsD ds with
      | none =>
        rw [e2] at e
        cases e
      | some n =>
        rw [e2] at e
        cases e
        have e3 := bools_of e2
        subst e3
        have e4 := VRs.bools hv
        subst e4
        exact cr_any hc pins s σ' H _ us Q I rs ⟨a, n, rfl, .of hp, q _ H (Same.refl H) rfl⟩
    · cases e
  · -- int
    rename_i v
    obtain ⟨x, rfl, hx⟩ := hvs.one
    split at e
    · rename_i i e1
      cases e
      obtain ⟨rfl, _⟩ := rd_sound hR hx e1
      exact call_int1 pins s σ' H _ us Q I rs (.inl ⟨i, rfl, q _ H (Same.refl H) rfl⟩)
    · rename_i i e1
      cases e
      obtain ⟨rfl, _⟩ := rd_sound hR hx e1
      exact call_int1 pins s σ' H _ us Q I rs (.inr ⟨i, rfl, q _ H (Same.refl H) rfl⟩)
    · rename_i y e1
      obtain ⟨rfl, _⟩ := rd_sound hR hx e1
      split at e
      · rename_i hz
        cases e2 : PySem.intText? y with
        | none =>
          rw [e2] at e
          cases e
        | some i =>
          rw [e2] at e
          cases e
          exact call_int_str pins s σ' H _ us Q I rs ⟨y, i, rfl, e2, hz, q _ H (Same.refl H) rfl⟩
      · cases e
    · cases e
  · -- str
    rename_i v
    obtain ⟨x, rfl, hx⟩ := hvs.one
    split at e
    · rename_i i e1
      obtain ⟨rfl, _⟩ := rd_sound hR hx e1
      split at e
      · rename_i hz
        cases e
        exact call_str_int pins s σ' H _ us Q I rs ⟨i, rfl, by omega, q _ H (Same.refl H) rfl⟩
      · cases e
    · cases e
  · -- tuple
    rename_i v
    obtain ⟨x, rfl, hx⟩ := hvs.one
    split at e
    · exact hx.elim
    · exact hx.elim
    · rename_i ds _ _ e1
      rw [items_rd hx] at e1
      split at e
      · rename_i es e2
        cases e
        rw [e2] at e1
        cases e1
        obtain ⟨a, rfl, ws, hp, hv⟩ := rd_sound hR hx e2
        exact call_tuple_of pins s σ' H _ us Q I rs ⟨a, ws, rfl, .inl ⟨.of hp, fun l hl => q _ _ (same_new hl) (NewR.tup hl hv)⟩⟩
      · rename_i es e2
        cases e
        rw [e2] at e1
        cases e1
        obtain ⟨⟨a, ws, rfl, hs, hv⟩, _⟩ := rd_sound hR hx e2
        exact call_tuple_of pins s σ' H _ us Q I rs ⟨a, ws, rfl, .inr ⟨(.of hs), q _ H (Same.refl H) ⟨a, ws, rfl, hs, hv⟩⟩⟩
      · cases e
    · cases e
  · -- list
    rename_i v
    obtain ⟨x, rfl, hx⟩ := hvs.one
    split at e
    · exact hx.elim
    · rename_i ds _ e1
      rw [items_rd hx] at e1
      split at e
      · rename_i es e2
        cases e
        rw [e2] at e1
        cases e1
        obtain ⟨a, rfl, ws, hp, hv⟩ := rd_sound hR hx e2
        exact call_list_of pins s σ' H _ us Q I rs ⟨a, ws, rfl, .inl (.of hp), fun l hl => q _ _ (same_new hl) (NewR.lst hl hv)⟩
      · rename_i es e2
        cases e
        rw [e2] at e1
        cases e1
        obtain ⟨⟨a, ws, rfl, hs, hv⟩, _⟩ := rd_sound hR hx e2
        exact call_list_of pins s σ' H _ us Q I rs ⟨a, ws, rfl, .inr (.of hs), fun l hl => q _ _ (same_new hl) (NewR.lst hl hv)⟩
      · rename_i es e2
        cases e
        rw [e2] at e1
        cases e1
        obtain ⟨⟨a, ws, rfl, hs, hv⟩, _⟩ := rd_sound hR hx e2
        exact call_list_of pins s σ' H _ us Q I rs ⟨a, ws, rfl, .inl hs.sq, fun l hl => q _ _ (same_new hl) (NewR.lst hl hv)⟩
      · cases e
    · split at e
      · rename_i kvs e1
        split at e
        · cases e
          obtain ⟨a, rfl, ks, hp, hv⟩ := rd_sound hR hx e1
          exact call_list_dK hc pins s σ' H _ us Q I rs ⟨a, ks, rfl, hp, fun l hl => q _ _ (same_new hl) (NewR.lst hl hv.keys)⟩
        · cases e
      · cases e
  · -- sorted
    rename_i v
    obtain ⟨x, rfl, hx⟩ := hvs.one
    split at e
    · rename_i ds e1
      split at e
      · rename_i hok
        cases e
        obtain ⟨a, rfl, ws, hp, hv⟩ := rd_sound hR hx e1
        exact cr_sortL hu pins s σ' H _ us Q I rs ⟨a, ρ, ds, ws, rfl, hp, hv, hok, fun p zs hn hz => q _ _ (same_new hn) (NewR.lst hn hz)⟩
      · cases e
    · rename_i kvs e1
      split at e
      · rename_i hok
        cases e
        obtain ⟨a, rfl, ks, hp, hv⟩ := rd_sound hR hx e1
        exact cr_sortT hc hu pins s σ' H _ us Q I rs ⟨a, ρ, kvs, ks, rfl, hp, hv, hok.1, fun p zs hn hz => q _ _ (same_new hn) (NewR.lst hn hz)⟩
      · cases e
    · cases e
  · -- divmod
    rename_i v u
    obtain ⟨x, y, rfl, hx, hy⟩ := hvs.two
    split at e
    · rename_i i j e1 e2
      split at e
      · rename_i hc'
        cases e
        cases q1 : rd st v with
        | none =>
          rw [q1] at e1
          cases e1
        | some w1 =>
          rw [q1] at e1
          cases q2 : rd st u with
          | none =>
            rw [q2] at e2
            cases e2
          | some w2 =>
            rw [q2] at e2
            have ex := intW_of (rd_sound hR hx q1) e1
            have ey := intW_of (rd_sound hR hy q2) e2
            subst ex ey
            exact call_divmodW pins s σ' H _ us Q I rs ⟨i, j, rfl, divp_ok hc'.1 hc'.2, fun p hp => q _ _ (same_new hp) (NewR.tup hp (.cons rfl (.cons rfl .nil)))⟩
      · cases e
    · cases e
  · -- dict
    rename_i v
    obtain ⟨x, rfl, hx⟩ := hvs.one
    split at e
    · rename_i kvs e1
      cases e
      obtain ⟨a, rfl, ks, hp, hv⟩ := rd_sound hR hx e1
      exact call_dictD pins s σ' H _ us Q I rs ⟨a, ks, rfl, .inl hp, fun p hn => q _ _ (same_new hn) ⟨p, rfl, hn, ks, upd_same, hv.mono (Pers.same (same_new hn)) (List.prefix_refl _)⟩⟩
    · cases e
  · cases e
end
end EW

-- part: Sound5
set_option maxHeartbeats 1000000
/-! expressions -/
namespace EW
open PySem PySem.Spec PyProof.Rows L2
theorem PE.imp {X : Cx} {e : Expr} {t t' : TE} (h : PE X e t) (f : ∀ σ H Q, t' σ H Q → t σ H Q) : PE X e t' := ⟨fun pins s σ H Q I q => h.run pins s σ H Q I (f σ H Q q)⟩
theorem PT.imp {X : Cx} {e : Expr} {t t' : TT} (h : PT X e t) (f : ∀ σ H Q, t' σ H Q → t σ H Q) : PT X e t' := ⟨fun pins s σ H Q I q => h.run pins s σ H Q I (f σ H Q q)⟩
theorem PW.imp {X : Cx} {e : Expr} {t t' : TT} (h : PW X e t) (f : ∀ σ H Q, t' σ H Q → t σ H Q) : PW X e t' := ⟨fun w pins s σ H Q I q => h.run w pins s σ H Q I (f σ H Q q)⟩
theorem PA.imp {X : Cx} {es : List Expr} {t t' : TA} (h : PA X es t) (f : ∀ σ H Q, t' σ H Q → t σ H Q) : PA X es t' := ⟨fun pos pins s σ H Q I q => h.run pos pins s σ H Q I (f σ H Q q)⟩
theorem PS.imp {X : Cx} {s : Stmt} {t t' : TS} (h : PS X s t) (f : ∀ D σ H, t' D σ H → t D σ H) : PS X s t' := ⟨fun pins s σ H D I q => h.run pins s σ H D I (f D σ H q)⟩
theorem PSs.imp {X : Cx} {s : List Stmt} {t t' : TS} (h : PSs X s t) (f : ∀ D σ H, t' D σ H → t D σ H) : PSs X s t' := ⟨fun pins s σ H D I q => h.run pins s σ H D I (f D σ H q)⟩
theorem PE.or {X : Cx} {e : Expr} {t t' : TE} (h : PE X e t) (h' : PE X e t') : PE X e (fun σ H Q => t σ H Q ∨ t' σ H Q) := ⟨fun pins s σ H Q I q => q.elim (h.run pins s σ H Q I) (h'.run pins s σ H Q I)⟩

/-- the class of a refusal -/
def ClsIs (X : Cx) (c : String) (cls : Value) : Prop := ∃ a, X.mg (Str.ofString c) = some (.ref a) ∧ cls = .ref a
/-- what is wanted behind a refusal -/
def XQ (X : Cx) (ρ : List Addr) (H : Hp) (st : St) (σ : L2.St) (Wx : WX) (c : String) (st' : St) : Prop :=
  ∀ cls H' ρ', Step X.K ρ H st σ ρ' H' st' σ → ClsIs X c cls → Wx cls none σ H'
def EQ (X : Cx) (ρ : List Addr) (H : Hp) (st : St) (σ : L2.St) (Q : VK) (r : EV) (st' : St) : Prop :=
  ∀ v H' ρ', Step X.K ρ H st σ ρ' H' st' σ → ER X.K ρ' H' st' σ r v → New ρ H st σ r v → Q v H'
def BQ (X : Cx) (ρ : List Addr) (H : Hp) (st : St) (σ : L2.St) (Q : Bool → Hp → Prop) (b : Bool) (st' : St) : Prop :=
  ∀ H' ρ', Step X.K ρ H st σ ρ' H' st' σ → Q b H'
def tE (X : Cx) (f : St → Out EV) (Wx : WX) : TE := fun σ H Q => ∃ ρ st, Res X.K ρ H st σ ∧ Wp (f st) (EQ X ρ H st σ Q) (XQ X ρ H st σ Wx)
def tB (X : Cx) (f : St → Out Bool) (Wx : WX) : TT := fun σ H Q => ∃ ρ st, Res X.K ρ H st σ ∧ Wp (f st) (BQ X ρ H st σ Q) (XQ X ρ H st σ Wx)
def SE (X : Cx) (G : Gam) (m : E) (e : Expr) : Prop := ∀ Wx, Takes X Wx → PE X e (tE X (ev G m) Wx)
def ST (X : Cx) (G : Gam) (m : E) (e : Expr) : Prop := ∀ Wx, Takes X Wx → PT X e (tB X (tst G m) Wx)
section
variable {X : Cx} {G : Gam} {Wx : WX}
theorem XQ.back {ρ ρ1 : List Addr} {H H1 : Hp} {st st1 : St} {σ : L2.St} (s : Step X.K ρ H st σ ρ1 H1 st1 σ) {c : String} {st' : St} (h : XQ X ρ H st σ Wx c st') : XQ X ρ1 H1 st1 σ Wx c st' :=
  fun cls H' ρ' s' hc => h cls H' ρ' (s.trans s') hc
theorem New.trans {ρ ρ1 : List Addr} {H H1 : Hp} {st st1 : St} {σ : L2.St} (s : Step X.K ρ H st σ ρ1 H1 st1 σ) {r : EV} {v : V} (n : New ρ1 H1 st1 σ r v) : New ρ H st σ r v := fun x p e1 e2 => by
  rcases n x p e1 e2 with h | h
  · exact New.back s h
  · rcases s.grow p h with q | q
    · exact .inr q
    · exact .inl q
theorem EQ.back {ρ ρ1 : List Addr} {H H1 : Hp} {st st1 : St} {σ : L2.St} {Q : VK} (s : Step X.K ρ H st σ ρ1 H1 st1 σ) {r : EV} {st' : St} (h : EQ X ρ H st σ Q r st') : EQ X ρ1 H1 st1 σ Q r st' :=
  fun v H' ρ' s' hr hn => h v H' ρ' (s.trans s') hr (New.trans s hn)
theorem BQ.back {ρ ρ1 : List Addr} {H H1 : Hp} {st st1 : St} {σ : L2.St} {Q : Bool → Hp → Prop} (s : Step X.K ρ H st σ ρ1 H1 st1 σ) {r : Bool} {st' : St} (h : BQ X ρ H st σ Q r st') : BQ X ρ1 H1 st1 σ Q r st' :=
  fun H' ρ' s' => h H' ρ' (s.trans s')
/-- a value operation is the end -/
theorem EQ.fin {ρ ρ2 : List Addr} {H H2 H' : Hp} {st st2 : St} {σ : L2.St} {Q : VK} {r : EV} {v : V} (h : EQ X ρ H st σ Q r st2) (s : Step X.K ρ H st σ ρ2 H2 st2 σ) (e : Same H2 H') (n : NewR X.K ρ2 H2 r H' v) : Q v H' := by
  obtain ⟨a, b, c⟩ := fin_new s e n
  exact h v H' ρ2 a b c
/-- running one part, then the rest -/
theorem tE.bind {f : St → Out EV} {σ : L2.St} {H : Hp} {ρ : List Addr} {st : St} {α : Type} {g : EV → St → Out α} {P : α → St → Prop} {F : String → St → Prop} {R : VK} (hR : Res X.K ρ H st σ) (h : Wp ((f st).bind g) P F)
    (hF : ∀ c st', F c st' → XQ X ρ H st σ Wx c st')
    (k : ∀ r st1 v H1 ρ1, Step X.K ρ H st σ ρ1 H1 st1 σ → ER X.K ρ1 H1 st1 σ r v → New ρ H st σ r v → Wp (g r st1) P F → R v H1) : tE X f Wx σ H R :=
  ⟨ρ, st, hR, (Wp.bind.mp h).mono (fun r st1 h1 v H1 ρ1 s hr hn => k r st1 v H1 ρ1 s hr hn h1) hF⟩
theorem tB.bind {f : St → Out Bool} {σ : L2.St} {H : Hp} {ρ : List Addr} {st : St} {α : Type} {g : Bool → St → Out α} {P : α → St → Prop} {F : String → St → Prop} {R : Bool → Hp → Prop} (hR : Res X.K ρ H st σ) (h : Wp ((f st).bind g) P F)
    (hF : ∀ c st', F c st' → XQ X ρ H st σ Wx c st')
    (k : ∀ b st1 H1 ρ1, Step X.K ρ H st σ ρ1 H1 st1 σ → Wp (g b st1) P F → R b H1) : tB X f Wx σ H R :=
  ⟨ρ, st, hR, (Wp.bind.mp h).mono (fun r st1 h1 H1 ρ1 s => k r st1 H1 ρ1 s h1) hF⟩

/-! ### names and constants -/
theorem se_k {e : Expr} {d : D} {v : V} (h : PE X e (tC v)) (hv : ∀ ρ H, VR X.K ρ H d v) {m : E} (hm : ∀ st, ev G m st = .ok (.d d) st) : SE X G m e := fun Wx tk => by
  refine PE.imp h ?_
  rintro σ H Q ⟨ρ, st, hR, h⟩
  rw [hm] at h
  exact h v H ρ (Step.refl hR) (hv ρ H) (fun x p e _ => nomatch e)
theorem se_v {i : Nat} {e : Expr} (h : PE X e (tVar i)) : SE X G (.v i) e := fun Wx tk => by
  refine PE.imp h ?_
  rintro σ H Q ⟨ρ, st, hR, h⟩
  rw [ev] at h
  cases q : st.σ[i]? with
  | none =>
    rw [q] at h
    exact h.elim
  | some sl =>
    rw [q] at h
    have z := hR.sl i sl q
    cases sl with
    | un => exact h.elim
    | d x =>
      obtain ⟨v, e1, h1⟩ := z
      exact ⟨v, e1, h v H ρ (Step.refl hR) h1 (fun x p e _ => nomatch e)⟩
    | o x =>
      obtain ⟨p, e1, h1, h2⟩ := z
      exact ⟨_, e1, h (.ref p) H ρ (Step.refl hR) e1 (fun x p e _ => nomatch e)⟩
/-! ### operations -/
theorem wp_of {α : Type} {o : Option α} {st : St} {P : α → St → Prop} {F : String → St → Prop} (h : Wp (Out.of st o) P F) : ∃ a, o = some a ∧ P a st := by
  cases o with
  | none => exact h.elim
  | some a => exact ⟨a, rfl, h⟩
theorem wp_of2 {α : Type} {o : Option (α × St)} {P : α → St → Prop} {F : String → St → Prop} (h : Wp (Out.of2 o) P F) : ∃ a st, o = some (a, st) ∧ P a st := by
  cases o with
  | none => exact h.elim
  | some p => exact ⟨p.1, p.2, rfl, h⟩
theorem se_bin {op : Operator} {a b : E} {ea eb : Expr} {pos : Pos} (ha : SE X G a ea) (hb : SE X G b eb) : SE X G (.bin op a b) (.BinOp ea op eb pos) := fun Wx tk => by
  refine PE.imp (pe_op (op_binW op) (ha Wx tk) (hb Wx tk)) ?_
  rintro σ H Q ⟨ρ, st, hR, h⟩
  rw [ev] at h
  refine tE.bind hR h (fun _ _ x => x) fun va st1 v1 H1 ρ1 s1 r1 n1 h => ?_
  refine tE.bind s1.res h (fun _ _ x => x.back s1) fun vb st2 v2 H2 ρ2 s2 r2 n2 h => ?_
  have r1' := ER.step s1.res s2 r1
  cases q1 : rd st2 va with
  | none =>
    rw [q1] at h
    exact h.elim
  | some wa =>
    cases q2 : rd st2 vb with
    | none =>
      rw [q1, q2] at h
      exact h.elim
    | some wb =>
      rw [q1, q2] at h
      obtain ⟨r, e, h⟩ := wp_of h
      exact ⟨ρ2, wa, wb, r, rd_sound s2.res r1' q1, rd_sound s2.res r2 q2, e, fun v H' e n => h.fin (s1.trans s2) e n⟩
theorem se_cmp {op : CmpOp} {a b : E} {ea eb : Expr} {pos : Pos} (hu : Deep X) (hm : behindInMarks op eb = false) (ha : SE X G a ea) (hb : SE X G b eb) : SE X G (.cmp op a b) (.Compare ea [op] [eb] pos) := fun Wx tk => by
  refine PE.imp (pe_cmpR (op_cmpW hu op) (ha Wx tk) (hb Wx tk) hm) ?_
  rintro σ H Q ⟨ρ, st, hR, h⟩
  rw [ev] at h
  refine tE.bind hR h (fun _ _ x => x) fun va st1 v1 H1 ρ1 s1 r1 n1 h => ?_
  refine tE.bind s1.res h (fun _ _ x => x.back s1) fun vb st2 v2 H2 ρ2 s2 r2 n2 h => ?_
  have r1' := ER.step s1.res s2 r1
  cases q1 : rd st2 va with
  | none =>
    rw [q1] at h
    exact h.elim
  | some wa =>
    cases q2 : rd st2 vb with
    | none =>
      rw [q1, q2] at h
      exact h.elim
    | some wb =>
      rw [q1, q2] at h
      obtain ⟨r, e, h⟩ := wp_of h
      cases q3 : cmpW op wa wb with
      | none =>
        rw [q3] at e
        cases e
      | some c =>
        rw [q3] at e
        cases e
        exact ⟨ρ2, wa, wb, c, rd_sound s2.res r1' q1, rd_sound s2.res r2 q2, q3, h.fin (s1.trans s2) (Same.refl H2) rfl⟩
theorem st_cmp {op : CmpOp} {a b : E} {ea eb : Expr} {pos : Pos} (hu : Deep X) (hm : behindInMarks op eb = false) (ha : SE X G a ea) (hb : SE X G b eb) : ST X G (.cmp op a b) (.Compare ea [op] [eb] pos) := fun Wx tk => by
  refine PT.imp (pt_cmpR (op_cmpW hu op) (ha Wx tk) (hb Wx tk) hm) ?_
  rintro σ H Q ⟨ρ, st, hR, h⟩
  simp only [tst] at h
  rw [ev] at h
  have h := Wp.bind.mp h
  refine tE.bind hR h (fun _ _ x => x) fun va st1 v1 H1 ρ1 s1 r1 n1 h => ?_
  refine tE.bind s1.res h (fun _ _ x => x.back s1) fun vb st2 v2 H2 ρ2 s2 r2 n2 h => ?_
  have r1' := ER.step s1.res s2 r1
  cases q1 : rd st2 va with
  | none =>
    rw [q1] at h
    exact h.elim
  | some wa =>
    cases q2 : rd st2 vb with
    | none =>
      rw [q1, q2] at h
      exact h.elim
    | some wb =>
      rw [q1, q2] at h
      obtain ⟨r, e, h⟩ := wp_of h
      cases q3 : cmpW op wa wb with
      | none =>
        rw [q3] at e
        cases e
      | some c =>
        rw [q3] at e
        cases e
        exact ⟨ρ2, wa, wb, c, rd_sound s2.res r1' q1, rd_sound s2.res r2 q2, q3, c, rfl, h H2 ρ2 (s1.trans s2)⟩
theorem se_neg {a : E} {ea : Expr} {pos : Pos} (ha : SE X G a ea) : SE X G (.neg a) (.UnaryOp .USub ea pos) := fun Wx tk => by
  refine PE.imp (pe_un un_neg (ha Wx tk)) ?_
  rintro σ H Q ⟨ρ, st, hR, h⟩
  rw [ev] at h
  refine tE.bind hR h (fun _ _ x => x) fun va st1 v1 H1 ρ1 s1 r1 n1 h => ?_
  cases q1 : rd st1 va with
  | none =>
    rw [q1] at h
    exact h.elim
  | some wa =>
    rw [q1] at h
    cases q2 : intW wa with
    | none =>
      simp only [Option.bind_some, q2] at h
      exact h.elim
    | some i =>
      simp only [Option.bind_some, q2] at h
      have e := intW_of (rd_sound s1.res r1 q1) q2
      exact ⟨i, e, EQ.fin h s1 (Same.refl H1) rfl⟩
theorem tru_of {ρ : List Addr} {H : Hp} {st : St} {σ : L2.St} {va : EV} {v : V} {b : Bool} (hR : Res X.K ρ H st σ) (r : ER X.K ρ H st σ va v) (e : (rd st va).bind truthW = some b) : ∃ w, WR X.K ρ H w v ∧ truthW w = some b := by
  cases q1 : rd st va with
  | none =>
    rw [q1] at e
    cases e
  | some w =>
    rw [q1] at e
    exact ⟨w, rd_sound hR r q1, e⟩
theorem truV_of {ρ : List Addr} {H : Hp} {w : Wv} {v : V} {b : Bool} (h : WR X.K ρ H w v) (e : truthW w = some b) : TruV X.K v H b := by
  have hlim := lim_line
  unfold truthW at e
  split at e
  · cases e
    obtain ⟨rfl, _⟩ := h
    exact rfl
  · cases e
    obtain ⟨rfl, _⟩ := h
    exact rfl
  · cases e
    obtain ⟨rfl, _⟩ := h
    exact rfl
  · split at e
    · cases e
      obtain ⟨rfl, _⟩ := h
      exact ⟨by omega, len_ne _⟩
    · cases e
  · cases e
    obtain ⟨⟨a, vs, rfl, hsq, hv⟩, _⟩ := h
    refine .inr (.inl ⟨vs, (.of hsq), ?_⟩)
    rw [empty_len hv.length]
  · cases e
    obtain ⟨⟨a, vs, rfl, hsq, hv⟩, _⟩ := h
    refine .inl ⟨vs, hsq.sq, ?_⟩
    rw [empty_len hv.length]
  · cases e
    obtain ⟨a, rfl, vs, hp, hv⟩ := h
    refine .inl ⟨vs, .of hp, ?_⟩
    rw [empty_len hv.length]
  · cases e
theorem se_not {a : E} {ea : Expr} {pos : Pos} (ha : SE X G a ea) : SE X G (.not a) (.UnaryOp .Not ea pos) := fun Wx tk => by
  refine PE.imp (pe_notT (ha Wx tk)) ?_
  rintro σ H Q ⟨ρ, st, hR, h⟩
  rw [ev] at h
  refine tE.bind hR h (fun _ _ x => x) fun va st1 v1 H1 ρ1 s1 r1 n1 h => ?_
  cases q1 : (rd st1 va).bind truthW with
  | none =>
    rw [q1] at h
    exact h.elim
  | some b =>
    rw [q1] at h
    obtain ⟨w, hw, e⟩ := tru_of s1.res r1 q1
    exact ⟨b, truV_of hw e, EQ.fin h s1 (Same.refl H1) rfl⟩
theorem se_and {a b : E} {ea eb : Expr} {er : List Expr} {pos : Pos} (ha : SE X G a ea) (hb : SE X G b (.BoolOp .And (eb :: er) pos)) : SE X G (.and a b) (.BoolOp .And (ea :: eb :: er) pos) := fun Wx tk => by
  refine PE.imp (pe_andT (ha Wx tk) (hb Wx tk)) ?_
  rintro σ H Q ⟨ρ, st, hR, h⟩
  rw [ev] at h
  refine tE.bind hR h (fun _ _ x => x) fun va st1 v1 H1 ρ1 s1 r1 n1 h => ?_
  cases q1 : (rd st1 va).bind truthW with
  | none =>
    rw [q1] at h
    exact h.elim
  | some t =>
    rw [q1] at h
    obtain ⟨w, hw, e⟩ := tru_of s1.res r1 q1
    refine ⟨t, truV_of hw e, ?_⟩
    cases t with
    | true => exact iteT ⟨ρ1, st1, s1.res, Wp.mono h (fun _ _ x => x.back s1) fun _ _ x => x.back s1⟩
    | false => exact iteF (h v1 H1 ρ1 s1 r1 n1)
theorem se_or {a b : E} {ea eb : Expr} {er : List Expr} {pos : Pos} (ha : SE X G a ea) (hb : SE X G b (.BoolOp .Or (eb :: er) pos)) : SE X G (.or a b) (.BoolOp .Or (ea :: eb :: er) pos) := fun Wx tk => by
  refine PE.imp (pe_orT (ha Wx tk) (hb Wx tk)) ?_
  rintro σ H Q ⟨ρ, st, hR, h⟩
  rw [ev] at h
  refine tE.bind hR h (fun _ _ x => x) fun va st1 v1 H1 ρ1 s1 r1 n1 h => ?_
  cases q1 : (rd st1 va).bind truthW with
  | none =>
    rw [q1] at h
    exact h.elim
  | some t =>
    rw [q1] at h
    obtain ⟨w, hw, e⟩ := tru_of s1.res r1 q1
    refine ⟨t, truV_of hw e, ?_⟩
    cases t with
    | true => exact iteT (h v1 H1 ρ1 s1 r1 n1)
    | false => exact iteF ⟨ρ1, st1, s1.res, Wp.mono h (fun _ _ x => x.back s1) fun _ _ x => x.back s1⟩
theorem se_one {op : BoolOp} {b : E} {eb : Expr} {pos : Pos} (hb : SE X G b eb) : SE X G b (.BoolOp op [eb] pos) := fun Wx tk => pe_one (hb Wx tk)
theorem se_ife {c a b : E} {ec ea eb : Expr} {pos : Pos} (hc : ST X G c ec) (ha : SE X G a ea) (hb : SE X G b eb) : SE X G (.ife c a b) (.IfExp ec ea eb pos) := fun Wx tk => by
  refine PE.imp (pe_ifExp (hc Wx tk) (ha Wx tk) (hb Wx tk)) ?_
  rintro σ H Q ⟨ρ, st, hR, h⟩
  rw [ev] at h
  refine tB.bind hR h (fun _ _ x => x) fun t st1 H1 ρ1 s1 h => ?_
  cases t with
  | true => exact iteT ⟨ρ1, st1, s1.res, Wp.mono h (fun _ _ x => x.back s1) fun _ _ x => x.back s1⟩
  | false => exact iteF ⟨ρ1, st1, s1.res, Wp.mono h (fun _ _ x => x.back s1) fun _ _ x => x.back s1⟩
theorem se_idx {a b : E} {ea eb : Expr} {pos : Pos} (hu : Deep X) (hs : PlainIx eb) (ha : SE X G a ea) (hb : SE X G b eb) : SE X G (.idx a b) (.Subscript ea eb pos) := fun Wx tk => by
  refine PE.imp (pe_ix (ix_idxW hu) (ha Wx tk) (hb Wx tk) hs) ?_
  rintro σ H Q ⟨ρ, st, hR, h⟩
  rw [ev] at h
  refine tE.bind hR h (fun _ _ x => x) fun va st1 v1 H1 ρ1 s1 r1 n1 h => ?_
  refine tE.bind s1.res h (fun _ _ x => x.back s1) fun vb st2 v2 H2 ρ2 s2 r2 n2 h => ?_
  have r1' := ER.step s1.res s2 r1
  cases q1 : rd st2 va with
  | none =>
    rw [q1] at h
    exact h.elim
  | some wa =>
    cases q2 : rd st2 vb with
    | none =>
      rw [q1, q2] at h
      exact h.elim
    | some wb =>
      rw [q1, q2] at h
      obtain ⟨r, e, h⟩ := wp_of h
      exact ⟨ρ2, wa, wb, r, rd_sound s2.res r1' q1, rd_sound s2.res r2 q2, e, fun v H' e n => h.fin (s1.trans s2) e n⟩

/-! ### tests -/
theorem st_tru {a : E} {ea : Expr} (he : ∀ whole, isTrue ea X.env whole = (do let v ← whole; standAt ea.pos; holding [v] (truthy v)))
    (hm : ∀ st, tst G a st = (ev G a st).bind fun v st1 => match (rd st1 v).bind truthW with | some t => .ok t st1 | none => .bad) (ha : SE X G a ea) : ST X G a ea := fun Wx tk => by
  refine PT.imp (pt_truth (ha Wx tk) he) ?_
  rintro σ H Q ⟨ρ, st, hR, h⟩
  rw [hm] at h
  refine tE.bind hR h (fun _ _ x => x) fun va st1 v1 H1 ρ1 s1 r1 n1 h => ?_
  cases q1 : (rd st1 va).bind truthW with
  | none =>
    rw [q1] at h
    exact h.elim
  | some t =>
    rw [q1] at h
    obtain ⟨w, hw, e⟩ := tru_of s1.res r1 q1
    exact ⟨t, truV_of hw e, h H1 ρ1 s1⟩
theorem st_not {a : E} {ea : Expr} {pos : Pos} (ha : ST X G a ea) : ST X G (.not a) (.UnaryOp .Not ea pos) := fun Wx tk => by
  refine PT.imp (pt_not (ha Wx tk)) ?_
  rintro σ H Q ⟨ρ, st, hR, h⟩
  simp only [tst] at h
  exact tB.bind hR h (fun _ _ x => x) fun t st1 H1 ρ1 s1 h => h H1 ρ1 s1
/-- a test whatever stands around it -/
def SW (X : Cx) (G : Gam) (m : E) (e : Expr) : Prop := ∀ Wx, Takes X Wx → PW X e (tB X (tst G m) Wx)
theorem SW.st {m : E} {e : Expr} (h : SW X G m e) : ST X G m e := fun Wx tk => (h Wx tk).pt
theorem sw_and {a b : E} {ea eb : Expr} {er : List Expr} {pos : Pos} (ha : ST X G a ea) (hb : SW X G b (.BoolOp .And (eb :: er) pos)) : SW X G (.and a b) (.BoolOp .And (ea :: eb :: er) pos) := fun Wx tk => by
  refine PW.imp (pw_and (ha Wx tk) (hb Wx tk)) ?_
  rintro σ H Q ⟨ρ, st, hR, h⟩
  simp only [tst] at h
  refine tB.bind hR h (fun _ _ x => x) fun t st1 H1 ρ1 s1 h => ?_
  cases t with
  | true => exact iteT ⟨ρ1, st1, s1.res, Wp.mono h (fun _ _ x => x.back s1) fun _ _ x => x.back s1⟩
  | false => exact iteF (h H1 ρ1 s1)
theorem sw_or {a b : E} {ea eb : Expr} {er : List Expr} {pos : Pos} (ha : ST X G a ea) (hb : SW X G b (.BoolOp .Or (eb :: er) pos)) : SW X G (.or a b) (.BoolOp .Or (ea :: eb :: er) pos) := fun Wx tk => by
  refine PW.imp (pw_or (ha Wx tk) (hb Wx tk)) ?_
  rintro σ H Q ⟨ρ, st, hR, h⟩
  simp only [tst] at h
  refine tB.bind hR h (fun _ _ x => x) fun t st1 H1 ρ1 s1 h => ?_
  cases t with
  | true => exact iteT (h H1 ρ1 s1)
  | false => exact iteF ⟨ρ1, st1, s1.res, Wp.mono h (fun _ _ x => x.back s1) fun _ _ x => x.back s1⟩
theorem sw_and1 {b : E} {eb : Expr} {pos : Pos} (hb : ST X G b eb) : SW X G b (.BoolOp .And [eb] pos) := fun Wx tk => pw_and1 (hb Wx tk)
theorem sw_or1 {b : E} {eb : Expr} {pos : Pos} (hb : ST X G b eb) : SW X G b (.BoolOp .Or [eb] pos) := fun Wx tk => pw_or1 (hb Wx tk)
end
end EW

-- part: Sound6
set_option maxHeartbeats 1000000
/-! what is handed on: temps and own objects go to the small heap -/
namespace EW
open PySem PySem.Spec PyProof.Rows L2
section
variable {K : PySem.W.Frag} {ρ ρ0 ρ1 ρ2 ρ' : List Addr} {H H0 H1 H2 H' : Hp} {st st0 st1 st2 st' : St} {σ : L2.St}
theorem pre_app (ρ : List Addr) (p : Addr) : ρ <+: ρ ++ [p] := ⟨[p], rfl⟩
theorem HR.push {h : List O} {p : Addr} {x : O} (r : HR K ρ H h) (hp : p ∉ ρ) (hx : OR K ρ H p x) : HR K (ρ ++ [p]) H (h ++ [x]) := by
  refine ⟨by simp [r.len], ?_, fun i q y h1 h2 => ?_⟩
  · rw [List.nodup_append]
    refine ⟨r.nd, by simp, fun a ha b hb => ?_⟩
    have e : b = p := by simpa using hb
    rw [e]
    intro z
    rw [z] at ha
    exact hp ha
  · have mono : ∀ {q : Addr} {y : O}, OR K ρ H q y → OR K (ρ ++ [p]) H q y := fun h => h.mono rfl (Pers.refl H) (pre_app ρ p)
    by_cases hi : i < ρ.length
    · rw [List.getElem?_append_left hi] at h1
      rw [List.getElem?_append_left (by rw [← r.len]; exact hi)] at h2
      exact mono (r.obj i q y h1 h2)
    · have e : i = ρ.length := by
        have := (List.getElem?_eq_some_iff.mp h1).1
        simp at this
        omega
      subst e
      rw [List.getElem?_append_right (Nat.le_refl _)] at h1
      rw [List.getElem?_append_right (by rw [r.len]; exact Nat.le_refl _)] at h2
      simp [r.len] at h1 h2
      subst h1 h2
      exact mono hx
theorem SlotR.mono {σ : L2.St} {i : Nat} {s : Sl} (hp : ρ <+: ρ') (h : SlotR K ρ H σ i s) (hn : ∀ p x, s = .o x → σ[i]? = some (some (.ref p)) → p ∉ ρ') : SlotR K ρ' H σ i s := by
  cases s with
  | un => trivial
  | d x =>
    obtain ⟨v, e, h⟩ := h
    exact ⟨v, e, h.mono (Pers.refl H) hp x v⟩
  | o x =>
    obtain ⟨p, e, h, n⟩ := h
    exact ⟨p, e, h.mono rfl (Pers.refl H) hp, hn p x rfl e⟩
theorem toD_core {r : EV} {v : V} {d : D} (hR : Res K ρ H st σ) (hr : ER K ρ H st σ r v) (e : toD r st = some (d, st')) :
    ∃ ρ', Res K ρ' H st' σ ∧ ρ <+: ρ' ∧ VR K ρ' H d v ∧ ∀ a, Dom st' σ ρ' a → Dom st σ ρ a ∨ ∃ x, r = .o x ∧ v = .ref a := by
  cases r with
  | d x =>
    simp only [toD, Option.some.injEq, Prod.mk.injEq] at e
    obtain ⟨rfl, rfl⟩ := e
    exact ⟨ρ, hR, List.prefix_refl _, hr, fun a h => .inl h⟩
  | o x =>
    simp only [toD, Option.some.injEq, Prod.mk.injEq] at e
    obtain ⟨rfl, rfl⟩ := e
    obtain ⟨p, rfl, hx, n⟩ := hr
    have np : p ∉ ρ := fun h => n (.inl h)
    refine ⟨ρ ++ [p], ⟨hR.hr.push np hx, hR.len, fun i s h => ?_, hR.sep⟩, pre_app ρ p, ⟨p, ?_, rfl⟩, fun a h => ?_⟩
    · refine (hR.sl i s h).mono (pre_app ρ p) fun q y e1 e2 => ?_
      subst e1
      intro hm
      rcases List.mem_append.mp hm with z | z
      · obtain ⟨q', e3, _, n'⟩ := hR.sl i _ h
        rw [e2] at e3
        cases e3
        exact n' z
      · have e3 : q = p := by simpa using z
        subst e3
        exact n (.inr ⟨i, y, h, e2⟩)
    · rw [← hR.hr.len]
      simp
    · rcases h with h | h
      · rcases List.mem_append.mp h with z | z
        · exact .inl (.inl z)
        · have e3 : a = p := by simpa using z
          exact .inr ⟨x, rfl, by rw [e3]⟩
      · exact .inl (.inr h)
  | pl i =>
    have hi : σ[i]? = some (some v) := hr
    simp only [toD] at e
    cases q : st.σ[i]? with
    | none =>
      rw [q] at e
      cases e
    | some s =>
      rw [q] at e
      have z := hR.sl i s q
      cases s with
      | un => cases e
      | d x =>
        simp only [Option.some.injEq, Prod.mk.injEq] at e
        obtain ⟨rfl, rfl⟩ := e
        obtain ⟨v', e1, h1⟩ := z
        rw [hi] at e1
        cases e1
        exact ⟨ρ, hR, List.prefix_refl _, h1, fun a h => .inl h⟩
      | o x =>
        simp only [Option.some.injEq, Prod.mk.injEq] at e
        obtain ⟨rfl, rfl⟩ := e
        obtain ⟨p, e1, h1, np⟩ := z
        rw [hi] at e1
        cases e1
        have hlt : i < st.σ.length := (List.getElem?_eq_some_iff.mp q).1
        have len : (ρ ++ [p])[st.h.length]? = some p := by
          rw [← hR.hr.len]
          simp
        refine ⟨ρ ++ [p], ⟨hR.hr.push np h1, by simpa using hR.len, fun j s h => ?_, fun j k y z' w hjk h2 h3 h4 h5 => ?_⟩, pre_app ρ p, ⟨p, len, rfl⟩, fun a h => ?_⟩
        · by_cases hj : j = i
          · subst hj
            rw [List.getElem?_set_self hlt] at h
            cases h
            exact ⟨_, hi, p, len, rfl⟩
          · rw [List.getElem?_set_ne (Ne.symm hj)] at h
            refine (hR.sl j s h).mono (pre_app ρ p) fun q' y e1 e2 => ?_
            subst e1
            intro hm
            rcases List.mem_append.mp hm with z | z
            · obtain ⟨q'', e3, _, n'⟩ := hR.sl j _ h
              rw [e2] at e3
              cases e3
              exact n' z
            · have e3 : q' = p := by simpa using z
              subst e3
              exact hR.sep j i y x q' hj h q e2 hi
        · have hj : j ≠ i := fun z => by
            subst z
            rw [List.getElem?_set_self hlt] at h2
            cases h2
          have hk : k ≠ i := fun z => by
            subst z
            rw [List.getElem?_set_self hlt] at h3
            cases h3
          rw [List.getElem?_set_ne (Ne.symm hj)] at h2
          rw [List.getElem?_set_ne (Ne.symm hk)] at h3
          exact hR.sep j k y z' w hjk h2 h3 h4 h5
        · left
          rcases h with h | ⟨j, y, h2, h3⟩
          · rcases List.mem_append.mp h with z | z
            · exact .inl z
            · have e3 : a = p := by simpa using z
              subst e3
              exact .inr ⟨i, x, q, hi⟩
          · have hj : j ≠ i := fun z => by
              subst z
              rw [List.getElem?_set_self hlt] at h2
              cases h2
            rw [List.getElem?_set_ne (Ne.symm hj)] at h2
            exact .inr ⟨j, y, h2, h3⟩
  | it k vs => exact hr.elim
/-- one value is handed on -/
theorem toD_sound {r : EV} {v : V} {d : D} (s : Step K ρ0 H0 st0 σ ρ H st σ) (hr : ER K ρ H st σ r v) (hn : New ρ0 H0 st0 σ r v) (e : toD r st = some (d, st')) :
    ∃ ρ', Step K ρ0 H0 st0 σ ρ' H st' σ ∧ ρ <+: ρ' ∧ VR K ρ' H d v ∧ ∀ a, Dom st' σ ρ' a → Dom st σ ρ a ∨ ∃ x, r = .o x ∧ v = .ref a := by
  obtain ⟨ρ', h1, h2, h3, h4⟩ := toD_core s.res hr e
  refine ⟨ρ', ⟨h1, s.pre.trans h2, s.frame, fun a ha => ?_, s.frz⟩, h2, h3, h4⟩
  rcases h4 a ha with z | ⟨x, e1, e2⟩
  · exact s.grow a z
  · rcases hn x a e1 e2 with z | z
    · exact .inr z
    · exact .inl z

/-! ### argument lists -/
def ERs (K : PySem.W.Frag) (ρ : List Addr) (H : Hp) (st : St) (σ : L2.St) : List EV → List V → Prop
  | [], vs => vs = []
  | r :: rs, vs => ∃ v t, vs = v :: t ∧ ER K ρ H st σ r v ∧ ERs K ρ H st σ rs t ∧ ∀ x p, r = .o x → v = .ref p → ∀ (j : Nat) (y : O), rs[j]? = some (.o y) → t[j]? = some (.ref p) → False
def NewS (ρ : List Addr) (H : Hp) (st : St) (σ : L2.St) (rs : List EV) (vs : List V) : Prop := ∀ (j : Nat) (x : O) (p : Addr), rs[j]? = some (.o x) → vs[j]? = some (.ref p) → H p = none ∨ Dom st σ ρ p
theorem ERs.erl : ∀ {rs : List EV} {vs : List V}, ERs K ρ H st σ rs vs → ERl K ρ H st σ rs vs
  | [], vs, h => h
  | r :: rs, vs, h => by
    obtain ⟨v, t, e, h1, h2, _⟩ := h
    exact ⟨v, t, e, h1, ERs.erl h2⟩
theorem ERs.promo {p : V} (hp : ρ <+: ρ') (hd : ∀ a, Dom st' σ ρ' a → Dom st σ ρ a ∨ p = .ref a) : ∀ {rs : List EV} {vs : List V}, ERs K ρ H st σ rs vs →
    (∀ q, p = .ref q → ¬ Dom st σ ρ q → ∀ (j : Nat) (y : O), rs[j]? = some (.o y) → vs[j]? = some (.ref q) → False) → ERs K ρ' H st' σ rs vs
  | [], vs, h, _ => h
  | r :: rs, vs, h, hq => by
    obtain ⟨v, t, rfl, h1, h2, h3⟩ := h
    refine ⟨v, t, rfl, ?_, ERs.promo hp hd h2 (fun q e n j y e1 e2 => hq q e n (j + 1) y (by simpa using e1) (by simpa using e2)), h3⟩
    cases r with
    | d x => exact VR.mono (Pers.refl H) hp x v h1
    | o x =>
      obtain ⟨q, e, hx, n⟩ := h1
      refine ⟨q, e, hx.mono rfl (Pers.refl H) hp, fun d => ?_⟩
      rcases hd q d with z | z
      · exact n z
      · exact hq q z n 0 x rfl (by rw [e]; rfl)
    | pl i => exact h1
    | it k vs => exact h1
theorem toDs_sound : ∀ {rs : List EV} {vs : List V} {ds : List D} {st st' : St} {ρ : List Addr}, Step K ρ0 H0 st0 σ ρ H st σ → ERs K ρ H st σ rs vs → NewS ρ0 H0 st0 σ rs vs → toDs rs st = some (ds, st') →
    ∃ ρ', Step K ρ0 H0 st0 σ ρ' H st' σ ∧ ρ <+: ρ' ∧ VRs K ρ' H ds vs
  | [], vs, ds, st, st', ρ, s, h, _, e => by
    simp only [toDs, Option.some.injEq, Prod.mk.injEq] at e
    obtain ⟨rfl, rfl⟩ := e
    exact ⟨ρ, s, List.prefix_refl _, h⟩
  | r :: rs, vs, ds, st, st', ρ, s, h, hn, e => by
    obtain ⟨v, t, rfl, h1, h2, h3⟩ := h
    simp only [toDs] at e
    cases q : toD r st with
    | none =>
      rw [q] at e
      cases e
    | some p =>
      obtain ⟨x, st1⟩ := p
      rw [q] at e
      simp only at e
      cases q2 : toDs rs st1 with
      | none =>
        rw [q2] at e
        cases e
      | some p2 =>
        obtain ⟨xs, st2⟩ := p2
        rw [q2] at e
        simp only [Option.some.injEq, Prod.mk.injEq] at e
        obtain ⟨rfl, rfl⟩ := e
        obtain ⟨ρ1, s1, g1, g2, g3⟩ := toD_sound s h1 (fun y p e1 e2 => hn 0 y p (by rw [e1]; rfl) (by rw [e2]; rfl)) q
        have h2' : ERs K ρ1 H st1 σ rs t := by
          refine ERs.promo (p := match r with | .o _ => v | _ => .non) g1 (fun a ha => ?_) h2 (fun q' e1 n j y e2 e3 => ?_)
          · rcases g3 a ha with z | ⟨x', e1, e2⟩
            · exact .inl z
            · subst e1
              exact .inr e2
          · cases r with
            | o x' => exact h3 x' q' rfl e1 j y e2 e3
            | d x' => cases e1
            | pl i => cases e1
            | it k vs => cases e1
        obtain ⟨ρ2, s2, g4, g5⟩ := toDs_sound s1 h2' (fun j y p e1 e2 => hn (j + 1) y p (by simpa using e1) (by simpa using e2)) q2
        exact ⟨ρ2, s2, g1.trans g4, .cons (g2.mono (Pers.refl H) g4 x v) g5⟩
end
section
variable {X : Cx} {G : Gam} {Wx : WX}
def AQ (X : Cx) (ρ : List Addr) (H : Hp) (st : St) (σ : L2.St) (Q : List V → Hp → Prop) (rs : List EV) (st' : St) : Prop :=
  ∀ vs H' ρ', Step X.K ρ H st σ ρ' H' st' σ → ERs X.K ρ' H' st' σ rs vs → NewS ρ H st σ rs vs → Q vs H'
def tA (X : Cx) (f : St → Out (List EV)) (Wx : WX) : TA := fun σ H Q => ∃ ρ st, Res X.K ρ H st σ ∧ Wp (f st) (AQ X ρ H st σ Q) (XQ X ρ H st σ Wx)
def SA (X : Cx) (G : Gam) (ms : List E) (es : List Expr) : Prop := ∀ Wx, Takes X Wx → PA X es (tA X (evs G ms) Wx)
theorem sa_nil : SA X G [] [] := fun Wx tk => by
  refine PA.imp pa_nil ?_
  rintro σ H Q ⟨ρ, st, hR, h⟩
  simp only [evs] at h
  exact h [] H ρ (Step.refl hR) rfl (fun j x p e => by simp at e)
theorem sa_cons {m : E} {ms : List E} {e : Expr} {es : List Expr} (hp : starEach (e :: es) X.env = (false, eval e X.env) :: starEach es X.env) (h1 : SE X G m e) (h2 : SA X G ms es) : SA X G (m :: ms) (e :: es) := fun Wx tk => by
  refine PA.imp (pa_cons (h1 Wx tk) (h2 Wx tk) hp) ?_
  rintro σ H Q ⟨ρ, st, hR, h⟩
  simp only [evs] at h
  refine tE.bind hR h (fun _ _ x => x) fun r st1 v H1 ρ1 s1 r1 n1 h => ?_
  refine ⟨ρ1, st1, s1.res, Wp.mono (Wp.bind.mp h) (fun rs st2 h2 vs H2 ρ2 s2 r2 n2 => ?_) fun _ _ x => x.back s1⟩
  refine h2 (v :: vs) H2 ρ2 (s1.trans s2) ⟨v, vs, rfl, ER.step s1.res s2 r1, r2, fun x p e1 e2 j y e3 e4 => ?_⟩ fun j x p e1 e2 => ?_
  · subst e1 e2
    obtain ⟨p', e5, hx, n⟩ := r1
    cases e5
    obtain ⟨o, e6, _⟩ := hx.there
    rcases n2 j y p e3 e4 with z | z
    · rw [e6] at z
      cases z
    · exact n z
  · cases j with
    | zero =>
      simp at e1 e2
      exact n1 x p e1 e2
    | succ j =>
      rcases n2 j x p (by simpa using e1) (by simpa using e2) with z | z
      · exact New.back s1 z
      · rcases s1.grow p z with z | z
        · exact .inr z
        · exact .inl z
theorem tA.bind {f : St → Out (List EV)} {σ : L2.St} {H : Hp} {ρ : List Addr} {st : St} {α : Type} {g : List EV → St → Out α} {P : α → St → Prop} {F : String → St → Prop} {R : List V → Hp → Prop} (hR : Res X.K ρ H st σ) (h : Wp ((f st).bind g) P F)
    (hF : ∀ c st', F c st' → XQ X ρ H st σ Wx c st')
    (k : ∀ rs st1 vs H1 ρ1, Step X.K ρ H st σ ρ1 H1 st1 σ → ERs X.K ρ1 H1 st1 σ rs vs → NewS ρ H st σ rs vs → Wp (g rs st1) P F → R vs H1) : tA X f Wx σ H R :=
  ⟨ρ, st, hR, (Wp.bind.mp h).mono (fun r st1 h1 v H1 ρ1 s hr hn => k r st1 v H1 ρ1 s hr hn h1) hF⟩

theorem se_tup {ms : List E} {es : List Expr} {x1 : Nat} {pos : Pos} (ha : SA X G ms es) : SE X G (.tup ms) (.Tuple es x1 pos) := fun Wx tk => by
  refine PE.imp (pe_tup (ha Wx tk)) ?_
  rintro σ H Q ⟨ρ, st, hR, h⟩
  rw [ev] at h
  refine tA.bind hR h (fun _ _ x => x) fun rs st1 vs H1 ρ1 s1 r1 n1 h => ?_
  obtain ⟨ds, st2, e, h⟩ := wp_of2 (Wp.bind.mp h)
  obtain ⟨ρ2, s2, _, hv⟩ := toDs_sound s1 r1 n1 e
  have hlim := lim_line
  split at h
  · refine ⟨by rw [hv.length]; omega, fun p hp => ?_⟩
    exact EQ.fin h s2 (same_new hp) (NewR.tup hp hv)
  · exact h.elim
theorem se_lst {ms : List E} {es : List Expr} {pos : Pos} (ha : SA X G ms es) : SE X G (.lst ms) (.List es pos) := fun Wx tk => by
  refine PE.imp (pe_lst (ha Wx tk)) ?_
  rintro σ H Q ⟨ρ, st, hR, h⟩
  rw [ev] at h
  refine tA.bind hR h (fun _ _ x => x) fun rs st1 vs H1 ρ1 s1 r1 n1 h => ?_
  obtain ⟨ds, st2, e, h⟩ := wp_of2 (Wp.bind.mp h)
  obtain ⟨ρ2, s2, _, hv⟩ := toDs_sound s1 r1 n1 e
  have hlim := lim_line
  split at h
  · refine ⟨by rw [hv.length]; omega, fun p hp => ?_⟩
    exact EQ.fin h s2 (same_new hp) (NewR.lst hp hv)
  · exact h.elim

/-! ### built-in calls -/
def biN : B → Str
  | .len => "len" | .max => "max" | .min => "min" | .sum => "sum" | .all => "all" | .any => "any" | .abs => "abs"
  | .int => "int" | .str => "str" | .tuple => "tuple" | .list => "list" | .sorted => "sorted" | .divmod => "divmod" | .repr => "repr" | .dict => "dict" | .set => "set"
theorem boot_bi (b : B) : bootBuiltins (biN b) = some (biV b) := by
  cases b <;> decide +kernel
theorem pe_callBi {b : B} {e : Expr} {es : List Expr} {t : TA} {r : List V → Hp → VK → Prop} {p pos : Pos} (hc : CallR X (biV b) r) (hg : Gl X (biN b)) (hm : X.mg (biN b) = none) (ha : PA X (e :: es) t)
    (he : starEach (e :: es) X.env = (false, eval e X.env) :: starEach es X.env) (hpl : (backTo pos (starEach es X.env)).any (·.1) = false) : PE X (.Call (.Name (biN b) p) (e :: es) [] pos) (tCB r t) := by
  have hb := boot_bi b
  cases b <;> first | exact pe_callB hc hg hm hb ha (by decide) (by decide) he hpl | exact pe_callTy hc hg hm hb ha (by decide) (by decide) he hpl
theorem se_bi {b : B} {ms : List E} {e : Expr} {es : List Expr} {p pos : Pos} (hc : X.calm = true) (hu : Deep X) (hg : Gl X (biN b)) (hm : X.mg (biN b) = none)
    (he : starEach (e :: es) X.env = (false, eval e X.env) :: starEach es X.env) (hpl : (backTo pos (starEach es X.env)).any (·.1) = false) (ha : SA X G ms (e :: es)) : SE X G (.bi b ms) (.Call (.Name (biN b) p) (e :: es) [] pos) := fun Wx tk => by
  refine PE.imp (pe_callBi (call_bi hc hu b) hg hm (ha Wx tk) he hpl) ?_
  rintro σ H Q ⟨ρ, st, hR, h⟩
  rw [ev] at h
  refine tA.bind hR h (fun _ _ x => x) fun rs st1 vs H1 ρ1 s1 r1 n1 h => ?_
  obtain ⟨r, e, h⟩ := wp_of h
  exact ⟨ρ1, st1, σ, rs, r, s1.res, r1.erl, e, fun v H' e n => h.fin s1 e n⟩

/-! ### slices -/
def tO (X : Cx) (f : St → Out (Option Int)) (Wx : WX) : TO := fun σ H Q => ∃ ρ st, Res X.K ρ H st σ ∧ Wp (f st) (fun o st' => ∀ H' ρ', Step X.K ρ H st σ ρ' H' st' σ → Q o H') (XQ X ρ H st σ Wx)
def SO (X : Cx) (G : Gam) (m : E) (e : Option Expr) : Prop := ∀ Wx, Takes X Wx → PO X e (tO X (evo G m) Wx)
theorem PO.imp {X : Cx} {e : Option Expr} {t t' : TO} (h : PO X e t) (f : ∀ σ H Q, t' σ H Q → t σ H Q) : PO X e t' := ⟨fun pins s σ H Q I q => h.run pins s σ H Q I (f σ H Q q)⟩
theorem so_no : SO X G .no none := fun Wx tk => by
  refine PO.imp po_none ?_
  rintro σ H Q ⟨ρ, st, hR, h⟩
  simp only [evo] at h
  exact h H ρ (Step.refl hR)
theorem so_some {m : E} {e : Expr} (hm : m ≠ .no) (he : SE X G m e) : SO X G m (some e) := fun Wx tk => by
  refine PO.imp (po_some (he Wx tk)) ?_
  rintro σ H Q ⟨ρ, st, hR, h⟩
  have e1 : evo G m st = (ev G m st).bind fun v st1 => match (rd st1 v).bind intW with | some i => .ok (some i) st1 | none => .bad := by
    cases m <;> first | exact absurd rfl hm | (simp only [evo]; done) | (simp only [evo]; rfl)
  rw [e1] at h
  refine tE.bind hR h (fun _ _ x => x) fun va st1 v1 H1 ρ1 s1 r1 n1 h => ?_
  cases q1 : rd st1 va with
  | none =>
    rw [q1] at h
    exact h.elim
  | some wa =>
    rw [q1] at h
    cases q2 : intW wa with
    | none =>
      simp only [Option.bind_some, q2] at h
      exact h.elim
    | some i =>
      simp only [Option.bind_some, q2] at h
      exact ⟨i, intW_of (rd_sound s1.res r1 q1) q2, h H1 ρ1 s1⟩
theorem tO.bind {f : St → Out (Option Int)} {σ : L2.St} {H : Hp} {ρ : List Addr} {st : St} {α : Type} {g : Option Int → St → Out α} {P : α → St → Prop} {F : String → St → Prop} {R : Option Int → Hp → Prop} (hR : Res X.K ρ H st σ) (h : Wp ((f st).bind g) P F)
    (hF : ∀ c st', F c st' → XQ X ρ H st σ Wx c st')
    (k : ∀ b st1 H1 ρ1, Step X.K ρ H st σ ρ1 H1 st1 σ → Wp (g b st1) P F → R b H1) : tO X f Wx σ H R :=
  ⟨ρ, st, hR, (Wp.bind.mp h).mono (fun r st1 h1 H1 ρ1 s => k r st1 H1 ρ1 s h1) hF⟩
theorem se_sl {a lo hi : E} {ea : Expr} {elo ehi : Option Expr} {p2 pos : Pos} (ha : SE X G a ea) (hl : SO X G lo elo) (hh : SO X G hi ehi) : SE X G (.sl a lo hi) (.Subscript ea (.Slice elo ehi none p2) pos) := fun Wx tk => by
  refine PE.imp (pe_slice sl_W (ha Wx tk) (hl Wx tk) (hh Wx tk)) ?_
  rintro σ H Q ⟨ρ, st, hR, h⟩
  rw [ev] at h
  refine tE.bind hR h (fun _ _ x => x) fun va st1 v1 H1 ρ1 s1 r1 n1 h => ?_
  refine tO.bind s1.res h (fun _ _ x => x.back s1) fun l st2 H2 ρ2 s2 h => ?_
  refine tO.bind s2.res h (fun _ _ x => x.back (s1.trans s2)) fun u st3 H3 ρ3 s3 h => ?_
  have r1' := ER.step s2.res s3 (ER.step s1.res s2 r1)
  cases q1 : rd st3 va with
  | none =>
    rw [q1] at h
    exact h.elim
  | some wa =>
    rw [q1] at h
    obtain ⟨r, e, h⟩ := wp_of h
    exact ⟨ρ3, wa, r, rd_sound s3.res r1' q1, e, fun v H' e n => h.fin ((s1.trans s2).trans s3) e n⟩

/-! ### a op b op' c -/
theorem se_chn {op op' : CmpOp} {a b c : E} {ea eb ec : Expr} {pos : Pos} (hu : Deep X) (hm : lastMarks [op, op'] [eb, ec] = false) (ha : SE X G a ea) (hb : SE X G b eb) (hc : SE X G c ec) : SE X G (.chn op op' a b c) (.Compare ea [op, op'] [eb, ec] pos) := fun Wx tk => by
  refine PE.imp (pe_chain (op_cmpW hu op) (op_cmpW hu op') (ha Wx tk) (hb Wx tk) (hc Wx tk) hm) ?_
  rintro σ H Q ⟨ρ, st, hR, h⟩
  rw [ev] at h
  refine tE.bind hR h (fun _ _ x => x) fun va st1 v1 H1 ρ1 s1 r1 n1 h => ?_
  refine tE.bind s1.res h (fun _ _ x => x.back s1) fun vb st2 v2 H2 ρ2 s2 r2 n2 h => ?_
  have r1' := ER.step s1.res s2 r1
  cases q1 : rd st2 va with
  | none =>
    rw [q1] at h
    exact h.elim
  | some wa =>
    cases q2 : rd st2 vb with
    | none =>
      rw [q1, q2] at h
      exact h.elim
    | some wb =>
      simp only [q1, q2] at h
      cases q3 : cmpW op wa wb with
      | none =>
        rw [q3] at h
        exact h.elim
      | some k =>
        refine ⟨ρ2, wa, wb, k, rd_sound s2.res r1' q1, rd_sound s2.res r2 q2, q3, k, rfl, ?_⟩
        cases k with
        | false =>
          rw [q3] at h
          exact iteF (EQ.fin h (s1.trans s2) (Same.refl H2) rfl)
        | true =>
          rw [q3] at h
          refine iteT ?_
          refine tE.bind s2.res h (fun _ _ x => x.back (s1.trans s2)) fun vc st3 v3 H3 ρ3 s3 r3 n3 h => ?_
          have r2' := ER.step s2.res s3 r2
          cases q4 : rd st3 vb with
          | none =>
            rw [q4] at h
            exact h.elim
          | some wb' =>
            cases q5 : rd st3 vc with
            | none =>
              rw [q4, q5] at h
              exact h.elim
            | some wc =>
              rw [q4, q5] at h
              obtain ⟨r, e, h⟩ := wp_of h
              cases q6 : cmpW op' wb' wc with
              | none =>
                rw [q6] at e
                cases e
              | some k' =>
                rw [q6] at e
                cases e
                exact ⟨ρ3, wb', wc, k', rd_sound s3.res r2' q4, rd_sound s3.res r3 q5, q6, h.fin ((s1.trans s2).trans s3) (Same.refl H3) rfl⟩
theorem st_chn {op op' : CmpOp} {a b c : E} {ea eb ec : Expr} {pos : Pos} (hu : Deep X) (hm : lastMarks [op, op'] [eb, ec] = false) (ha : SE X G a ea) (hb : SE X G b eb) (hc : SE X G c ec) : ST X G (.chn op op' a b c) (.Compare ea [op, op'] [eb, ec] pos) := fun Wx tk => by
  refine PT.imp (pt_chain (op_cmpW hu op) (op_cmpW hu op') (ha Wx tk) (hb Wx tk) (hc Wx tk) hm) ?_
  rintro σ H Q ⟨ρ, st, hR, h⟩
  simp only [tst] at h
  rw [ev] at h
  have h := Wp.bind.mp h
  refine tE.bind hR h (fun _ _ x => x) fun va st1 v1 H1 ρ1 s1 r1 n1 h => ?_
  refine tE.bind s1.res h (fun _ _ x => x.back s1) fun vb st2 v2 H2 ρ2 s2 r2 n2 h => ?_
  have r1' := ER.step s1.res s2 r1
  cases q1 : rd st2 va with
  | none =>
    rw [q1] at h
    exact h.elim
  | some wa =>
    cases q2 : rd st2 vb with
    | none =>
      rw [q1, q2] at h
      exact h.elim
    | some wb =>
      simp only [q1, q2] at h
      cases q3 : cmpW op wa wb with
      | none =>
        rw [q3] at h
        exact h.elim
      | some k =>
        refine ⟨ρ2, wa, wb, k, rd_sound s2.res r1' q1, rd_sound s2.res r2 q2, q3, k, rfl, ?_⟩
        cases k with
        | false =>
          rw [q3] at h
          exact iteF ⟨false, rfl, h H2 ρ2 (s1.trans s2)⟩
        | true =>
          rw [q3] at h
          refine iteT ?_
          refine tE.bind s2.res h (fun _ _ x => x.back (s1.trans s2)) fun vc st3 v3 H3 ρ3 s3 r3 n3 h => ?_
          have r2' := ER.step s2.res s3 r2
          cases q4 : rd st3 vb with
          | none =>
            rw [q4] at h
            exact h.elim
          | some wb' =>
            cases q5 : rd st3 vc with
            | none =>
              rw [q4, q5] at h
              exact h.elim
            | some wc =>
              rw [q4, q5] at h
              obtain ⟨r, e, h⟩ := wp_of h
              cases q6 : cmpW op' wb' wc with
              | none =>
                rw [q6] at e
                cases e
              | some k' =>
                rw [q6] at e
                cases e
                exact ⟨ρ3, wb', wc, k', rd_sound s3.res r2' q4, rd_sound s3.res r3 q5, q6, k', rfl, h H3 ρ3 ((s1.trans s2).trans s3)⟩
end
end EW

-- part: Sound7
set_option maxHeartbeats 1000000
/-! calls of defs; what is walked -/
namespace EW
open PySem PySem.Spec PyProof.Rows L2 RZ RT
/-- a def's promise by Mini -/
structure HStep (K : PySem.W.Frag) (ρ : List Addr) (H : Hp) (ρ' : List Addr) (H' : Hp) (h' : List O) : Prop where
  hr : HR K ρ' H' h'
  pre : ρ <+: ρ'
  frame : ∀ a o, H a = some o → a ∉ ρ → H' a = some o
  grow : ∀ a, a ∈ ρ' → a ∈ ρ ∨ H a = none
  frz : ∀ a o u, H a = some (.frz o u) → H' a = some (.frz o u)
def RC (K : PySem.W.Frag) (H : Hp) (ρ' : List Addr) (H' : Hp) (r : EV) (v : V) : Prop := match r with
  | .d x => VR K ρ' H' x v
  | .o x => ∃ p, v = .ref p ∧ OR K ρ' H' p x ∧ p ∉ ρ' ∧ H p = none
  | _ => False
def ClsM (mg : Str → Option Value) (c : String) (cls : Value) : Prop := ∃ a, mg (Str.ofString c) = some (.ref a) ∧ cls = .ref a
def spF (K : PySem.W.Frag) (mg : Str → Option Value) (n : Nat) (call : List D → List O → OutC) : Sp := fun vs H Q E => ∃ ρ h ds, HR K ρ H h ∧ VRs K ρ H ds vs ∧ ds.length = n ∧ match call ds h with
  | .ok r h' => ∀ v H' ρ', HStep K ρ H ρ' H' h' → RC K H ρ' H' r v → Q v H'
  | .ex c h' => ∀ cls H' ρ', HStep K ρ H ρ' H' h' → ClsM mg c cls → E cls none H'
  | .bad => False
section
variable {K : PySem.W.Frag} {ρ ρ' : List Addr} {H H' : Hp} {st : St} {σ : L2.St} {h' : List O}
theorem HStep.pers (hr : HR K ρ H st.h) (s : HStep K ρ H ρ' H' h') : Pers H H' := by
  have key : ∀ a, a ∈ ρ → ∃ x, OR K ρ H a x := fun a ha => by
    obtain ⟨i, hi, e⟩ := List.mem_iff_getElem.mp ha
    have hi' : i < st.h.length := by
      rw [← hr.len]
      exact hi
    exact ⟨_, hr.obj i a _ (by rw [List.getElem?_eq_getElem hi, e]) (List.getElem?_eq_getElem hi')⟩
  refine ⟨fun a xs h => s.frame a _ h fun d => ?_, fun a o u hu h => s.frame a _ h fun d => ?_, fun a φ h => s.frame a _ h fun d => ?_⟩
  · obtain ⟨x, h1⟩ := key a d
    obtain ⟨o, e, n, _⟩ := h1.there
    rw [h] at e
    cases e
    exact n xs rfl
  · obtain ⟨x, h1⟩ := key a d
    obtain ⟨o', e, _, n, _⟩ := h1.there
    rw [h] at e
    cases e
    exact n o u hu rfl
  · obtain ⟨x, h1⟩ := key a d
    obtain ⟨o', e, _, _, n⟩ := h1.there
    rw [h] at e
    cases e
    exact n φ rfl
/-- behind a call, in the caller -/
theorem HStep.step (hR : Res K ρ H st σ) (s : HStep K ρ H ρ' H' h') : Step K ρ H st σ ρ' H' { st with h := h' } σ := by
  have ps := HStep.pers hR.hr s
  refine ⟨⟨s.hr, hR.len, fun i sl e => ?_, hR.sep⟩, s.pre, fun a o e n => s.frame a o e fun z => n (.inl z), fun a d => ?_, s.frz⟩
  · have z := hR.sl i sl e
    cases sl with
    | un => trivial
    | d x =>
      obtain ⟨v, e1, h1⟩ := z
      exact ⟨v, e1, h1.mono ps s.pre x v⟩
    | o x =>
      obtain ⟨p, e1, h1, n⟩ := z
      obtain ⟨o, e2, _⟩ := h1.there
      refine ⟨p, e1, h1.mono (by rw [e2, s.frame p o e2 n]) ps s.pre, fun z => ?_⟩
      rcases s.grow p z with q | q
      · exact n q
      · rw [e2] at q
        cases q
  · rcases d with d | ⟨i, x, e1, e2⟩
    · rcases s.grow a d with q | q
      · exact .inl (.inl q)
      · exact .inr q
    · exact .inl (.inr ⟨i, x, e1, e2⟩)
theorem RC.er {r : EV} {v : V} (hR : Res K ρ H st σ) (s : HStep K ρ H ρ' H' h') (h : RC K H ρ' H' r v) : ER K ρ' H' { st with h := h' } σ r v ∧ ∀ x p, r = .o x → v = .ref p → H p = none := by
  cases r with
  | d x => exact ⟨h, fun x p e _ => nomatch e⟩
  | o x =>
    obtain ⟨p, e, h1, n1, n2⟩ := h
    refine ⟨⟨p, e, h1, fun d => ?_⟩, fun y q e1 e2 => by rw [e] at e2; cases e2; exact n2⟩
    rcases d with d | ⟨i, y, e1, e2⟩
    · exact n1 d
    · have z := hR.notDom n2
      exact z (.inr ⟨i, y, e1, e2⟩)
  | pl i => exact h.elim
  | it k vs => exact h.elim
end
section
variable {X : Cx} {G : Gam} {Wx : WX}
theorem evs_length : ∀ {ms : List E} {st st' : St} {rs : List EV}, evs G ms st = .ok rs st' → rs.length = ms.length
  | [], st, st', rs, h => by
    simp only [evs] at h
    cases h
    rfl
  | m :: ms, st, st', rs, h => by
    simp only [evs] at h
    cases e1 : ev G m st with
    | bad =>
      rw [e1] at h
      cases h
    | ex c s1 =>
      rw [e1] at h
      cases h
    | ok v s1 =>
      rw [e1] at h
      simp only [Out.bind_ok] at h
      cases e2 : evs G ms s1 with
      | bad =>
        rw [e2] at h
        cases h
      | ex c s2 =>
        rw [e2] at h
        cases h
      | ok vs s2 =>
        rw [e2] at h
        cases h
        rw [List.length_cons, List.length_cons, evs_length e2]
theorem toDs_length : ∀ {rs : List EV} {st st' : St} {ds : List D}, toDs rs st = some (ds, st') → ds.length = rs.length
  | [], st, st', ds, h => by
    simp only [toDs, Option.some.injEq, Prod.mk.injEq] at h
    rw [← h.1]
    rfl
  | r :: rs, st, st', ds, h => by
    simp only [toDs] at h
    cases e1 : toD r st with
    | none =>
      rw [e1] at h
      cases h
    | some p =>
      obtain ⟨x, s1⟩ := p
      rw [e1] at h
      simp only at h
      cases e2 : toDs rs s1 with
      | none =>
        rw [e2] at h
        cases h
      | some p2 =>
        obtain ⟨xs, s2⟩ := p2
        rw [e2] at h
        simp only [Option.some.injEq, Prod.mk.injEq] at h
        rw [← h.1, List.length_cons, List.length_cons, toDs_length e2]
/-- .. with what the parts came to -/
theorem tA.bindE {f : St → Out (List EV)} {σ : L2.St} {H : Hp} {ρ : List Addr} {st : St} {α : Type} {g : List EV → St → Out α} {P : α → St → Prop} {F : String → St → Prop} {R : List V → Hp → Prop} (hR : Res X.K ρ H st σ) (h : Wp ((f st).bind g) P F)
    (hF : ∀ c st', F c st' → XQ X ρ H st σ Wx c st')
    (k : ∀ rs st1 vs H1 ρ1, f st = .ok rs st1 → Step X.K ρ H st σ ρ1 H1 st1 σ → ERs X.K ρ1 H1 st1 σ rs vs → NewS ρ H st σ rs vs → Wp (g rs st1) P F → R vs H1) : tA X f Wx σ H R := by
  refine ⟨ρ, st, hR, ?_⟩
  cases q : f st with
  | bad =>
    rw [q] at h
    exact h
  | ex c st1 =>
    rw [q] at h
    exact hF c st1 h
  | ok rs st1 =>
    rw [q] at h
    exact fun vs H1 ρ1 s r n => k rs st1 vs H1 ρ1 q s r n h
/-- .. however many values are handed -/
def spV (K : PySem.W.Frag) (mg : Str → Option Value) (call : List D → List O → OutC) : Sp := fun vs H Q E => spF K mg vs.length call vs H Q E
section
variable {k : Nat} {f C : Addr} {sp : Sp} {E : XK} {Es : L2.St → XK} {t : TA} {x : Str} {e : Expr} {es : List Expr} {p pos : Pos}
theorem run_fnRS {pins : List (Addr × Obj)} {σ : L2.St} {H : Hp} {s : Shared} {Q : VK} {us : List Value} {vs : List V} (F : FnR X.prog X.w X.K X.mg X.base (L2.CX X.prog X.w) k f sp) (hr : Room k X.A) (hx : PassesAt (L2.CX X.prog X.w) X σ E)
    (I : L2.Inv X pins σ H s) (r : Vals vs us) (h : sp vs H Q E) : wpAny (model X.prog X.w) X.A (call (.ref f) us) (EP X pins σ Q) X.xe s := by
  refine wpAny_call (codeAny_mono (F X.A X.stack s H us vs Q E hr I.env0 r h) fun r s' hq => ?_)
  cases r with
  | error e => exact hx pins H s e s' I hq
  | ok fl =>
    cases fl with
    | ret u => exact I.after hq
    | next => exact False.elim hq
    | brk => exact False.elim hq
    | cont => exact False.elim hq
theorem pe_callR (F : FnR X.prog X.w X.K X.mg X.base (L2.CX X.prog X.w) k f sp) (hr : Room k X.A) (hg : Gl X x) (hm : X.mg x = some (.ref f)) (hk : PySem.W.keepIn X.K (.ref f) = true) (hx : ∀ σ, PassesAt (L2.CX X.prog X.w) X σ (Es σ))
    (ha : PA X (e :: es) t) (hdb : (x == ("__debug__" : Str)) = false) (he : starEach (e :: es) X.env = (false, eval e X.env) :: starEach es X.env) (hpl : (backTo pos (starEach es X.env)).any (·.1) = false) :
    PE X (.Call (.Name x p) (e :: es) [] pos) (fun σ H Q => t σ H fun vs H1 => sp vs H1 Q (Es σ)) := by
  refine ⟨fun pins s σ H Q I h => ?_⟩
  refine wpAny_Call_Name_kw (ld_glob I hg hm ?_ hdb)
  refine PySem.W.callWith_K (h₀ := X.base) I.ok.mod.kin hk (thn (ha.run pos pins s σ H _ I h) fun us s1 ⟨vs, H1, I1, r, q⟩ => ⟨I1.kIn, ?_⟩) he hpl
  exact run_fnRS F hr (hx σ) I1 r q
end
theorem se_call {f : String} {ms : List E} {e : Expr} {es : List Expr} {p pos : Pos} {k : Nat} {fa : Addr} (F : FnR X.prog X.w X.K X.mg X.base (L2.CX X.prog X.w) k fa (spV X.K X.mg (G.call f))) (hr : Room k X.A)
    (hg : Gl X (Str.ofString f)) (hm : X.mg (Str.ofString f) = some (.ref fa)) (hk : PySem.W.keepIn X.K (.ref fa) = true) (hdb : (Str.ofString f == ("__debug__" : Str)) = false)
    (he : starEach (e :: es) X.env = (false, eval e X.env) :: starEach es X.env) (hpl : (backTo pos (starEach es X.env)).any (·.1) = false) (ha : SA X G ms (e :: es)) :
    SE X G (.call f ms) (.Call (.Name (Str.ofString f) p) (e :: es) [] pos) := fun Wx tk => by
  refine PE.imp (pe_callR F hr hg hm hk (fun σ => passAt tk σ) (ha Wx tk) hdb he hpl) ?_
  rintro σ H Q ⟨ρ, st, hR, h⟩
  rw [ev] at h
  refine tA.bindE hR h (fun _ _ x => x) fun rs st1 vs H1 ρ1 e0 s1 r1 n1 h => ?_
  obtain ⟨ds, st2, e, h⟩ := wp_of2 (Wp.bind.mp h)
  obtain ⟨ρ2, s2, _, hv⟩ := toDs_sound s1 r1 n1 e
  have hl : ds.length = vs.length := hv.length.symm
  refine ⟨ρ2, st2.h, ds, s2.res.hr, hv, hl, ?_⟩
  cases q : G.call f ds st2.h with
  | bad =>
    rw [q] at h
    exact h.elim
  | ok r h' =>
    rw [q] at h
    intro v H' ρ' hs hrc
    obtain ⟨g1, g2⟩ := hrc.er s2.res hs
    refine h v H' ρ' (s2.trans (hs.step s2.res)) g1 fun x p e1 e2 => New.back s2 (g2 x p e1 e2)
  | ex c h' =>
    rw [q] at h
    intro cls H' ρ' hs hc
    exact h cls H' ρ' (s2.trans (hs.step s2.res)) hc
end

/-! ### what is walked -/
/-- the values that a walked thing leans on -/
def Src (K : PySem.W.Frag) (ρ : List Addr) (H : Hp) (st : St) (σ : L2.St) (v : EV) (us : List V) : Prop := match v with
  | .it _ vs => ERl K ρ H st σ vs us
  | v => ∃ u, us = [u] ∧ ER K ρ H st σ v u
/-- it goes through xs, as things stand -/
structure GoesI (K : PySem.W.Frag) (J : It) (xs : List D) (ρ : List Addr) (H : Hp) : Prop where
  go : ∀ i, i < xs.length → J.go i H
  stop : J.stop xs.length H
  yld : ∀ i x H', i < xs.length → J.yld i H x H' → Same H H' ∧ ∃ d, xs[i]? = some d ∧ VR K ρ H' d x
def tI (X : Cx) (f : St → Out EV) (Wx : WX) : TI := fun σ H R => ∃ ρ st, Res X.K ρ H st σ ∧ Wp (f st) (fun v st1 => ∃ xs, items st1 v = some xs ∧ ∀ J H1 ρ1 us, Step X.K ρ H st σ ρ1 H1 st1 σ → Src X.K ρ1 H1 st1 σ v us →
  (∀ ρ' H' st' σ', Res X.K ρ' H' st' σ' → Src X.K ρ' H' st' σ' v us → items st' v = some xs → GoesI X.K J xs ρ' H') → R J H1) (XQ X ρ H st σ Wx)
def SI (X : Cx) (G : Gam) (m : E) (tg e : Expr) : Prop := ∀ Wx, Takes X Wx → PI X tg e (tI X (ev G m) Wx)
theorem PI.imp {X : Cx} {tg e : Expr} {t t' : TI} (h : PI X tg e t) (f : ∀ σ H Q, t' σ H Q → t σ H Q) : PI X tg e t' := ⟨fun pins s σ H Q I q => h.run pins s σ H Q I (f σ H Q q)⟩
theorem PI.or {X : Cx} {tg e : Expr} {t t' : TI} (h : PI X tg e t) (h' : PI X tg e t') : PI X tg e (fun σ H Q => t σ H Q ∨ t' σ H Q) := ⟨fun pins s σ H Q I q => q.elim (h.run pins s σ H Q I) (h'.run pins s σ H Q I)⟩
section
variable {K : PySem.W.Frag} {ρ : List Addr} {H : Hp} {xs : List D} {vs : List V}
theorem goes_list {a : Addr} (h : SqL K H a vs) (r : VRs K ρ H xs vs) : GoesI K (Itl K a) xs ρ H := by
  have hl := r.length
  have w := walk_list (K := K) (a := a) (xs := vs)
  refine ⟨fun i hi => w.goes i H (by omega) h, by rw [← hl]; exact w.stops H h, fun i x H' hi y => ?_⟩
  obtain ⟨e, q⟩ := w.yields i H x H' (by omega) h y
  subst e
  obtain ⟨d, e1, h1⟩ := r.getV q
  exact ⟨Same.refl _, d, e1, h1⟩
theorem goes_tup {a : Addr} (h : SqT K H a vs) (r : VRs K ρ H xs vs) : GoesI K (Itt K a) xs ρ H := by
  have hl := r.length
  have w := walk_tup (K := K) (a := a) (xs := vs)
  refine ⟨fun i hi => w.goes i H (by omega) h, by rw [← hl]; exact w.stops H h, fun i x H' hi y => ?_⟩
  obtain ⟨e, q⟩ := w.yields i H x H' (by omega) h y
  subst e
  obtain ⟨d, e1, h1⟩ := r.getV q
  exact ⟨Same.refl _, d, e1, h1⟩
theorem goes_str {z : Str} : GoesI K (Its z) (strItems z) ρ H := by
  have hl : (strItems z).length = z.cps.size := by simp [strItems]
  have w := walk_str (z := z)
  refine ⟨fun i hi => w.goes i H (by omega) trivial, by rw [hl]; exact w.stops H trivial, fun i x H' hi y => ?_⟩
  obtain ⟨e, c, e1, e2⟩ := w.yields i H x H' (by omega) trivial y
  subst e
  refine ⟨Same.refl _, .str ⟨#[c]⟩, ?_, e2⟩
  unfold strItems
  rw [List.getElem?_map, Array.getElem?_toList, e1]
  rfl
theorem rangeD_length : ∀ (n : Nat) (lo : Int), (rangeD lo n).length = n
  | 0, _ => rfl
  | n + 1, lo => by simp [rangeD, rangeD_length n]
theorem rangeD_get : ∀ (n : Nat) (lo : Int) (i : Nat), i < n → (rangeD lo n)[i]? = some (.int (lo + i))
  | n + 1, lo, 0, _ => by simp [rangeD]
  | n + 1, lo, i + 1, h => by
    have e : lo + 1 + (i : Int) = lo + ((i + 1 : Nat) : Int) := by omega
    simp only [rangeD, List.getElem?_cons_succ]
    rw [rangeD_get n (lo + 1) i (by omega), e]
theorem goes_range {lo : Int} {n : Nat} : GoesI K (Itr lo n) (rangeD lo n) ρ H := by
  have hl := rangeD_length n lo
  have w := walk_range (lo := lo) (n := n)
  refine ⟨fun i hi => w.goes i H (by omega) trivial, by rw [hl]; exact w.stops H trivial, fun i x H' hi y => ?_⟩
  obtain ⟨e, e1⟩ := w.yields i H x H' (by omega) trivial y
  subst e
  exact ⟨Same.refl _, _, rangeD_get n lo i (by omega), e1⟩
end
section
variable {X : Cx} {G : Gam} {Wx : WX} {tg : Expr}
theorem items_plain {st : St} {v : EV} (h : ∀ k vs, v ≠ .it k vs) : items st v = (rd st v).bind seqW := by
  cases v with
  | it k vs => exact (h k vs rfl).elim
  | _ => simp [items]
theorem src_plain {K : PySem.W.Frag} {ρ : List Addr} {H : Hp} {st : St} {σ : L2.St} {v : EV} {us : List V} (h : ∀ k vs, v ≠ .it k vs) : Src K ρ H st σ v us ↔ ∃ u, us = [u] ∧ ER K ρ H st σ v u := by
  cases v with
  | it k vs => exact (h k vs rfl).elim
  | _ => exact Iff.rfl
/-- an object that is walked is a list -/
theorem lst_of {K : PySem.W.Frag} {ρ : List Addr} {H : Hp} {st : St} {σ : L2.St} {v : EV} {xs : List D} {u : V} (hv : ∀ x, v = .d x → ∃ a, x = .ref a) (hR : Res K ρ H st σ) (hr : ER K ρ H st σ v u) (hi : items st v = some xs) :
    ∃ a vs, u = .ref a ∧ H a = some (.lst vs) ∧ VRs K ρ H xs vs := by
  have key : ∀ y, rd st v = some (.o y) → seqW (.o y) = some xs → ∃ a vs, u = .ref a ∧ H a = some (.lst vs) ∧ VRs K ρ H xs vs := fun y e1 e2 => by
    cases y with
    | lst ds =>
      cases e2
      obtain ⟨a, rfl, vs, h1, h2⟩ := rd_sound hR hr e1
      exact ⟨a, vs, rfl, h1, h2⟩
    | dct kvs => cases e2
    | ins c fs => cases e2
    | lkd kvs => cases e2
  cases v with
  | d x =>
    obtain ⟨a, rfl⟩ := hv x rfl
    simp only [items, rd, rdD] at hi
    cases q : st.h[a]? with
    | none =>
      rw [q] at hi
      cases hi
    | some y =>
      rw [q] at hi
      exact key y (by simp [rd, rdD, q]) hi
  | o x => exact key x rfl (by simpa [items, rd] using hi)
  | pl i =>
    simp only [items, rd] at hi
    cases q : st.σ[i]? with
    | none =>
      rw [q] at hi
      cases hi
    | some s =>
      rw [q] at hi
      cases s with
      | un => cases hi
      | o x => exact key x (by simp [rd, q]) hi
      | d x =>
        cases x with
        | ref a =>
          simp only at hi
          cases q2 : st.h[a]? with
          | none =>
            rw [q2] at hi
            cases hi
          | some y =>
            rw [q2] at hi
            exact key y (by simp [rd, q, q2]) hi
        | _ => cases hi
  | it k vs => exact hr.elim
/-- a list, a tuple, a text -/
theorem si_plain {m : E} {e : Expr} (he : SE X G m e) : SI X G m tg e := fun Wx tk => by
  refine PI.imp (PI.or (PI.or (pi_list (he Wx tk)) (pi_tup (he Wx tk))) (pi_str (he Wx tk))) ?_
  rintro σ H R ⟨ρ, st, hR, h⟩
  -- which of the three is told by Mini
  cases q : ev G m st with
  | bad =>
    rw [q] at h
    exact h.elim
  | ex c st1 =>
    rw [q] at h
    refine .inl (.inl ⟨ρ, st, hR, ?_⟩)
    rw [q]
    exact h
  | ok v st1 =>
    rw [q] at h
    obtain ⟨xs, hx, k⟩ := h
    have lists : (∀ x, v = .d x → ∃ a, x = .ref a) → (∀ kk vs, v ≠ .it kk vs) → tE X (ev G m) Wx σ H (fun x H1 => ∃ a, x = .ref a ∧ (∃ xs, SqL X.K H1 a xs) ∧ R (Itl X.K a) H1) := fun hd hv' => by
      refine ⟨ρ, st, hR, ?_⟩
      rw [q]
      intro u H1 ρ1 s r n
      obtain ⟨a, vs, rfl, h1, h2⟩ := lst_of hd s.res r hx
      refine ⟨a, rfl, ⟨vs, .of h1⟩, k _ H1 ρ1 [_] s ((src_plain hv').mpr ⟨_, rfl, r⟩) fun ρ' H' st' σ' hR' hsrc hi => ?_⟩
      obtain ⟨u', e1, hr'⟩ := (src_plain hv').mp hsrc
      cases e1
      obtain ⟨a', vs', e2, h3, h4⟩ := lst_of hd hR' hr' hi
      cases e2
      exact goes_list (.of h3) h4
    cases v with
    | it kk vs =>
      refine .inl (.inl ⟨ρ, st, hR, ?_⟩)
      rw [q]
      intro u H1 ρ1 s r n
      exact r.elim
    | o x => exact .inl (.inl (lists (fun x e => nomatch e) (fun kk vs e => nomatch e)))
    | pl i => exact .inl (.inl (lists (fun x e => nomatch e) (fun kk vs e => nomatch e)))
    | d x =>
      have hv' : ∀ kk vs, EV.d x ≠ .it kk vs := fun kk vs e => nomatch e
      cases x with
      | ref a => exact .inl (.inl (lists (fun x e => by cases e; exact ⟨a, rfl⟩) hv'))
      | tup ds =>
        refine .inl (.inr ⟨ρ, st, hR, ?_⟩)
        rw [q]
        intro u H1 ρ1 s r n
        have ex : xs = ds := by
          simp [items, rd, rdD, seqW] at hx
          exact hx.symm
        subst ex
        obtain ⟨a, vs, rfl, hsq, hv1⟩ := r
        refine ⟨a, rfl, ⟨vs, (.of hsq)⟩, k _ H1 ρ1 [_] s ((src_plain hv').mpr ⟨_, rfl, ⟨a, vs, rfl, hsq, hv1⟩⟩) fun ρ' H' st' σ' hR' hsrc hi => ?_⟩
        obtain ⟨u', e1, hr'⟩ := (src_plain hv').mp hsrc
        cases e1
        obtain ⟨a', vs', e2, h3, h4⟩ := hr'
        cases e2
        exact goes_tup (.of h3) h4
      | fz ds =>
        refine .inl (.inl ⟨ρ, st, hR, ?_⟩)
        rw [q]
        intro u H1 ρ1 s r n
        have ex : xs = ds := by
          simp [items, rd, rdD, seqW] at hx
          exact hx.symm
        subst ex
        obtain ⟨a, vs, rfl, hsq, hv1⟩ := r
        refine ⟨a, rfl, ⟨vs, hsq.sq⟩, k _ H1 ρ1 [_] s ((src_plain hv').mpr ⟨_, rfl, ⟨a, vs, rfl, hsq, hv1⟩⟩) fun ρ' H' st' σ' hR' hsrc hi => ?_⟩
        obtain ⟨u', e1, hr'⟩ := (src_plain hv').mp hsrc
        cases e1
        obtain ⟨a', vs', e2, h3, h4⟩ := hr'
        cases e2
        exact goes_list h3.sq h4
      | str z =>
        refine .inr ⟨ρ, st, hR, ?_⟩
        rw [q]
        intro u H1 ρ1 s r n
        have ex : xs = strItems z := by
          simp [items, rd, rdD, seqW] at hx
          exact hx.symm
        subst ex
        have r' : u = .str z := r
        subst r'
        exact ⟨z, rfl, k _ H1 ρ1 [_] s ((src_plain hv').mpr ⟨_, rfl, rfl⟩) fun ρ' H' st' σ' _ _ _ => goes_str⟩
      | non => simp [items, rd, rdD, seqW] at hx
      | bl b => simp [items, rd, rdD, seqW] at hx
      | int i => simp [items, rd, rdD, seqW] at hx
      | exn c => simp [items, rd, rdD, seqW] at hx

/-! ### range, enumerate, zip, reversed -/
theorem tA_it {ms : List E} {σ : L2.St} {H : Hp} {ρ : List Addr} {st : St} {k : I} {R : List V → Hp → Prop} {P : EV → St → Prop} (hR : Res X.K ρ H st σ) (h : Wp ((evs G ms st).bind fun vs st1 => .ok (.it k vs) st1) P (XQ X ρ H st σ Wx))
    (q : ∀ rs st1 vs H1 ρ1, rs.length = ms.length → Step X.K ρ H st σ ρ1 H1 st1 σ → ERs X.K ρ1 H1 st1 σ rs vs → P (.it k rs) st1 → R vs H1) : tA X (evs G ms) Wx σ H R :=
  tA.bindE hR h (fun _ _ x => x) fun rs st1 vs H1 ρ1 e s r n h => q rs st1 vs H1 ρ1 (evs_length e) s r h
theorem len1 {α : Type} {xs : List α} {y : β} (h : xs.length = [y].length) : ∃ x, xs = [x] := by
  match xs, h with
  | [x], _ => exact ⟨x, rfl⟩
theorem len2 {α β : Type} {xs : List α} {y z : β} (h : xs.length = [y, z].length) : ∃ x x', xs = [x, x'] := by
  match xs, h with
  | [x, x'], _ => exact ⟨x, x', rfl⟩
theorem len3 {α β : Type} {xs : List α} {y z u : β} (h : xs.length = [y, z, u].length) : ∃ x x' x'', xs = [x, x', x''] := by
  match xs, h with
  | [x, x', x''], _ => exact ⟨x, x', x'', rfl⟩
theorem bind_int {o : Option Wv} {i : Int} (h : o.bind intW = some i) : ∃ w, o = some w ∧ intW w = some i := by
  cases o with
  | none => cases h
  | some w => exact ⟨w, rfl, h⟩
theorem seqL_seq {w : Wv} {xs : List D} (h : seqL w = some xs) : seqW w = some xs ∧ ∀ z, w ≠ .d (.str z) := by
  unfold seqL at h
  split at h
  · cases h
  · rename_i hn
    exact ⟨h, hn⟩
theorem bind_seq {o : Option Wv} {xs : List D} (h : o.bind seqL = some xs) : ∃ w, o = some w ∧ seqW w = some xs ∧ ∀ z, w ≠ .d (.str z) := by
  cases o with
  | none => cases h
  | some w => exact ⟨w, rfl, seqL_seq h⟩
theorem si_range1 {a : E} {ea : Expr} {p pos : Pos} (hg : Gl X "range") (hm : X.mg "range" = none) (hs : starEach [ea] X.env = [(false, eval ea X.env)]) (ha : SA X G [a] [ea]) : SI X G (.it .range [a]) tg (.Call (.Name "range" p) [ea] [] pos) := fun Wx tk => by
  refine PI.imp (pi_range1 hg hm (ha Wx tk) hs) ?_
  rintro σ H R ⟨ρ, st, hR, h⟩
  rw [ev] at h
  refine tA_it hR h fun rs st1 vs H1 ρ1 hlen s r h => ?_
  obtain ⟨xs, hx, k⟩ := h
  obtain ⟨v, rfl⟩ := len1 hlen
  obtain ⟨u, rfl, hu⟩ := r.erl.one
  simp only [items] at hx
  split at hx
  · rename_i n e1
    split at hx
    · rename_i hc
      cases hx
      obtain ⟨w, e2, e3⟩ := bind_int e1
      have eu := intW_of (rd_sound s.res hu e2) e3
      subst eu
      have hl : (lim : Int) = 1000000 := rfl
      exact ⟨n, rfl, by omega, by omega, k _ H1 ρ1 [_] s ⟨_, _, rfl, hu, rfl⟩ fun _ _ _ _ _ _ _ => goes_range⟩
    · cases hx
  · cases hx
theorem si_range2 {a b : E} {ea eb : Expr} {p pos : Pos} (hg : Gl X "range") (hm : X.mg "range" = none) (hs : starEach [ea, eb] X.env = [(false, eval ea X.env), (false, eval eb X.env)]) (hs2 : starEach [eb] X.env = [(false, eval eb X.env)]) (ha : SA X G [a, b] [ea, eb]) :
    SI X G (.it .range [a, b]) tg (.Call (.Name "range" p) [ea, eb] [] pos) := fun Wx tk => by
  refine PI.imp (pi_range2 hg hm (ha Wx tk) hs hs2) ?_
  rintro σ H R ⟨ρ, st, hR, h⟩
  rw [ev] at h
  refine tA_it hR h fun rs st1 vs H1 ρ1 hlen s r h => ?_
  obtain ⟨xs, hx, k⟩ := h
  obtain ⟨v, v', rfl⟩ := len2 hlen
  obtain ⟨u, u', rfl, hu, hu'⟩ := r.erl.two
  simp only [items] at hx
  split at hx
  · rename_i lo hi e1 e1'
    split at hx
    · rename_i hc
      cases hx
      obtain ⟨w, e2, e3⟩ := bind_int e1
      obtain ⟨w', e2', e3'⟩ := bind_int e1'
      have eu := intW_of (rd_sound s.res hu e2) e3
      have eu' := intW_of (rd_sound s.res hu' e2') e3'
      subst eu eu'
      exact ⟨lo, hi, rfl, by omega, k _ H1 ρ1 [_, _] s ⟨_, _, rfl, hu, _, _, rfl, hu', rfl⟩ fun _ _ _ _ _ _ _ => goes_range⟩
    · cases hx
  · cases hx
theorem rangeC_length : ∀ (n : Nat) (lo c : Int), (rangeC lo c n).length = n
  | 0, _, _ => rfl
  | n + 1, lo, c => by simp [rangeC, rangeC_length n]
theorem rangeC_get : ∀ (n : Nat) (lo c : Int) (i : Nat), i < n → (rangeC lo c n)[i]? = some (.int (lo + i * c))
  | n + 1, lo, c, 0, _ => by simp [rangeC]
  | n + 1, lo, c, i + 1, h => by
    have e : lo + c + (i : Int) * c = lo + ((i + 1 : Nat) : Int) * c := by
      push_cast
      rw [Int.add_mul]
      omega
    simp only [rangeC, List.getElem?_cons_succ]
    rw [rangeC_get n (lo + c) c i (by omega), e]
theorem goes_rangeC {K : PySem.W.Frag} {ρ : List Addr} {H : Hp} {lo c : Int} {n : Nat} : GoesI K (Itc lo c n) (rangeC lo c n) ρ H := by
  have hl := rangeC_length n lo c
  have w := walk_rangeC (lo := lo) (c := c) (n := n)
  refine ⟨fun i hi => w.goes i H (by omega) trivial, by rw [hl]; exact w.stops H trivial, fun i x H' hi y => ?_⟩
  obtain ⟨e, e1⟩ := w.yields i H x H' (by omega) trivial y
  subst e
  exact ⟨Same.refl _, _, rangeC_get n lo c i (by omega), e1⟩
theorem rgC_two {i j : Int} (ha : -(2 ^ 61) ≤ i) (ha' : i < 2 ^ 61) (hb : -(2 ^ 61) ≤ j) (hb' : j < 2 ^ 61) : RgC i j 2 ((j - i + 1) / 2).toNat := by
  have e : Builtin.Range.rangeSize i j 2 = if i < j then (j - i - 1) / 2 + 1 else 0 := by
    unfold Builtin.Range.rangeSize
    rw [if_pos (by decide)]
  refine ⟨by decide, by decide, ?_, ?_⟩
  · unfold Builtin.Range.small
    rw [e]
    simp only [Builtin.Range.rangeFitsLong, Bool.and_eq_true, Bool.or_eq_true, decide_eq_true_eq, beq_iff_eq, show ((2 : Int) > 0) by decide, if_true]
    split <;> omega
  · rw [e]
    split <;> omega
theorem si_range3 {a b c : E} {ea eb ec : Expr} {p pos : Pos} (hg : Gl X "range") (hm : X.mg "range" = none) (hs : starEach [ea, eb, ec] X.env = (false, eval ea X.env) :: starEach [eb, ec] X.env) (hpl : (backTo pos (starEach [eb, ec] X.env)).any (·.1) = false) (ha : SA X G [a, b, c] [ea, eb, ec]) :
    SI X G (.it .range [a, b, c]) tg (.Call (.Name "range" p) [ea, eb, ec] [] pos) := fun Wx tk => by
  refine PI.imp (pi_range3 hg hm (ha Wx tk) hs hpl) ?_
  rintro σ H R ⟨ρ, st, hR, h⟩
  rw [ev] at h
  refine tA_it hR h fun rs st1 vs H1 ρ1 hlen s r h => ?_
  obtain ⟨xs, hx, k⟩ := h
  obtain ⟨v, v', v'', rfl⟩ := len3 hlen
  obtain ⟨u, t, rfl, hu, h2⟩ := r.erl
  obtain ⟨u', u'', rfl, hu', hu''⟩ := h2.two
  simp only [items] at hx
  split at hx
  · rename_i lo hi c e1 e1' e1''
    split at hx
    · rename_i hc
      cases hx
      obtain ⟨w, e2, e3⟩ := bind_int e1
      obtain ⟨w', e2', e3'⟩ := bind_int e1'
      obtain ⟨w'', e2'', e3''⟩ := bind_int e1''
      have eu := intW_of (rd_sound s.res hu e2) e3
      have eu' := intW_of (rd_sound s.res hu' e2') e3'
      have eu'' := intW_of (rd_sound s.res hu'' e2'') e3''
      subst eu eu' eu''
      have hc1 : c = -1 := hc.1
      subst hc1
      exact ⟨lo, hi, -1, (lo - hi).toNat, rfl, RgC.neg (by omega) (by omega) (by omega) (by omega), k _ H1 ρ1 [_, _, _] s ⟨_, _, rfl, hu, _, _, rfl, hu', _, _, rfl, hu'', rfl⟩ fun _ _ _ _ _ _ _ => goes_rangeC⟩
    · split at hx
      · rename_i hc
        cases hx
        obtain ⟨w, e2, e3⟩ := bind_int e1
        obtain ⟨w', e2', e3'⟩ := bind_int e1'
        obtain ⟨w'', e2'', e3''⟩ := bind_int e1''
        have eu := intW_of (rd_sound s.res hu e2) e3
        have eu' := intW_of (rd_sound s.res hu' e2') e3'
        have eu'' := intW_of (rd_sound s.res hu'' e2'') e3''
        subst eu eu' eu''
        have hc1 : c = 2 := hc.1
        subst hc1
        exact ⟨lo, hi, 2, ((hi - lo + 1) / 2).toNat, rfl, rgC_two (by omega) (by omega) (by omega) (by omega), k _ H1 ρ1 [_, _, _] s ⟨_, _, rfl, hu, _, _, rfl, hu', _, _, rfl, hu'', rfl⟩ fun _ _ _ _ _ _ _ => goes_rangeC⟩
      · cases hx
  · cases hx

/-- a list or a tuple that is read -/
theorem WR.sq {K : PySem.W.Frag} {ρ : List Addr} {H : Hp} {w : Wv} {v : V} {ds : List D} (h : WR K ρ H w v) (e : seqW w = some ds) (hz : ∀ z, w ≠ .d (.str z)) : ∃ a vs, v = .ref a ∧ VRs K ρ H ds vs ∧ ((SqL K H a vs ∧ (∀ es, w ≠ .d (.tup es))) ∨ (SqT K H a vs ∧ ∃ es, w = .d (.tup es))) := by
  cases w with
  | d x =>
    cases x with
    | tup es =>
      cases e
      obtain ⟨⟨a, vs, rfl, hs, hv⟩, _⟩ := h
      exact ⟨a, vs, rfl, hv, .inr ⟨(.of hs), _, rfl⟩⟩
    | fz es =>
      cases e
      obtain ⟨⟨a, vs, rfl, hs, hv⟩, _⟩ := h
      exact ⟨a, vs, rfl, hv, .inl ⟨hs.sq, fun es z => nomatch z⟩⟩
    | str x => exact (hz x rfl).elim
    | _ => cases e
  | o x =>
    cases x with
    | lst es =>
      cases e
      obtain ⟨a, rfl, vs, hp, hv⟩ := h
      exact ⟨a, vs, rfl, hv, .inl ⟨.of hp, fun es z => nomatch z⟩⟩
    | dct kvs => cases e
    | ins c fs => cases e
    | lkd kvs => cases e
/-- whether a place is a tuple does not change -/
theorem rd_kind {st st' : St} {v : EV} {w w' : Wv} (e : rd st v = some w) (e' : rd st' v = some w') : (∃ es, w = .d (.tup es)) ↔ ∃ es, w' = .d (.tup es) := by
  cases v with
  | d x =>
    cases x with
    | ref a =>
      simp only [rd, rdD, Option.map_eq_some_iff] at e e'
      obtain ⟨y, _, rfl⟩ := e
      obtain ⟨y', _, rfl⟩ := e'
      simp
    | _ =>
      simp only [rd, rdD, Option.some.injEq] at e e'
      rw [← e, ← e']
  | o x =>
    simp only [rd, Option.some.injEq] at e e'
    rw [← e, ← e']
  | pl i =>
    have key : ∀ {s : St} {z : Wv}, rd s (.pl i) = some z → ∃ y, z = .o y := fun {s z} q => by
      simp only [rd] at q
      split at q
      · cases q
        exact ⟨_, rfl⟩
      · simp only [Option.map_eq_some_iff] at q
        obtain ⟨y, _, rfl⟩ := q
        exact ⟨y, rfl⟩
      · cases q
    obtain ⟨y, rfl⟩ := key e
    obtain ⟨y', rfl⟩ := key e'
    simp
  | it k vs => cases e
theorem enumD_length : ∀ (ds : List D) (n : Nat), (enumD n ds).length = ds.length
  | [], _ => rfl
  | d :: ds, n => by simp [enumD, enumD_length ds]
theorem enumD_get : ∀ (ds : List D) (n i : Nat) (d : D), ds[i]? = some d → (enumD n ds)[i]? = some (.tup [.int ((n + i : Nat) : Int), d])
  | [], n, i, d, h => by simp at h
  | x :: ds, n, 0, d, h => by
    simp at h
    subst h
    simp [enumD]
  | x :: ds, n, i + 1, d, h => by
    have e : n + 1 + i = n + (i + 1) := by omega
    simp only [enumD, List.getElem?_cons_succ]
    rw [enumD_get ds (n + 1) i d (by simpa using h), e]
theorem goes_enum {K : PySem.W.Frag} {ρ : List Addr} {H : Hp} {a : Addr} {ds : List D} {vs : List V} (h : SqL K H a vs) (r : VRs K ρ H ds vs) : GoesI K (Ite K a) (enumD 0 ds) ρ H := by
  have hl := r.length
  have hl2 := enumD_length ds 0
  refine ⟨fun i hi => ⟨vs, vs[i]'(by omega), h, by simp [show i < vs.length by omega]⟩, ⟨vs, h, by omega⟩, fun i x H' hi y => ?_⟩
  obtain ⟨T, z, rfl, hT, rfl, q⟩ := y
  obtain ⟨d, e1, h1⟩ := r.getV (q vs h)
  refine ⟨same_new hT, _, enumD_get ds 0 i d e1, T, _, rfl, upd_same, .cons ?_ (.cons (h1.mono (Pers.same (same_new hT)) (List.prefix_refl _) d z) .nil)⟩
  show V.int _ = V.int _
  rw [Nat.zero_add]
theorem goes_enumT {K : PySem.W.Frag} {ρ : List Addr} {H : Hp} {a : Addr} {ds : List D} {vs : List V} (h : SqT K H a vs) (r : VRs K ρ H ds vs) : GoesI K (IteT K a) (enumD 0 ds) ρ H := by
  have hl := r.length
  have hl2 := enumD_length ds 0
  refine ⟨fun i hi => ⟨vs, vs[i]'(by omega), h, by simp [show i < vs.length by omega]⟩, ⟨vs, h, by omega⟩, fun i x H' hi y => ?_⟩
  obtain ⟨T, z, rfl, hT, rfl, q⟩ := y
  obtain ⟨d, e1, h1⟩ := r.getV (q vs h)
  refine ⟨same_new hT, _, enumD_get ds 0 i d e1, T, _, rfl, upd_same, .cons ?_ (.cons (h1.mono (Pers.same (same_new hT)) (List.prefix_refl _) d z) .nil)⟩
  show V.int _ = V.int _
  rw [Nat.zero_add]
theorem isTup_no {w : Wv} (h : ∀ es, w ≠ .d (.tup es)) : w.isTup = false := by
  cases w with
  | d x =>
    cases x with
    | tup es => exact (h es rfl).elim
    | _ => rfl
  | o x => rfl
/-- a walked place, now and later -/
theorem later_sq {K : PySem.W.Frag} {ρ ρ' : List Addr} {H H' : Hp} {st st' : St} {σ σ' : L2.St} {v : EV} {u : V} {ds : List D} (hR : Res K ρ H st σ) (hu : ER K ρ H st σ v u) (e : (rd st v).bind seqL = some ds) :
    ∃ a vs, u = .ref a ∧ VRs K ρ H ds vs ∧ ((SqL K H a vs ∧ (rd st v).map Wv.isTup = some false ∧ ∀ {ρ' H' st' σ' ds'}, Res K ρ' H' st' σ' → ER K ρ' H' st' σ' v u → (rd st' v).bind seqL = some ds' → ∃ vs', SqL K H' a vs' ∧ VRs K ρ' H' ds' vs') ∨
      (SqT K H a vs ∧ (rd st v).map Wv.isTup = some true ∧ ∀ {ρ' H' st' σ' ds'}, Res K ρ' H' st' σ' → ER K ρ' H' st' σ' v u → (rd st' v).bind seqL = some ds' → ∃ vs', SqT K H' a vs' ∧ VRs K ρ' H' ds' vs')) := by
  obtain ⟨w, e2, e3, e4⟩ := bind_seq e
  obtain ⟨a, vs, rfl, hv, hh⟩ := (rd_sound hR hu e2).sq e3 e4
  rcases hh with ⟨hq, hn⟩ | ⟨hq, hn⟩
  · refine ⟨a, vs, rfl, hv, .inl ⟨hq, by rw [e2]; exact congrArg some (isTup_no hn), fun {ρ' H' st' σ' ds'} hR' hu' f => ?_⟩⟩
    obtain ⟨w', f2, f3, f4⟩ := bind_seq f
    obtain ⟨a', vs', e', hv', hh'⟩ := (rd_sound hR' hu' f2).sq f3 f4
    cases e'
    rcases hh' with ⟨g1, g2⟩ | ⟨g1, g2⟩
    · exact ⟨vs', g1, hv'⟩
    · obtain ⟨es, z⟩ := (rd_kind e2 f2).mpr g2
      exact (hn es z).elim
  · refine ⟨a, vs, rfl, hv, .inr ⟨hq, by rw [e2]; obtain ⟨es, z⟩ := hn; rw [z]; rfl, fun {ρ' H' st' σ' ds'} hR' hu' f => ?_⟩⟩
    obtain ⟨w', f2, f3, f4⟩ := bind_seq f
    obtain ⟨a', vs', e', hv', hh'⟩ := (rd_sound hR' hu' f2).sq f3 f4
    cases e'
    rcases hh' with ⟨g1, g2⟩ | ⟨g1, g2⟩
    · obtain ⟨es, z⟩ := (rd_kind e2 f2).mp hn
      exact (g2 es z).elim
    · exact ⟨vs', g1, hv'⟩
theorem si_enum {a : E} {ea : Expr} {p pos tpos : Pos} {elts : List Expr} {kk : Nat} (hg : Gl X "enumerate") (hm : X.mg "enumerate" = none) (hs : starEach [ea] X.env = [(false, eval ea X.env)]) (ha : SA X G [a] [ea]) :
    SI X G (.it .enumerate [a]) (.Tuple elts kk tpos) (.Call (.Name "enumerate" p) [ea] [] pos) := fun Wx tk => by
  refine PI.imp (pi_enumA hg hm (ha Wx tk) hs) ?_
  rintro σ H R ⟨ρ, st, hR, h⟩
  rw [ev] at h
  refine tA_it hR h fun rs st1 vs H1 ρ1 hlen s r h => ?_
  obtain ⟨xs, hx, k⟩ := h
  obtain ⟨v, rfl⟩ := len1 hlen
  obtain ⟨u, rfl, hu⟩ := r.erl.one
  simp only [items, Option.map_eq_some_iff] at hx
  obtain ⟨ds, e1, rfl⟩ := hx
  obtain ⟨a', vs, rfl, hv, hh⟩ := later_sq (ρ' := ρ1) (H' := H1) (st' := st1) (σ' := σ) s.res hu e1
  rcases hh with ⟨hq, _, later⟩ | ⟨hq, _, later⟩
  · refine ⟨a', vs, rfl, .inl ⟨hq, k _ H1 ρ1 [_] s ⟨_, _, rfl, hu, rfl⟩ fun ρ' H' st' σ' hR' hsrc hi => ?_⟩⟩
    obtain ⟨u', e5, hu'⟩ := ERl.one hsrc
    cases e5
    simp only [items, Option.map_eq_some_iff] at hi
    obtain ⟨ds', f1, f2⟩ := hi
    obtain ⟨vs', g1, g2⟩ := later hR' hu' f1
    rw [← f2]
    exact goes_enum g1 g2
  · refine ⟨a', vs, rfl, .inr ⟨hq, k _ H1 ρ1 [_] s ⟨_, _, rfl, hu, rfl⟩ fun ρ' H' st' σ' hR' hsrc hi => ?_⟩⟩
    obtain ⟨u', e5, hu'⟩ := ERl.one hsrc
    cases e5
    simp only [items, Option.map_eq_some_iff] at hi
    obtain ⟨ds', f1, f2⟩ := hi
    obtain ⟨vs', g1, g2⟩ := later hR' hu' f1
    rw [← f2]
    exact goes_enumT g1 g2
/-! zip -/
theorem zip_get {α β γ : Type} (f : α → β → γ) : ∀ (xs : List α) (ys : List β) (i : Nat) (x : α) (y : β), xs[i]? = some x → ys[i]? = some y → (List.zipWith f xs ys)[i]? = some (f x y)
  | [], ys, i, x, y, h, _ => by simp at h
  | a :: xs, [], i, x, y, _, h => by simp at h
  | a :: xs, b :: ys, 0, x, y, h, g => by
    simp at h g
    subst h g
    rfl
  | a :: xs, b :: ys, i + 1, x, y, h, g => by
    simp only [List.zipWith_cons_cons, List.getElem?_cons_succ]
    exact zip_get f xs ys i x y (by simpa using h) (by simpa using g)
theorem goes_zip {K : PySem.W.Frag} {ρ : List Addr} {H : Hp} {a b : Addr} {ds es : List D} {vs ws : List V} (h : SqL K H a vs) (h' : SqL K H b ws) (r : VRs K ρ H ds vs) (r' : VRs K ρ H es ws) :
    GoesI K (Itz K a b) (List.zipWith (fun x y => .tup [x, y]) ds es) ρ H := by
  have hl := r.length
  have hl' := r'.length
  have hz : (List.zipWith (fun x y => D.tup [x, y]) ds es).length = min ds.length es.length := by simp
  refine ⟨fun i hi => ⟨vs, ws, vs[i]'(by omega), ws[i]'(by omega), h, h', by simp [show i < vs.length by omega], by simp [show i < ws.length by omega]⟩, ⟨vs, ws, h, h', by omega⟩, fun i x H' hi y => ?_⟩
  obtain ⟨T, z, z', rfl, hT, rfl, q, q'⟩ := y
  obtain ⟨d, e1, h1⟩ := r.getV (q vs h)
  obtain ⟨d', e1', h1'⟩ := r'.getV (q' ws h')
  have ps := Pers.same (same_new (o := .tup [z, z']) hT)
  exact ⟨same_new hT, _, zip_get _ ds es i d d' e1 e1', T, _, rfl, upd_same, .cons (h1.mono ps (List.prefix_refl _) d z) (.cons (h1'.mono ps (List.prefix_refl _) d' z') .nil)⟩
theorem goes_zipT {K : PySem.W.Frag} {ρ : List Addr} {H : Hp} {a b : Addr} {ds es : List D} {vs ws : List V} (h : SqT K H a vs) (h' : SqT K H b ws) (r : VRs K ρ H ds vs) (r' : VRs K ρ H es ws) :
    GoesI K (ItzT K a b) (List.zipWith (fun x y => .tup [x, y]) ds es) ρ H := by
  have hl := r.length
  have hl' := r'.length
  have hz : (List.zipWith (fun x y => D.tup [x, y]) ds es).length = min ds.length es.length := by simp
  refine ⟨fun i hi => ⟨vs, ws, vs[i]'(by omega), ws[i]'(by omega), h, h', by simp [show i < vs.length by omega], by simp [show i < ws.length by omega]⟩, ⟨vs, ws, h, h', by omega⟩, fun i x H' hi y => ?_⟩
  obtain ⟨T, z, z', rfl, hT, rfl, q, q'⟩ := y
  obtain ⟨d, e1, h1⟩ := r.getV (q vs h)
  obtain ⟨d', e1', h1'⟩ := r'.getV (q' ws h')
  have ps := Pers.same (same_new (o := .tup [z, z']) hT)
  exact ⟨same_new hT, _, zip_get _ ds es i d d' e1 e1', T, _, rfl, upd_same, .cons (h1.mono ps (List.prefix_refl _) d z) (.cons (h1'.mono ps (List.prefix_refl _) d' z') .nil)⟩
theorem si_zip {a b : E} {ea eb : Expr} {p pos tpos : Pos} {elts : List Expr} {kk : Nat} (hg : Gl X "zip") (hm : X.mg "zip" = none) (hs : starEach [ea, eb] X.env = (false, eval ea X.env) :: starEach [eb] X.env) (hpl : (backTo pos (starEach [eb] X.env)).any (·.1) = false) (ha : SA X G [a, b] [ea, eb]) :
    SI X G (.it .zip [a, b]) (.Tuple elts kk tpos) (.Call (.Name "zip" p) [ea, eb] [] pos) := fun Wx tk => by
  refine PI.imp (pi_zipA hg hm (ha Wx tk) hs hpl) ?_
  rintro σ H R ⟨ρ, st, hR, h⟩
  rw [ev] at h
  refine tA_it hR h fun rs st1 vs H1 ρ1 hlen s r h => ?_
  obtain ⟨xs, hx, k⟩ := h
  obtain ⟨v, v', rfl⟩ := len2 hlen
  obtain ⟨u, u', rfl, hu, hu'⟩ := r.erl.two
  have key : ∀ {st' : St} {zs : List D}, items st' (.it .zip [v, v']) = some zs → ∃ ds es, (rd st' v).bind seqL = some ds ∧ (rd st' v').bind seqL = some es ∧ zs = List.zipWith (fun x y => .tup [x, y]) ds es := fun {st' zs} q => by
    simp only [items] at q
    split at q
    · rename_i ds es e1 e2
      split at q
      · cases q
        exact ⟨ds, es, e1, e2, rfl⟩
      · cases q
    · cases q
  have same : ((rd st1 v).map Wv.isTup == (rd st1 v').map Wv.isTup) = true := by
    simp only [items] at hx
    split at hx
    · split at hx
      · rename_i hc
        exact hc
      · cases hx
    · cases hx
  obtain ⟨ds, es, e1, e2, rfl⟩ := key hx
  obtain ⟨a1, vs, rfl, hv, hh⟩ := later_sq (ρ' := ρ1) (H' := H1) (st' := st1) (σ' := σ) s.res hu e1
  obtain ⟨b1, ws, rfl, hv', hh'⟩ := later_sq (ρ' := ρ1) (H' := H1) (st' := st1) (σ' := σ) s.res hu' e2
  rcases hh with ⟨hq, t1, l1⟩ | ⟨hq, t1, l1⟩
  · rcases hh' with ⟨hq', t2, l2⟩ | ⟨hq', t2, l2⟩
    · refine ⟨a1, b1, vs, ws, rfl, .inl ⟨hq, hq', k _ H1 ρ1 [_, _] s ⟨_, _, rfl, hu, _, _, rfl, hu', rfl⟩ fun ρ' H' st' σ' hR' hsrc hi => ?_⟩⟩
      obtain ⟨u1, u2, e5, g1, g2⟩ := ERl.two hsrc
      cases e5
      obtain ⟨ds', es', f1, f2, f3⟩ := key hi
      obtain ⟨vs', m1, m2⟩ := l1 hR' g1 f1
      obtain ⟨ws', m3, m4⟩ := l2 hR' g2 f2
      rw [f3]
      exact goes_zip m1 m3 m2 m4
    · rw [t1, t2] at same
      cases same
  · rcases hh' with ⟨hq', t2, l2⟩ | ⟨hq', t2, l2⟩
    · rw [t1, t2] at same
      cases same
    · refine ⟨a1, b1, vs, ws, rfl, .inr ⟨hq, hq', k _ H1 ρ1 [_, _] s ⟨_, _, rfl, hu, _, _, rfl, hu', rfl⟩ fun ρ' H' st' σ' hR' hsrc hi => ?_⟩⟩
      obtain ⟨u1, u2, e5, g1, g2⟩ := ERl.two hsrc
      cases e5
      obtain ⟨ds', es', f1, f2, f3⟩ := key hi
      obtain ⟨vs', m1, m2⟩ := l1 hR' g1 f1
      obtain ⟨ws', m3, m4⟩ := l2 hR' g2 f2
      rw [f3]
      exact goes_zipT m1 m3 m2 m4
/-! reversed -/
theorem rev_get {α : Type} {xs : List α} {i : Nat} {x : α} (hi : i < xs.length) (h : xs[xs.length - 1 - i]? = some x) : xs.reverse[i]? = some x := by
  rw [List.getElem?_reverse hi]
  exact h
theorem goes_rev {K : PySem.W.Frag} {ρ : List Addr} {H : Hp} {a : Addr} {ds : List D} {vs : List V} (h : SqL K H a vs) (r : VRs K ρ H ds vs) : GoesI K (Itv K a ds.length) ds.reverse ρ H := by
  have hl := r.length
  have w := walk_rev (K := K) (a := a) (xs := vs)
  rw [hl] at w
  refine ⟨fun i hi => w.goes i H (by simpa using hi) h, by simpa using w.stops H h, fun i x H' hi y => ?_⟩
  have hi' : i < ds.length := by simpa using hi
  obtain ⟨e, q⟩ := w.yields i H x H' hi' h y
  subst e
  obtain ⟨d, e1, h1⟩ := r.getV q
  exact ⟨Same.refl _, d, rev_get hi' e1, h1⟩
theorem goes_revT {K : PySem.W.Frag} {ρ : List Addr} {H : Hp} {a : Addr} {ds : List D} {vs : List V} (h : SqT K H a vs) (r : VRs K ρ H ds vs) : GoesI K (ItvT K a ds.length) ds.reverse ρ H := by
  have hl := r.length
  refine ⟨fun i hi => ?_, ?_, fun i x H' hi y => ?_⟩
  · have hi' : i < ds.length := by simpa using hi
    exact ⟨hi', vs, vs[ds.length - 1 - i]'(by omega), h, by simp [show ds.length - 1 - i < vs.length by omega]⟩
  · show ds.length ≤ ds.reverse.length
    simp
  · have hi' : i < ds.length := by simpa using hi
    obtain ⟨e, q⟩ := y
    subst e
    obtain ⟨d, e1, h1⟩ := r.getV (q vs h)
    exact ⟨Same.refl _, d, rev_get hi' e1, h1⟩
theorem si_rev {a : E} {ea : Expr} {p pos : Pos} (hg : Gl X "reversed") (hm : X.mg "reversed" = none) (hs : starEach [ea] X.env = (false, eval ea X.env) :: starEach [] X.env) (ha : SE X G a ea) : SI X G (.it .reversed [a]) tg (.Call (.Name "reversed" p) [ea] [] pos) := fun Wx tk => by
  refine PI.imp (pi_revA hg hm (ha Wx tk) hs) ?_
  rintro σ H R ⟨ρ, st, hR, h⟩
  rw [ev] at h
  simp only [evs] at h
  have h := Wp.bind.mp h
  refine tE.bind hR h (fun _ _ x => x) fun v st1 u H1 ρ1 s hu n h => ?_
  simp only [Out.bind_ok] at h
  obtain ⟨xs, hx, k⟩ := h
  have key : ∀ {st' : St} {zs : List D}, items st' (.it .reversed [v]) = some zs → ∃ ds, (rd st' v).bind seqL = some ds ∧ zs = ds.reverse := fun {st' zs} q => by
    simp only [items] at q
    split at q
    · rename_i ds e1
      cases q
      exact ⟨ds, by rw [e1]; rfl, rfl⟩
    · rename_i ds e1
      cases q
      exact ⟨ds, by rw [e1]; rfl, rfl⟩
    · cases q
  obtain ⟨ds, e1, rfl⟩ := key hx
  obtain ⟨a', vs, rfl, hv, hh⟩ := later_sq (ρ' := ρ1) (H' := H1) (st' := st1) (σ' := σ) s.res hu e1
  have hl := hv.length
  rcases hh with ⟨hq, _, later⟩ | ⟨hq, _, later⟩
  · refine ⟨a', vs, rfl, .inl ⟨hq, k _ H1 ρ1 [_] s ⟨_, _, rfl, hu, rfl⟩ fun ρ' H' st' σ' hR' hsrc hi => ?_⟩⟩
    obtain ⟨u', e5, hu'⟩ := ERl.one hsrc
    cases e5
    obtain ⟨ds', f1, f2⟩ := key hi
    obtain ⟨vs', g1, g2⟩ := later hR' hu' f1
    have e6 := List.reverse_inj.mp f2
    subst e6
    rw [hl]
    exact goes_rev g1 g2
  · refine ⟨a', vs, rfl, .inr ⟨hq, k _ H1 ρ1 [_] s ⟨_, _, rfl, hu, rfl⟩ fun ρ' H' st' σ' hR' hsrc hi => ?_⟩⟩
    obtain ⟨u', e5, hu'⟩ := ERl.one hsrc
    cases e5
    obtain ⟨ds', f1, f2⟩ := key hi
    obtain ⟨vs', g1, g2⟩ := later hR' hu' f1
    have e6 := List.reverse_inj.mp f2
    subst e6
    rw [hl]
    exact goes_revT g1 g2
end
end EW

-- part: Sound8
set_option maxHeartbeats 1000000
/-! targets -/
namespace EW
open PySem PySem.Spec PyProof.Rows L2
mutual
def gTg (K : PySem.W.Frag) : Tg → TG
  | .v i => gName i
  | .tup ts => fun v σ H Q => gTup K ts.length (gTgs K ts) v σ H Q ∨ gLst K ts.length (gTgs K ts) v σ H Q
def gTgs (K : PySem.W.Frag) : List Tg → TGs
  | [] => gNil
  | t :: ts => gCons (gTg K t) (gTgs K ts)
end
section
variable {K : PySem.W.Frag} {ρ ρ' : List Addr} {H H' : Hp} {st st' : St} {σ : L2.St}
theorem Res.setD {i : Nat} {d : D} {v : V} (hR : Res K ρ H st σ) (hv : VR K ρ H d v) : Res K ρ H (st.set i (.d d)) (σ.set i (some v)) ∧ ∀ a, Dom (st.set i (.d d)) (σ.set i (some v)) ρ a → Dom st σ ρ a := by
  have old : ∀ {j : Nat} {x : O}, (st.set i (.d d)).σ[j]? = some (.o x) → j ≠ i ∧ st.σ[j]? = some (.o x) := fun {j x} h => by
    by_cases hj : j = i
    · subst hj
      by_cases hl : j < st.σ.length
      · simp [St.set, List.getElem?_set_self hl] at h
      · have e : (st.σ.set j (Sl.d d))[j]? = none := List.getElem?_eq_none (by simpa using hl)
        simp only [St.set] at h
        rw [e] at h
        cases h
    · simp only [St.set] at h
      rw [List.getElem?_set_ne (Ne.symm hj)] at h
      exact ⟨hj, h⟩
  refine ⟨⟨hR.hr, by simp [St.set, hR.len], fun j s h => ?_, fun j k x y p hjk h1 h2 h3 h4 => ?_⟩, fun a h => ?_⟩
  · by_cases hj : j = i
    · subst hj
      by_cases hl : j < st.σ.length
      · simp only [St.set] at h
        rw [List.getElem?_set_self hl] at h
        cases h
        exact ⟨v, by rw [List.getElem?_set_self (by rw [hR.len]; exact hl)], hv⟩
      · have e : (st.σ.set j (Sl.d d))[j]? = none := List.getElem?_eq_none (by simpa using hl)
        simp only [St.set] at h
        rw [e] at h
        cases h
    · simp only [St.set] at h
      rw [List.getElem?_set_ne (Ne.symm hj)] at h
      have z := hR.sl j s h
      have e : (σ.set i (some v))[j]? = σ[j]? := List.getElem?_set_ne (Ne.symm hj)
      cases s with
      | un => trivial
      | d x =>
        obtain ⟨w, e1, h1⟩ := z
        exact ⟨w, by rw [e]; exact e1, h1⟩
      | o x =>
        obtain ⟨p, e1, h1, n⟩ := z
        exact ⟨p, by rw [e]; exact e1, h1, n⟩
  · obtain ⟨g1, g2⟩ := old h1
    obtain ⟨g3, g4⟩ := old h2
    rw [List.getElem?_set_ne (Ne.symm g1)] at h3
    rw [List.getElem?_set_ne (Ne.symm g3)] at h4
    exact hR.sep j k x y p hjk g2 g4 h3 h4
  · rcases h with h | ⟨j, x, h1, h2⟩
    · exact .inl h
    · obtain ⟨g1, g2⟩ := old h1
      rw [List.getElem?_set_ne (Ne.symm g1)] at h2
      exact .inr ⟨j, x, g2, h2⟩
/-- a new own object -/
theorem Res.setO {i : Nat} {x : O} {p : Addr} (hR : Res K ρ H st σ) (hx : OR K ρ H p x) (hn : ¬ Dom st σ ρ p) : Res K ρ H (st.set i (.o x)) (σ.set i (some (.ref p))) ∧ ∀ a, Dom (st.set i (.o x)) (σ.set i (some (.ref p))) ρ a → Dom st σ ρ a ∨ a = p := by
  have old : ∀ {j : Nat} {y : O}, j ≠ i → (st.set i (.o x)).σ[j]? = some (.o y) → st.σ[j]? = some (.o y) := fun {j y} hj h => by
    simp only [St.set] at h
    rw [List.getElem?_set_ne (Ne.symm hj)] at h
    exact h
  have at_ : ∀ {j : Nat} {y : O} {q : Addr}, j = i → (st.set i (.o x)).σ[j]? = some (.o y) → (σ.set i (some (V.ref p)))[j]? = some (some (.ref q)) → q = p := fun {j y q} hj h h2 => by
    subst hj
    by_cases hl : j < σ.length
    · rw [List.getElem?_set_self hl] at h2
      cases h2
      rfl
    · have e : (σ.set j (some (V.ref p)))[j]? = none := List.getElem?_eq_none (by simpa using hl)
      rw [e] at h2
      cases h2
  refine ⟨⟨hR.hr, by simp [St.set, hR.len], fun j s h => ?_, fun j k y z q hjk h1 h2 h3 h4 => ?_⟩, fun a h => ?_⟩
  · by_cases hj : j = i
    · subst hj
      by_cases hl : j < st.σ.length
      · simp only [St.set] at h
        rw [List.getElem?_set_self hl] at h
        cases h
        exact ⟨p, by rw [List.getElem?_set_self (by rw [hR.len]; exact hl)], hx, fun z => hn (.inl z)⟩
      · have e : (st.σ.set j (Sl.o x))[j]? = none := List.getElem?_eq_none (by simpa using hl)
        simp only [St.set] at h
        rw [e] at h
        cases h
    · simp only [St.set] at h
      rw [List.getElem?_set_ne (Ne.symm hj)] at h
      have z := hR.sl j s h
      have e : (σ.set i (some (V.ref p)))[j]? = σ[j]? := List.getElem?_set_ne (Ne.symm hj)
      cases s with
      | un => trivial
      | d x =>
        obtain ⟨w, e1, h1⟩ := z
        exact ⟨w, by rw [e]; exact e1, h1⟩
      | o x =>
        obtain ⟨p', e1, h1, n⟩ := z
        exact ⟨p', by rw [e]; exact e1, h1, n⟩
  · have one : ∀ {j : Nat} {y : O}, j ≠ i → (st.set i (.o x)).σ[j]? = some (.o y) → (σ.set i (some (V.ref p)))[j]? = some (some (.ref p)) → False := fun {j y} hj g1 g2 => by
      rw [List.getElem?_set_ne (Ne.symm hj)] at g2
      exact hn (.inr ⟨j, y, old hj g1, g2⟩)
    by_cases hj : j = i
    · have e := at_ hj h1 h3
      subst e
      exact one (fun z => hjk (hj.trans z.symm)) h2 h4
    · by_cases hk : k = i
      · have e := at_ hk h2 h4
        subst e
        exact one hj h1 h3
      · rw [List.getElem?_set_ne (Ne.symm hj)] at h3
        rw [List.getElem?_set_ne (Ne.symm hk)] at h4
        exact hR.sep j k y z q hjk (old hj h1) (old hk h2) h3 h4
  · rcases h with h | ⟨j, y, h1, h2⟩
    · exact .inl (.inl h)
    · by_cases hj : j = i
      · exact .inr (at_ hj h1 h2)
      · rw [List.getElem?_set_ne (Ne.symm hj)] at h2
        exact .inl (.inr ⟨j, y, old hj h1, h2⟩)
mutual
theorem gTg_sound {v : V} : ∀ (tg : Tg) (d : D) (v : V) (st st' : St) (σ : L2.St) (Q : L2.St → Hp → Prop), Res K ρ H st σ → VR K ρ H d v → bindD tg d st = some st' →
    (∀ σ', Res K ρ H st' σ' → (∀ j, j ∉ tg.vars → σ'[j]? = σ[j]?) → σ'.length = σ.length → (∀ a, Dom st' σ' ρ a → Dom st σ ρ a) → Q σ' H) → gTg K tg v σ H Q
  | .v i, d, v, st, st', σ, Q, hR, hv, e, k => by
    simp only [bindD, Option.some.injEq] at e
    subst e
    obtain ⟨g1, g2⟩ := Res.setD (i := i) hR hv
    refine k _ g1 (fun j hj => ?_) (by simp) g2
    have hj' : j ≠ i := by simpa [Tg.vars] using hj
    exact List.getElem?_set_ne (Ne.symm hj')
  | .tup ts, d, v, st, st', σ, Q, hR, hv, e, k => by
    cases d with
    | tup ds =>
      obtain ⟨a, vs, rfl, hs, hr⟩ := hv
      simp only [bindD] at e
      refine .inl ⟨a, vs, rfl, (.of hs), ?_, gTgs_sound (v := .non) ts ds vs st st' σ Q hR hr e (by simpa [Tg.vars] using k)⟩
      rw [hr.length]
      exact bindDs_len ts ds st st' e
    | _ => simp [bindD] at e
theorem gTgs_sound {v : V} : ∀ (ts : List Tg) (ds : List D) (vs : List V) (st st' : St) (σ : L2.St) (Q : L2.St → Hp → Prop), Res K ρ H st σ → VRs K ρ H ds vs → bindDs ts ds st = some st' →
    (∀ σ', Res K ρ H st' σ' → (∀ j, j ∉ Tg.varss ts → σ'[j]? = σ[j]?) → σ'.length = σ.length → (∀ a, Dom st' σ' ρ a → Dom st σ ρ a) → Q σ' H) → gTgs K ts vs σ H Q
  | [], ds, vs, st, st', σ, Q, hR, hv, e, k => by
    cases ds with
    | nil =>
      simp only [bindDs, Option.some.injEq] at e
      subst e
      exact ⟨hv, k σ hR (fun _ _ => rfl) rfl (fun _ h => h)⟩
    | cons d ds => simp [bindDs] at e
  | t :: ts, ds, vs, st, st', σ, Q, hR, hv, e, k => by
    cases ds with
    | nil => simp [bindDs] at e
    | cons d ds =>
      obtain ⟨v1, r, rfl, h1, h2⟩ := hv
      simp only [bindDs] at e
      cases q : bindD t d st with
      | none =>
        rw [q] at e
        cases e
      | some st1 =>
        rw [q] at e
        refine ⟨v1, r, rfl, gTg_sound (v := .non) t d v1 st st1 σ _ hR h1 q fun σ1 g1 g2 g3 g4 => ?_⟩
        refine gTgs_sound (v := .non) ts ds r st1 st' σ1 Q g1 h2 e fun σ2 g5 g6 g7 g8 => k σ2 g5 (fun j hj => ?_) (g7.trans g3) fun a h => g4 a (g8 a h)
        have hj' : j ∉ t.vars ∧ j ∉ Tg.varss ts := by simpa [Tg.varss] using hj
        exact (g6 j hj'.2).trans (g2 j hj'.1)
theorem bindDs_len : ∀ (ts : List Tg) (ds : List D) (st st' : St), bindDs ts ds st = some st' → ds.length = ts.length
  | [], ds, st, st', e => by
    cases ds with
    | nil => rfl
    | cons d ds => simp [bindDs] at e
  | t :: ts, ds, st, st', e => by
    cases ds with
    | nil => simp [bindDs] at e
    | cons d ds =>
      simp only [bindDs] at e
      cases q : bindD t d st with
      | none =>
        rw [q] at e
        cases e
      | some st1 =>
        rw [q] at e
        rw [List.length_cons, List.length_cons, bindDs_len ts ds st1 st' e]
end
end
end EW

-- part: Sound9
set_option maxHeartbeats 1000000
/-! comprehensions -/
namespace EW
open PySem PySem.Spec PyProof.Rows L2 RZ RT
/-! ### wiped slots -/
theorem wipeS_get {σ : List Sl} {j : Nat} : ∀ {vs : List Nat}, (wipeS σ vs)[j]? = if j ∈ vs then (σ[j]?).map fun _ => Sl.un else σ[j]?
  | [] => by simp [wipeS]
  | v :: vs => by
    have ih := @wipeS_get σ j vs
    unfold wipeS
    rw [List.getElem?_set]
    by_cases hv : v = j
    · subst hv
      rw [if_pos rfl]
      have hl : v < (wipeS σ vs).length ↔ v < σ.length := by
        have : ∀ us : List Nat, (wipeS σ us).length = σ.length := fun us => by
          induction us with
          | nil => rfl
          | cons u us ih => unfold wipeS; rw [List.length_set, ih]
        rw [this]
      by_cases h : v < σ.length
      · rw [if_pos (hl.mpr h), if_pos (by simp), List.getElem?_eq_getElem h]
        rfl
      · rw [if_neg (fun z => h (hl.mp z)), if_pos (by simp), List.getElem?_eq_none (by omega)]
        rfl
    · rw [if_neg hv, ih]
      have e : (j ∈ v :: vs) ↔ j ∈ vs := by simp [Ne.symm hv]
      simp only [e]
theorem wipeS_length {σ : List Sl} : ∀ {vs : List Nat}, (wipeS σ vs).length = σ.length
  | [] => rfl
  | v :: vs => by
    unfold wipeS
    rw [List.length_set, wipeS_length]
theorem wipe_get {σ : L2.St} {j : Nat} : ∀ {vs : List Nat}, (wipe σ vs)[j]? = if j ∈ vs then (σ[j]?).map fun _ => Option.none else σ[j]?
  | [] => by simp [wipe]
  | v :: vs => by
    have ih := @wipe_get σ j vs
    unfold wipe
    rw [List.getElem?_set]
    by_cases hv : v = j
    · subst hv
      rw [if_pos rfl, wipe_length]
      by_cases h : v < σ.length
      · rw [if_pos h, if_pos (by simp), List.getElem?_eq_getElem h]
        rfl
      · rw [if_neg h, if_pos (by simp), List.getElem?_eq_none (by omega)]
        rfl
    · rw [if_neg hv, ih]
      have e : (j ∈ v :: vs) ↔ j ∈ vs := by simp [Ne.symm hv]
      simp only [e]
theorem backS_get {σ σ0 : List Sl} {j : Nat} (hl : σ.length = σ0.length) : ∀ {vs : List Nat}, (backS σ σ0 vs)[j]? = if j ∈ vs then σ0[j]? else σ[j]?
  | [] => by simp [backS]
  | v :: vs => by
    have ih := @backS_get σ σ0 j hl vs
    have len : ∀ us : List Nat, (backS σ σ0 us).length = σ.length := fun us => by
      induction us with
      | nil => rfl
      | cons u us ih => unfold backS; rw [List.length_set, ih]
    unfold backS
    rw [List.getElem?_set]
    by_cases hv : v = j
    · subst hv
      rw [if_pos rfl, len]
      by_cases h : v < σ.length
      · rw [if_pos h, if_pos (by simp), List.getD_eq_getElem?_getD, List.getElem?_eq_getElem (by omega)]
        rfl
      · rw [if_neg h, if_pos (by simp), List.getElem?_eq_none (by omega)]
    · rw [if_neg hv, ih]
      have e : (j ∈ v :: vs) ↔ j ∈ vs := by simp [Ne.symm hv]
      simp only [e]
theorem backS_length {σ σ0 : List Sl} : ∀ {vs : List Nat}, (backS σ σ0 vs).length = σ.length
  | [] => rfl
  | v :: vs => by
    unfold backS
    rw [List.length_set, backS_length]
theorem wipe_of {σ2 σ : L2.St} {vs : List Nat} (hl : σ2.length = (wipe σ vs).length) (h : ∀ j, j ∉ vs → σ2[j]? = (wipe σ vs)[j]?) : wipe σ2 vs = wipe σ vs := by
  apply List.ext_getElem?
  intro j
  rw [wipe_get]
  by_cases hj : j ∈ vs
  · rw [if_pos hj, wipe_get, if_pos hj]
    rw [wipe_length] at hl
    by_cases g : j < σ.length
    · rw [List.getElem?_eq_getElem g, List.getElem?_eq_getElem (by omega)]
      rfl
    · rw [List.getElem?_eq_none (by omega), List.getElem?_eq_none (by omega)]
  · rw [if_neg hj]
    exact h j hj
/-- the state with these slots forgotten -/
def wst (st : St) (vs : List Nat) : St := { st with σ := wipeS st.σ vs }
section
variable {K : PySem.W.Frag} {ρ ρ1 ρ' : List Addr} {H H1 H' : Hp} {st st1 st' : St} {σ σ1 σ2 σ' : L2.St}
theorem wst_o {vs : List Nat} {i : Nat} {x : O} (h : (wst st vs).σ[i]? = some (.o x)) : i ∉ vs ∧ st.σ[i]? = some (.o x) := by
  have h : (wipeS st.σ vs)[i]? = _ := h
  rw [wipeS_get] at h
  by_cases hi : i ∈ vs
  · rw [if_pos hi] at h
    cases q : st.σ[i]? with
    | none =>
      rw [q] at h
      cases h
    | some y =>
      rw [q] at h
      cases h
  · rw [if_neg hi] at h
    exact ⟨hi, h⟩
theorem Step.of_res (r : Res K ρ H st' σ') (h : ∀ a, Dom st' σ' ρ a → Dom st σ ρ a) : Step K ρ H st σ ρ H st' σ' := ⟨r, List.prefix_refl _, fun _ _ e _ => e, fun a d => .inl (h a d), fun _ _ _ e => e⟩
theorem Res.wiped (r : Res K ρ H st σ) (vs : List Nat) : Step K ρ H st σ ρ H (wst st vs) (wipe σ vs) := by
  refine Step.of_res ⟨r.hr, ?_, fun i s h => ?_, fun i j x y p hij h1 h2 h3 h4 => ?_⟩ fun a h => ?_
  · show (wipe σ vs).length = (wipeS st.σ vs).length
    rw [wipe_length, wipeS_length]
    exact r.len
  · have h' : (wipeS st.σ vs)[i]? = some s := h
    rw [wipeS_get] at h'
    by_cases hi : i ∈ vs
    · rw [if_pos hi] at h'
      cases q : st.σ[i]? with
      | none =>
        rw [q] at h'
        cases h'
      | some y =>
        rw [q] at h'
        cases h'
        trivial
    · rw [if_neg hi] at h'
      have z := r.sl i s h'
      have e : (wipe σ vs)[i]? = σ[i]? := by rw [wipe_get, if_neg hi]
      cases s with
      | un => trivial
      | d x =>
        obtain ⟨v, e1, h1⟩ := z
        exact ⟨v, e.trans e1, h1⟩
      | o x =>
        obtain ⟨p, e1, h1, n⟩ := z
        exact ⟨p, e.trans e1, h1, n⟩
  · obtain ⟨g1, g2⟩ := wst_o h1
    obtain ⟨g3, g4⟩ := wst_o h2
    rw [wipe_get, if_neg g1] at h3
    rw [wipe_get, if_neg g3] at h4
    exact r.sep i j x y p hij g2 g4 h3 h4
  · rcases h with h | ⟨i, x, h1, h2⟩
    · exact .inl h
    · obtain ⟨g1, g2⟩ := wst_o h1
      rw [wipe_get, if_neg g1] at h2
      exact .inr ⟨i, x, g2, h2⟩
/-- an object that Mini has not stays -/
theorem Step.off (s : Step K ρ H st σ ρ' H' st' σ') {a : Addr} {o : HO} (e : H a = some o) (n : ¬ Dom st σ ρ a) : H' a = some o ∧ ¬ Dom st' σ' ρ' a := by
  refine ⟨s.frame a o e n, fun d => ?_⟩
  rcases s.grow a d with q | q
  · exact n q
  · rw [e] at q
    cases q
/-- a list that Mini has not yet may change -/
theorem Step.updL (s : Step K ρ H st σ ρ' H' st' σ') {a : Addr} (e : H a = none) (e' : H' a = none ∨ ∃ xs, H' a = some (.lst xs)) (n : ¬ Dom st' σ' ρ' a) (xs : List V) : Step K ρ H st σ ρ' (upd H' a (.lst xs)) st' σ' ∧ Pers H' (upd H' a (.lst xs)) := by
  have ps : Pers H' (upd H' a (.lst xs)) := by
    refine ⟨fun b ys h => ?_, fun b o u _ h => ?_, fun b φ h => by
      have hb : b ≠ a := fun z => by
        subst z
        rcases e' with z | ⟨_, z⟩ <;> (rw [h] at z; cases z)
      rw [upd_ne hb]
      exact h⟩
    · have hb : b ≠ a := fun z => by
        subst z
        rcases e' with z | ⟨_, z⟩ <;> (rw [h] at z; cases z)
      rw [upd_ne hb]
      exact h
    · have hb : b ≠ a := fun z => by
        subst z
        rcases e' with z | ⟨_, z⟩ <;> (rw [h] at z; cases z)
      rw [upd_ne hb]
      exact h
  have keep : ∀ {p : Addr} {x : O}, Dom st' σ' ρ' p → OR K ρ' H' p x → OR K ρ' (upd H' a (.lst xs)) p x := fun {p x} d h =>
    OR.mono (upd_ne fun z => n (z ▸ d)) ps (List.prefix_refl _) h
  refine ⟨⟨⟨⟨s.res.hr.len, s.res.hr.nd, fun i p x h1 h2 => keep (.inl (List.mem_of_getElem? h1)) (s.res.hr.obj i p x h1 h2)⟩, s.res.len, fun i sl h => ?_, s.res.sep⟩, s.pre, fun b o h nd => ?_, s.grow, fun b o u h => ?_⟩, ps⟩
  · have z := s.res.sl i sl h
    cases sl with
    | un => trivial
    | d x =>
      obtain ⟨v, e1, h1⟩ := z
      exact ⟨v, e1, h1.mono ps (List.prefix_refl _) x v⟩
    | o x =>
      obtain ⟨p, e1, h1, n1⟩ := z
      exact ⟨p, e1, keep (.inr ⟨i, x, h, e1⟩) h1, n1⟩
  · have hb : b ≠ a := fun z => by
      subst z
      rw [e] at h
      cases h
    rw [upd_ne hb]
    exact s.frame b o h nd
  · have hb : b ≠ a := fun z => by
      subst z
      rw [e] at h
      cases h
    rw [upd_ne hb]
    exact s.frz b o u h
theorem ER.later {r : EV} {v : V} {vs : List Nat} (s : Step K ρ H st σ ρ' H' st' σ') (ps : Pers H H') (hp : ∀ i ∈ r.pls, σ'[i]? = σ[i]?) (h : ER K ρ H st σ r v) : ER K ρ' H' st' σ' r v := by
  cases r with
  | d x => exact VR.mono ps s.pre x v h
  | o x =>
    obtain ⟨p, e, h1, n⟩ := h
    obtain ⟨o, e1, _⟩ := h1.there
    obtain ⟨g1, g2⟩ := s.off e1 n
    exact ⟨p, e, h1.mono (by rw [e1, g1]) ps s.pre, g2⟩
  | pl i => exact (hp i (by simp [EV.pls])).trans h
  | it k vs => exact h
theorem ERl.later (s : Step K ρ H st σ ρ' H' st' σ') (ps : Pers H H') : ∀ {rs : List EV} {us : List V}, (∀ r ∈ rs, ∀ i, r = .pl i → σ'[i]? = σ[i]?) → ERl K ρ H st σ rs us → ERl K ρ' H' st' σ' rs us
  | [], us, hp, h => h
  | r :: rs, us, hp, h => by
    obtain ⟨v, t, rfl, h1, h2⟩ := h
    refine ⟨v, t, rfl, ER.later (vs := []) s ps (fun i hi => ?_) h1, ERl.later s ps (fun r hr => hp r (List.mem_cons_of_mem _ hr)) h2⟩
    cases r with
    | pl j =>
      have e : i = j := by simpa [EV.pls] using hi
      subst e
      exact hp _ (by simp) _ rfl
    | d x => simp [EV.pls] at hi
    | o x => simp [EV.pls] at hi
    | it k vs => exact h1.elim
theorem Src.later {r : EV} {us : List V} (s : Step K ρ H st σ ρ' H' st' σ') (ps : Pers H H') (hp : ∀ i ∈ r.pls, σ'[i]? = σ[i]?) (h : Src K ρ H st σ r us) : Src K ρ' H' st' σ' r us := by
  cases r with
  | it k vs =>
    refine ERl.later s ps (fun r hr i e => hp i ?_) h
    subst e
    simp only [EV.pls, List.mem_flatMap]
    exact ⟨_, hr, by simp⟩
  | d x =>
    obtain ⟨u, e, h⟩ := h
    exact ⟨u, e, ER.later (vs := []) s ps hp h⟩
  | o x =>
    obtain ⟨u, e, h⟩ := h
    exact ⟨u, e, ER.later (vs := []) s ps hp h⟩
  | pl i =>
    obtain ⟨u, e, h⟩ := h
    exact ⟨u, e, ER.later (vs := []) s ps hp h⟩
end
theorem rd_wst {st : St} {vs : List Nat} {v : EV} (h : ∀ i ∈ v.pls, i ∉ vs) : rd (wst st vs) v = rd st v := by
  cases v with
  | d x => cases x <;> rfl
  | o x => rfl
  | it k vs => rfl
  | pl i =>
    have e : (wst st vs).σ[i]? = st.σ[i]? := by
      show (wipeS st.σ vs)[i]? = _
      rw [wipeS_get, if_neg (h i (by simp [EV.pls]))]
    simp only [rd, e]
    rfl
theorem rd_it {st st' : St} {k : I} {us : List EV} : rd st (.it k us) = rd st' (.it k us) := rfl
theorem items_wst {st : St} {vs : List Nat} {v : EV} (h : ∀ i ∈ v.pls, i ∉ vs) : items (wst st vs) v = items st v := by
  cases v with
  | d x => simp only [items, rd_wst h]
  | o x => simp only [items, rd_wst h]
  | pl i => simp only [items, rd_wst h]
  | it k us =>
    have hr : ∀ a, a ∈ us → rd (wst st vs) a = rd st a := fun a ha => by
      cases a with
      | pl i => exact rd_wst fun j hj => h j (by
          have e : j = i := by simpa [EV.pls] using hj
          subst e
          simp only [EV.pls, List.mem_flatMap]
          exact ⟨_, ha, by simp⟩)
      | d x => exact rd_wst fun j hj => by simp [EV.pls] at hj
      | o x => exact rd_wst fun j hj => by simp [EV.pls] at hj
      | it k' us' => rfl
    unfold items
    split <;> (try simp only [EV.it.injEq, reduceCtorEq] at *) <;> (try rfl) <;> simp_all
section
variable {X : Cx} {G : Gam} {Wx : WX}
/-- nothing is let out of a comprehension's block -/
def W0 : WX := fun _ _ _ _ => False
theorem takes_blk {X : Cx} : Takes X W0 := fun u s' ⟨a, B, sI, pins, σ, H, cls, d, e, I, nb, up, sky, na, os, ag, w⟩ => w.elim
theorem PTs.imp {X : Cx} {ifs : List Expr} {t t' : TT} (h : PTs X ifs t) (f : ∀ σ H Q, t' σ H Q → t σ H Q) : PTs X ifs t' := ⟨fun pins s σ H Q I q => h.run pins s σ H Q I (f σ H Q q)⟩
noncomputable def lcTest (G : Gam) (cond : E) : St → Out Bool := fun s => match cond with | .no => .ok true s | c => tst G c s
theorem Wp.tame {α : Type} {o : Out α} {P : α → St → Prop} {F : String → St → Prop} (h : Wp o.tame P F) : Wp o P (fun _ _ => False) := by
  cases o with
  | ok a st => exact h
  | ex c st => exact h.elim
  | bad => exact h
open Classical in
/-- the loop, as HandS wants it -/
theorem lc_turnsG {J : It} {D : Addr} {tg : Tg} {test : St → Out Bool} {elt : St → Out EV} {v : EV} {xs : List EW.D} {ρ1 : List Addr} {H1 : Hp} {st1 : St} {σ : L2.St} {Q : VK} {P : List EW.D → St → Prop}
    (hR : Res X.K ρ1 H1 st1 σ) (hD : H1 D = none) (hlim : xs.length ≤ lim) 
    (goes : ∀ ρ' H' st', Step X.K ρ1 H1 (wst st1 tg.vars) (wipe σ tg.vars) ρ' H' (wst st' tg.vars) (wipe σ tg.vars) → items st' v = some xs → GoesI X.K J xs ρ' H')
    (h : Wp (lcL (fun s => items s v = some xs) tg test elt xs [] st1) P (fun _ _ => False))
    (k : ∀ ρ' H' st' acc accV, Step X.K ρ1 H1 (wst st1 tg.vars) (wipe σ tg.vars) ρ' H' (wst st' tg.vars) (wipe σ tg.vars) → st'.σ.length = st1.σ.length → H' D = some (.lst accV) → VRs X.K ρ' H' acc accV → ¬ Dom (wst st' tg.vars) (wipe σ tg.vars) ρ' D → P acc st' → Q (.ref D) H') :
    ∃ W : Nat → Nat → Hp → Prop, (∃ m, W 0 m (upd H1 D (.lst []))) ∧ ∀ i m H, W i m H →
      (J.stop i H ∧ Q (.ref D) H) ∨ (J.go i H ∧ ∃ Nx : Hp → Prop, (∀ H', Nx H' → ∃ m', m' < m ∧ W (i + 1) m' H') ∧ ∀ x H', J.yld i H x H' → gTg X.K tg x (wipe σ tg.vars) H' fun σ2 H2 => wipe σ2 tg.vars = wipe σ tg.vars ∧ tB X test W0 σ2 H2 fun b H3 =>
        if b = true then tE X elt W0 σ2 H3 fun y H4 => ∃ acc, H4 D = some (.lst acc) ∧ acc.length < sizeLine ∧ Nx (upd H4 D (.lst (acc ++ [y]))) else Nx H3) := by
  let Pv : Nat → Hp → Prop := fun i H => ∃ ρi sti acc accV, Step X.K ρ1 H1 (wst st1 tg.vars) (wipe σ tg.vars) ρi H (wst sti tg.vars) (wipe σ tg.vars) ∧ sti.σ.length = st1.σ.length ∧ H D = some (.lst accV) ∧ VRs X.K ρi H acc accV ∧ ¬ Dom (wst sti tg.vars) (wipe σ tg.vars) ρi D ∧ acc.length ≤ i ∧
    Wp (lcL (fun s => items s v = some xs) tg test elt (xs.drop i) acc sti) P (fun _ _ => False)
  have s0 := hR.wiped tg.vars
  refine ⟨fun i m H => i ≤ xs.length ∧ m = xs.length - i ∧ Pv i H, ⟨_, Nat.zero_le _, rfl, ?_⟩, fun i m H => ?_⟩
  · obtain ⟨g1, g2⟩ := (Step.refl s0.res).updL hD (.inl hD) (s0.res.notDom hD) []
    exact ⟨ρ1, st1, [], [], g1, rfl, by simp [upd], rfl, s0.res.notDom hD, Nat.le_refl _, h⟩
  · rintro ⟨hi, rfl, ρi, sti, acc, accV, s1, hl, hDi, hacc, hnd, hal, hw⟩
    have hln := lim_line
    have hst : items sti v = some xs := by
      cases q : xs.drop i with
      | nil =>
        rw [q] at hw
        unfold lcL at hw
        split at hw
        · assumption
        · exact hw.elim
      | cons x r =>
        rw [q] at hw
        unfold lcL at hw
        split at hw
        · assumption
        · exact hw.elim
    have g := goes ρi H sti s1 hst
    by_cases hlt : i < xs.length
    · refine .inr ⟨g.go i hlt, Pv (i + 1), fun H' p' => ⟨xs.length - (i + 1), by omega, by omega, rfl, p'⟩, fun x H' hy => ?_⟩
      obtain ⟨same, d, hd, hv⟩ := g.yld i x H' hlt hy
      have e : xs.drop i = d :: xs.drop (i + 1) := by
        rw [List.drop_eq_getElem_cons hlt]
        rw [List.getElem?_eq_getElem hlt] at hd
        cases hd
        rfl
      rw [e] at hw
      unfold lcL at hw
      rw [if_pos hst] at hw
      have s2 := s1.trans (Step.ext s1.res same)
      cases q : bindD tg d { sti with σ := wipeS sti.σ tg.vars } with
      | none =>
        rw [q] at hw
        exact hw.elim
      | some st2 =>
        rw [q] at hw
        refine gTg_sound (v := x) tg d x (wst sti tg.vars) st2 (wipe σ tg.vars) _ s2.res hv q fun σ2 r2 g1 g2 g3 => ?_
        have ew : wipe σ2 tg.vars = wipe σ tg.vars := wipe_of g2 g1
        refine ⟨ew, ρi, st2, r2, (Wp.bind.mp hw).mono (fun b st3 hb H3 ρ3 s3 => ?_) (fun c st' z => z.elim)⟩
        have s4 : Step X.K ρ1 H1 (wst st1 tg.vars) (wipe σ tg.vars) ρ3 H3 st3 σ2 := (s2.trans (Step.of_res r2 g3)).trans s3
        obtain ⟨hD', hn'⟩ := (Step.ext s1.res same).off hDi hnd
        obtain ⟨hD3, hn3⟩ := ((Step.of_res r2 g3).trans s3).off hD' hn'
        have acc3 := (hacc.mono (Step.pers s1.res (Step.ext s1.res same)) (List.prefix_refl _) acc accV).mono (Step.pers (Step.ext s1.res same).res ((Step.of_res r2 g3).trans s3)) s3.pre acc accV
        have l3 : st3.σ.length = st1.σ.length := by
          have a1 := s3.res.len
          have a2 := g2
          rw [wipe_length] at a2
          have a3 := hR.len
          omega
        by_cases hb1 : b = true
        · subst hb1
          simp only [if_true] at hb ⊢
          refine ⟨ρ3, st3, s3.res, (Wp.bind.mp hb).mono (fun r4 st4 hy y H4 ρ4 s5 hr hn => ?_) (fun c st' z => z.elim)⟩
          obtain ⟨y', st5, e5, hy⟩ := wp_of2 (Wp.bind.mp hy)
          obtain ⟨ρ5, s6, hp6, hv6, hd6⟩ := toD_sound s5 hr hn e5
          obtain ⟨hD4, hn4⟩ := s5.off hD3 hn3
          obtain ⟨_, hn5⟩ := s6.off hD3 hn3
          have acc4 := (acc3.mono (Step.pers s3.res s6) s6.pre acc accV).append (VRs.cons hv6 .nil)
          have al := acc3.length
          have s7 := s4.trans s6
          have s8 := s7.trans (s7.res.wiped tg.vars)
          rw [ew] at s8
          have hn8 : ¬ Dom (wst st5 tg.vars) (wipe σ tg.vars) ρ5 D := fun z => by
            have w5 := s7.res.wiped tg.vars
            rw [ew] at w5
            rcases w5.grow D z with z | z
            · exact hn5 z
            · rw [hD4] at z
              cases z
          obtain ⟨s9, ps9⟩ := s8.updL hD (.inr ⟨_, hD4⟩) hn8 (accV ++ [y])
          refine ⟨accV, hD4, by omega, ρ5, st5, acc ++ [y'], accV ++ [y], s9, ?_, by simp [upd], acc4.mono ps9 (List.prefix_refl _) _ _, hn8, by simp; omega, hy⟩
          have a1 := s6.res.len
          have a2 := s3.res.len
          omega
        · have e1 : b = false := by simpa using hb1
          subst e1
          simp only [Bool.false_eq_true, if_false] at hb ⊢
          have w3 := s3.res.wiped tg.vars
          have s8 := s4.trans w3
          rw [ew] at s8 w3
          exact ⟨ρ3, st3, acc, accV, s8, l3, hD3, acc3, (w3.off hD3 hn3).2, by omega, hb⟩
    · have e : i = xs.length := by omega
      subst e
      refine .inl ⟨g.stop, ?_⟩
      rw [List.drop_length] at hw
      unfold lcL at hw
      rw [if_pos hst] at hw
      exact k ρi H sti acc accV s1 hl hDi hacc hnd hw
open Classical in
/-- .. what it walks known -/
theorem lc_turns {J : It} {D : Addr} {tg : Tg} {test : St → Out Bool} {elt : St → Out EV} {v : EV} {us : List V} {xs : List EW.D} {ρ1 : List Addr} {H1 : Hp} {st1 : St} {σ : L2.St} {Q : VK} {P : List EW.D → St → Prop}
    (hR : Res X.K ρ1 H1 st1 σ) (hD : H1 D = none) (hlim : xs.length ≤ lim) (hpl : ∀ i ∈ v.pls, i ∉ tg.vars) (hs : Src X.K ρ1 H1 st1 σ v us)
    (goes : ∀ ρ' H' st' σ', Res X.K ρ' H' st' σ' → Src X.K ρ' H' st' σ' v us → items st' v = some xs → GoesI X.K J xs ρ' H')
    (h : Wp (lcL (fun s => items s v = some xs) tg test elt xs [] st1) P (fun _ _ => False))
    (k : ∀ ρ' H' st' acc accV, Step X.K ρ1 H1 (wst st1 tg.vars) (wipe σ tg.vars) ρ' H' (wst st' tg.vars) (wipe σ tg.vars) → st'.σ.length = st1.σ.length → H' D = some (.lst accV) → VRs X.K ρ' H' acc accV → ¬ Dom (wst st' tg.vars) (wipe σ tg.vars) ρ' D → P acc st' → Q (.ref D) H') :
    ∃ W : Nat → Nat → Hp → Prop, (∃ m, W 0 m (upd H1 D (.lst []))) ∧ ∀ i m H, W i m H →
      (J.stop i H ∧ Q (.ref D) H) ∨ (J.go i H ∧ ∃ Nx : Hp → Prop, (∀ H', Nx H' → ∃ m', m' < m ∧ W (i + 1) m' H') ∧ ∀ x H', J.yld i H x H' → gTg X.K tg x (wipe σ tg.vars) H' fun σ2 H2 => wipe σ2 tg.vars = wipe σ tg.vars ∧ tB X test W0 σ2 H2 fun b H3 =>
        if b = true then tE X elt W0 σ2 H3 fun y H4 => ∃ acc, H4 D = some (.lst acc) ∧ acc.length < sizeLine ∧ Nx (upd H4 D (.lst (acc ++ [y]))) else Nx H3) :=
  lc_turnsG hR hD hlim (fun ρ' H' st' s1 hst => by
    have s0 := hR.wiped tg.vars
    exact goes ρ' H' (wst st' tg.vars) _ s1.res (Src.later (s0.trans s1) (Step.pers s0.res s1) (fun j hj => by rw [wipe_get, if_neg (hpl j hj)]) hs) ((items_wst hpl).trans hst)) h k
end
section
variable {K : PySem.W.Frag} {ρ ρ1 ρ' : List Addr} {H H1 H' : Hp} {st st1 st' : St} {σ σ1 σ2 σ' : L2.St}
theorem Step.restore {vs : List Nat} (hR : Res K ρ1 H1 st1 σ) (s : Step K ρ1 H1 (wst st1 vs) (wipe σ vs) ρ' H' (wst st' vs) (wipe σ vs)) (l : st'.σ.length = st1.σ.length) :
    Step K ρ1 H1 st1 σ ρ' H' { st' with σ := backS st'.σ st1.σ vs } σ ∧ ∀ a, Dom { st' with σ := backS st'.σ st1.σ vs } σ ρ' a → Dom (wst st' vs) (wipe σ vs) ρ' a ∨ ∃ i x, i ∈ vs ∧ st1.σ[i]? = some (.o x) ∧ σ[i]? = some (some (.ref a)) := by
  have w := hR.wiped vs
  have ps := Step.pers w.res s
  have key : ∀ {i : Nat} {x : O}, (backS st'.σ st1.σ vs)[i]? = some (.o x) → (i ∉ vs ∧ (wst st' vs).σ[i]? = some (.o x) ∧ (wipe σ vs)[i]? = σ[i]?) ∨ (i ∈ vs ∧ st1.σ[i]? = some (.o x)) := fun {i x} h => by
    rw [backS_get l] at h
    by_cases hi : i ∈ vs
    · rw [if_pos hi] at h
      exact .inr ⟨hi, h⟩
    · rw [if_neg hi] at h
      refine .inl ⟨hi, ?_, by rw [wipe_get, if_neg hi]⟩
      show (wipeS st'.σ vs)[i]? = _
      rw [wipeS_get, if_neg hi]
      exact h
  -- what a wiped slot alone has
  have own : ∀ {i : Nat} {x : O} {p : Addr}, i ∈ vs → st1.σ[i]? = some (.o x) → σ[i]? = some (some (.ref p)) → OR K ρ1 H1 p x ∧ ¬ Dom (wst st1 vs) (wipe σ vs) ρ1 p := fun {i x p} hi h e => by
    obtain ⟨p', e1, h1, n1⟩ := hR.sl i _ h
    rw [e] at e1
    cases e1
    refine ⟨h1, fun d => ?_⟩
    rcases d with d | ⟨j, y, g1, g2⟩
    · exact n1 d
    · obtain ⟨g3, g4⟩ := wst_o g1
      rw [wipe_get, if_neg g3] at g2
      exact hR.sep i j x y p (fun z => g3 (z ▸ hi)) h g4 e g2
  have domS : ∀ a, Dom { st' with σ := backS st'.σ st1.σ vs } σ ρ' a → Dom (wst st' vs) (wipe σ vs) ρ' a ∨ ∃ i x, i ∈ vs ∧ st1.σ[i]? = some (.o x) ∧ σ[i]? = some (some (.ref a)) := fun a d => by
    rcases d with d | ⟨i, x, h1, h2⟩
    · exact .inl (.inl d)
    · rcases key h1 with ⟨g1, g2, g3⟩ | ⟨g1, g2⟩
      · exact .inl (.inr ⟨i, x, g2, g3.trans h2⟩)
      · exact .inr ⟨i, x, g1, g2, h2⟩
  refine ⟨⟨⟨s.res.hr, ?_, fun i sl h => ?_, fun i j x y p hij h1 h2 h3 h4 => ?_⟩, s.pre, fun a o e n => s.frame a o e fun d => ?_, fun a d => ?_, s.frz⟩, domS⟩
  · show σ.length = (backS st'.σ st1.σ vs).length
    rw [backS_length, l]
    exact hR.len
  · have h : (backS st'.σ st1.σ vs)[i]? = some sl := h
    rw [backS_get l] at h
    by_cases hi : i ∈ vs
    · rw [if_pos hi] at h
      have z := hR.sl i sl h
      cases sl with
      | un => trivial
      | d x =>
        obtain ⟨v, e1, h1⟩ := z
        exact ⟨v, e1, h1.mono ps s.pre x v⟩
      | o x =>
        obtain ⟨p, e1, h1, n1⟩ := z
        obtain ⟨h2, n2⟩ := own hi h e1
        obtain ⟨o, e2, _⟩ := h2.there
        obtain ⟨g1, g2⟩ := s.off e2 n2
        exact ⟨p, e1, h2.mono (by rw [e2, g1]) ps s.pre, fun z => g2 (.inl z)⟩
    · rw [if_neg hi] at h
      have h' : (wst st' vs).σ[i]? = some sl := by
        show (wipeS st'.σ vs)[i]? = _
        rw [wipeS_get, if_neg hi]
        exact h
      have z := s.res.sl i sl h'
      have e : (wipe σ vs)[i]? = σ[i]? := by rw [wipe_get, if_neg hi]
      cases sl with
      | un => trivial
      | d x =>
        obtain ⟨v, e1, h1⟩ := z
        exact ⟨v, e.symm.trans e1, h1⟩
      | o x =>
        obtain ⟨p, e1, h1, n1⟩ := z
        exact ⟨p, e.symm.trans e1, h1, n1⟩
  · have cross : ∀ {i j : Nat} {x y : O}, (i ∈ vs ∧ st1.σ[i]? = some (.o x)) → (j ∉ vs ∧ (wst st' vs).σ[j]? = some (.o y) ∧ (wipe σ vs)[j]? = σ[j]?) → σ[i]? = some (some (.ref p)) → σ[j]? = some (some (.ref p)) → False := fun {i j x y} a b e e' => by
      obtain ⟨h2, n2⟩ := own a.1 a.2 e
      obtain ⟨o, e2, _⟩ := h2.there
      exact (s.off e2 n2).2 (.inr ⟨j, y, b.2.1, b.2.2.trans e'⟩)
    rcases key h1 with a | a <;> rcases key h2 with b | b
    · exact s.res.sep i j x y p hij a.2.1 b.2.1 (a.2.2.trans h3) (b.2.2.trans h4)
    · exact cross b a h4 h3
    · exact cross a b h3 h4
    · exact hR.sep i j x y p hij a.2 b.2 h3 h4
  · rcases w.grow a d with z | z
    · exact n z
    · rw [e] at z
      cases z
  · rcases domS a d with d | ⟨i, x, h1, h2, h3⟩
    · rcases s.grow a d with z | z
      · rcases w.grow a z with z | z
        · exact .inl z
        · exact .inr z
      · exact .inr z
    · exact .inl (.inr ⟨i, x, h2, h3⟩)
end
section
variable {X : Cx} {G : Gam} {Wx : WX}
theorem tE_lc {elt cond src : E} {tg : Tg} {σ : L2.St} {H : Hp} {Q : VK} (h : tE X (ev G (.lc elt tg src cond)) Wx σ H Q) :
    tLc (tI X (ev G src) Wx) (gTg X.K tg) (tB X (lcTest G cond) W0) (tE X (ev G elt) W0) tg.vars σ H Q := by
  obtain ⟨ρ, st, hR, h⟩ := h
  rw [ev] at h
  refine ⟨ρ, st, hR, (Wp.bind.mp h).mono (fun v st1 h => ?_) (fun _ _ x => x)⟩
  cases q : items st1 v with
  | none =>
    rw [q] at h
    exact h.elim
  | some xs =>
    rw [q] at h
    simp only at h
    split at h
    · rename_i hc
      simp only [Bool.and_eq_true, decide_eq_true_eq, List.all_eq_true, Bool.not_eq_true', List.contains_eq_mem, decide_eq_false_iff_not] at hc
      refine ⟨xs, rfl, fun J H1 ρ1 us s1 hs goes D hD => ?_⟩
      refine lc_turns s1.res hD hc.1 hc.2 hs goes (Wp.tame (Wp.bind.mp h)) fun ρ' H' st' acc accV s2 l hDa hacc hnd h => ?_
      obtain ⟨s3, hdom⟩ := Step.restore s1.res s2 l
      refine h (.ref D) H' ρ' (s1.trans s3) ⟨D, rfl, ⟨accV, hDa, hacc⟩, fun d => ?_⟩ fun x p e1 e2 => ?_
      · rcases hdom D d with d | ⟨i, x, _, h1, h2⟩
        · exact hnd d
        · exact s1.res.notDom hD (.inr ⟨i, x, h1, h2⟩)
      · cases e2
        by_cases n : Dom st σ ρ D
        · exact .inr n
        · left
          cases e : H D with
          | none => rfl
          | some o =>
            rw [s1.frame D o e n] at hD
            cases hD
    · exact h.elim
theorem se_lc {elt cond src : E} {tg : Tg} {eelt etg eiter : Expr} {ifs : List Expr} {scope : Scope} {own : List (Str × Nat)} {pos : Pos} (hc : X.calm = true) (hN : X.N.Nodup) (hi : SI X G src etg eiter) (ok : BlkOk X.N X.env.scope scope own) (hv : own.map (·.2) = tg.vars)
    (hg : ∀ (s : Shared) (H : Hp) (C : Addr) (cl : List (Str × Addr)) (fp : List Addr), PG (X.blk s H scope (compEnvC scope cl C X.env) fp) etg (gTg X.K tg))
    (ht : ∀ (s : Shared) (H : Hp) (C : Addr) (cl : List (Str × Addr)) (fp : List Addr), (cond = .no ∧ ifs = []) ∨ (cond ≠ .no ∧ ∃ c, ifs = [c] ∧ ST (X.blk s H scope (compEnvC scope cl C X.env) fp) G cond c))
    (he : ∀ (s : Shared) (H : Hp) (C : Addr) (cl : List (Str × Addr)) (fp : List Addr), SE (X.blk s H scope (compEnvC scope cl C X.env) fp) G elt eelt) (hs : ∀ x, foldedSetIterable eiter X.env x = pure x) :
    SE X G (.lc elt tg src cond) (.ListComp eelt [⟨etg, eiter, ifs, 0⟩] scope pos) := fun Wx tk => by
  refine PE.imp (pe_lc hc hN (hi Wx tk) ok hg (tt := tB X (lcTest G cond) W0) (te := tE X (ev G elt) W0) (fun s H C cl fp => ?_) (fun s H C cl fp => he s H C cl fp W0 takes_blk) hs) ?_
  · rcases ht s H C cl fp with ⟨rfl, rfl⟩ | ⟨hn, c, rfl, h⟩
    · refine PTs.imp pts_nil ?_
      rintro σ H Q ⟨ρ, st, hR, h⟩
      exact h H ρ (Step.refl hR)
    · have e : lcTest G cond = tst G cond := by
        funext s
        cases cond <;> first | rfl | exact absurd rfl hn
      rw [e]
      exact pts_one (h W0 takes_blk)
  · rw [hv]
    exact fun σ H Q => tE_lc
end
end EW

-- part: Sound10
set_option maxHeartbeats 1000000
/-! targets as they are written; isinstance; methods that change a list -/
namespace EW
open PySem PySem.Spec PyProof.Rows L2
/-! ### no stars -/
def noStar : Expr → Bool
  | .Starred _ _ => false
  | _ => true
theorem star_cons {e : Expr} {es : List Expr} {env : Env} (h : noStar e = true) : starEach (e :: es) env = (false, eval e env) :: starEach es env := by
  cases e <;> first | rfl | cases h
theorem star_nil {env : Env} : starEach [] env = [] := rfl
theorem star_plain {pos : Pos} {env : Env} : ∀ {es : List Expr}, es.all noStar = true → (backTo pos (starEach es env)).any (·.1) = false
  | [], _ => rfl
  | e :: es, h => by
    simp only [List.all_cons, Bool.and_eq_true] at h
    rw [star_cons h.1]
    have ih := star_plain (pos := pos) (env := env) h.2
    show (false || (backTo pos (starEach es env)).any (·.1)) = false
    rw [ih]
    rfl
theorem star_few {pos : Pos} {env : Env} : ∀ {es : List Expr}, es.all noStar = true → (backTo pos (starEach es env)).all (fun x => !x.1) = true
  | [], _ => rfl
  | e :: es, h => by
    simp only [List.all_cons, Bool.and_eq_true] at h
    rw [star_cons h.1]
    have ih := star_few (pos := pos) (env := env) h.2
    show (!false && (backTo pos (starEach es env)).all (fun x => !x.1)) = true
    rw [ih]
    rfl
theorem asg_cons {e : Expr} {es : List Expr} {env : Env} (h : noStar e = true) : assignEach (e :: es) env = (false, assign e env) :: assignEach es env := by
  cases e <;> first | rfl | cases h
theorem asg_len {env : Env} : ∀ {es : List Expr}, es.all noStar = true → (assignEach es env).length = es.length
  | [], _ => rfl
  | e :: es, h => by
    simp only [List.all_cons, Bool.and_eq_true] at h
    rw [asg_cons h.1, List.length_cons, List.length_cons, asg_len h.2]
theorem asg_idx {env : Env} : ∀ {es : List Expr}, es.all noStar = true → (assignEach es env).findIdx? (·.1) = none
  | [], _ => rfl
  | e :: es, h => by
    simp only [List.all_cons, Bool.and_eq_true] at h
    rw [asg_cons h.1, List.findIdx?_cons]
    have ih := asg_idx (env := env) h.2
    simp [ih]

/-! ### the check's surroundings -/
structure Gt where
  cs : List (String × D)
  fns : List String
  exs : List (String × List String) := []
  cls : List String := []
/-- whether the class c stands under t; a known class stands under itself -/
def subOf (exs : List (String × List String)) (c t : String) : Bool := (exs.lookup c).any fun as => as.contains t
structure Ck where
  N : List Str
  sc : Scope
  fnc : Str → Bool
  calm : Bool
  gt : Gt
def Ck.loc (c : Ck) (x : Str) : Bool := c.sc.names.lookup x == some .local || (c.sc.names.lookup x == some .cell && c.fnc x)
def Ck.vis (c : Ck) (x : Str) : Bool := c.sc.names.lookup x == some .local || c.sc.names.lookup x == some .cell || c.sc.names.lookup x == some .free
def Ck.glo (c : Ck) (x : Str) : Bool := c.sc.names.lookup x == some .globalImplicit
mutual
def chkT (c : Ck) : Tg → Expr → Bool
  | .v i, .Name x _ => (c.N[i]? == some x) && c.loc x
  | .tup ts, .Tuple es _ _ => chkTs c ts es
  | _, _ => false
def chkTs (c : Ck) : List Tg → List Expr → Bool
  | [], [] => true
  | t :: ts, e :: es => noStar e && chkT c t e && chkTs c ts es
  | _, _ => false
end
structure CtOk (X : Cx) (c : Ck) : Prop where
  N : X.N = c.N
  nd : X.N.Nodup
  sc : X.env.scope = c.sc
  fnc : ∀ x, c.fnc x = true → X.fn x = true
  calm : c.calm = true → X.calm = true
section
variable {X : Cx} {c : Ck}
theorem CtOk.ix (h : CtOk X c) {i : Nat} {x : Str} (e : (c.N[i]? == some x) = true) : X.N[i]? = some x := by
  rw [h.N]
  exact eq_of_beq e
theorem CtOk.glo (h : CtOk X c) {x : Str} (e : c.glo x = true) : Gl X x := by
  show X.env.scope.names.lookup x = _
  rw [h.sc]
  exact eq_of_beq e
theorem CtOk.vis (h : CtOk X c) {x : Str} (e : c.vis x = true) : Vis X.env.scope x := by
  unfold Ck.vis at e
  rw [← h.sc] at e
  simp only [Bool.or_eq_true, beq_iff_eq] at e
  rcases e with (e | e) | e
  · exact .inl e
  · exact .inr (.inl e)
  · exact .inr (.inr e)
theorem CtOk.loc (h : CtOk X c) {x : Str} (e : c.loc x = true) : Loc X.env.scope x ∧ (X.fn x = true ∨ X.env.scope.names.lookup x = some .local) := by
  unfold Ck.loc at e
  rw [← h.sc] at e
  simp only [Bool.or_eq_true, Bool.and_eq_true, beq_iff_eq] at e
  rcases e with e | ⟨e, f⟩
  · exact ⟨.inl e, .inr e⟩
  · exact ⟨.inr e, .inl (h.fnc x f)⟩
theorem PG.or {X : Cx} {e : Expr} {t t' : TG} (h : PG X e t) (h' : PG X e t') : PG X e (fun v σ H Q => t v σ H Q ∨ t' v σ H Q) := ⟨fun pins s σ H v u Q I r q => q.elim (h.run pins s σ H v u Q I r) (h'.run pins s σ H v u Q I r)⟩
mutual
theorem chkT_ok (h : CtOk X c) (hc : X.calm = true) : ∀ (t : Tg) (e : Expr), chkT c t e = true → PG X e (gTg X.K t)
  | .v i, e, q => by
    unfold chkT at q
    split at q
    · rename_i i' x p e1
      cases e1
      simp only [Bool.and_eq_true] at q
      obtain ⟨g1, g2⟩ := h.loc q.2
      exact pg_name h.nd (h.ix q.1) g1 g2
    · rename_i e1
      cases e1
    · cases q
  | .tup ts, e, q => by
    unfold chkT at q
    split at q
    · rename_i e1
      cases e1
    · rename_i ts' es k p e1
      cases e1
      obtain ⟨g1, g2, g3⟩ := chkTs_ok h hc ts es q
      exact PG.or (pg_tup hc g1 ((asg_len g2).trans g3) (asg_idx g2)) (pg_lst hc g1 ((asg_len g2).trans g3) (asg_idx g2))
    · cases q
theorem chkTs_ok (h : CtOk X c) (hc : X.calm = true) : ∀ (ts : List Tg) (es : List Expr), chkTs c ts es = true → PGs X es (gTgs X.K ts) ∧ es.all noStar = true ∧ es.length = ts.length
  | [], es, q => by
    unfold chkTs at q
    split at q
    · exact ⟨pgs_nil, rfl, rfl⟩
    · rename_i e1
      cases e1
    · cases q
  | t :: ts, es, q => by
    unfold chkTs at q
    split at q
    · rename_i e1
      cases e1
    · rename_i t' ts' e es' e1
      cases e1
      simp only [Bool.and_eq_true] at q
      obtain ⟨g1, g2, g3⟩ := chkTs_ok h hc ts es' q.2
      have g4 := chkT_ok h hc t e q.1.2
      refine ⟨pgs_cons g4 g1 ?_, ?_, ?_⟩
      · rw [asg_cons q.1.1]
        rfl
      · simp [q.1.1, g2]
      · simp [g3]
    · cases q
end
end

/-! ### isinstance -/
def tyW (K : PySem.W.Frag) : Wv → Value → Prop
  | .d .non, t => t = .type "NoneType"
  | .d (.bl _), t => t = .type "bool"
  | .d (.int _), t => t = .type "int"
  | .d (.str _), t => t = .type "str"
  | .d (.tup _), t => t = .type "tuple"
  | .d (.fz _), t => t = .type "list"
  | .o (.lst _), t => t = .type "list"
  | .o (.dct b _), t => b = false ∧ t = .type "dict"
  | .o (.ins c _), t => t = .ref (gaS K c)
  | .o (.lkd _), _ => False
  | .d (.exn c), t => t = .ref (gaS K c)
  | .d (.ref _), _ => False
/-- what isinstance may be asked of -/
inductive TyE (K : PySem.W.Frag) (H : Hp) (x : V) (t : Value) : Prop
  | old (h : TyX K H x t)
  | exn (C a : Addr) (e1 : x = .ref a) (e2 : H a = some (exT C a)) (e3 : ExcC K C) (e4 : t = .ref C)
theorem kit_ofE {X : Cx} {pins : List (Addr × Obj)} {σ : L2.St} {H : Hp} {s : Shared} {x : V} {u t : Value} (I : Inv X pins σ H s) (rx : RelV x u) (ty : TyE X.K H x t) : ∃ P : Heap → Prop, PySem.W.KitX X.K u t P ∧ P s.heap ∧ u ≠ .builtin "__main__.__loader__#opaque" := by
  cases ty with
  | old h => exact kit_of I rx h
  | exn C a e1 e2 e3 e4 =>
    subst e1 e4
    cases rx
    obtain ⟨⟨oe, vs, h1, ⟨z1, z2⟩, h3⟩, _⟩ := I.hok a _ e2
    have J : PySem.W.InstAt s.heap a oe C none := by
      obtain ⟨oc, od, oda, osl⟩ := oe
      dsimp only at z1 z2 h3
      subst z1 z2 h3
      exact ⟨h1, rfl, rfl, trivial⟩
    exact ⟨_, PySem.W.handS_kitx_exc e3.hg e3.hk e3.hs e3.hd e3.ha e3.hn e3.ht e3.hm, J, fun z => nomatch z⟩
def rIsiE (K : PySem.W.Frag) : List V → Hp → VK → Prop := fun xs H Q => ∃ (x c : V) (t u : Value) (b : Bool), xs = [x, c] ∧ ClsV c u ∧ TyE K H x t ∧ PySem.W.kitOne K t u = some b ∧ Q (.bl b) H
def rIsiTE (K : PySem.W.Frag) : List V → Hp → VK → Prop := fun xs H Q => ∃ (x : V) (tp : Addr) (cs : List V) (t : Value) (us : List Value) (b : Bool), xs = [x, .ref tp] ∧ H tp = some (.tup cs) ∧ Paired ClsV cs us ∧ TyE K H x t ∧ PySem.W.kitAny K t us = some b ∧ Q (.bl b) H
theorem call_isiE {X : Cx} : CallR X (.builtin "isinstance") (rIsiE X.K) := by
  intro pins s σ H xs us Q I r h
  obtain ⟨x, c, t, u, b, rfl, k, ty, e, q⟩ := h
  obtain ⟨u1, u2, rfl, r1, r2⟩ := vals2 r
  have e2 := k.eq r2
  subst e2
  obtain ⟨P, Z, p, hx⟩ := kit_ofE I r1 ty
  exact PySem.W.kia_one Z I.kIn p e hx fun tk => ⟨.bl b, H, I.tok tk, rfl, q⟩
theorem call_isiTE {X : Cx} : CallR X (.builtin "isinstance") (rIsiTE X.K) := by
  intro pins s σ H xs us Q I r h
  obtain ⟨x, tp, cs, t, ws, b, rfl, hT, k, ty, e, q⟩ := h
  obtain ⟨u1, u2, rfl, r1, r2⟩ := vals2 r
  cases (show u2 = Value.ref tp from r2)
  obtain ⟨P, Z, p, hx⟩ := kit_ofE I r1 ty
  obtain ⟨_, its, rv, o, h1, h2, n, h3⟩ := (show ObjOk X.prog X.w H s.heap tp (.tup cs) from I.hok tp _ hT)
  have e3 := ClsV.all k rv
  subst e3
  obtain ⟨oc, od, dt, sl⟩ := o
  simp only at h2 h3
  subst h2 h3
  exact PySem.W.kia_tup Z I.kIn p h1 e hx fun tk => ⟨.bl b, H, I.tok tk, rfl, q⟩
theorem wr_ty {K : PySem.W.Frag} {ρ : List Addr} {H : Hp} {w : Wv} {x : V} (hn : ∀ kvs, w ≠ .o (.dct true kvs)) (hn2 : ∀ kvs, w ≠ .o (.lkd kvs)) (h : WR K ρ H w x) : ∃ t, tyW K w t ∧ TyE K H x t := by
  cases w with
  | d d =>
    obtain ⟨h, n⟩ := h
    cases d with
    | non =>
      cases h
      exact ⟨_, rfl, .old <| .base .non⟩
    | bl b =>
      cases h
      exact ⟨_, rfl, .old <| .base (.bl b)⟩
    | int i =>
      cases h
      exact ⟨_, rfl, .old <| .base (.int i)⟩
    | str z =>
      cases h
      exact ⟨_, rfl, .old <| .base (.str z)⟩
    | tup ds =>
      obtain ⟨a, vs, rfl, hs, hv⟩ := h
      exact ⟨_, rfl, .old <| .base (.tup hs)⟩
    | ref a => exact (n a rfl).elim
    | fz ds =>
      obtain ⟨a, vs, rfl, hs, hv⟩ := h
      rcases hs with ⟨o, hs⟩ | ⟨o, its, n, h, hc, _⟩
      · exact ⟨_, rfl, .old <| .base (.frz hs)⟩
      · exact ⟨_, rfl, .old <| .kList h hc⟩
    | exn c =>
      obtain ⟨a, e1, e2, e3⟩ := h
      exact ⟨_, rfl, .exn _ a e1 e2 e3 rfl⟩
  | o o =>
    obtain ⟨p, rfl, h⟩ := h
    cases o with
    | lst ds =>
      obtain ⟨vs, h1, h2⟩ := h
      exact ⟨_, rfl, .old <| .base (.lst h1)⟩
    | dct t kvs =>
      cases t with
      | false =>
        obtain ⟨ks, h1, h2⟩ := h
        exact ⟨_, ⟨rfl, rfl⟩, .old <| .base (.dK h1)⟩
      | true => exact (hn kvs rfl).elim
    | ins c fs =>
      obtain ⟨dx, vs, h1, h2, h3, h4⟩ := h
      exact ⟨_, rfl, .old <| .base (.ins h1 h3.cl h3.ha h3.hn h3.ht h3.hm)⟩
    | lkd kvs => exact (hn2 kvs rfl).elim
/-- the built-in kinds of values -/
def basics : List String := ["NoneType", "bool", "int", "str", "tuple", "list", "dict"]
/-- a class of refusals -/
structure ExC1 (K : PySem.W.Frag) (mg : Str → Option Value) (sub : String → String → Bool) (c : String) : Prop where
  glo : mg (Str.ofString c) = some (.ref (gaS K c))
  cls : ExcC K (gaS K c)
  exc : PySem.W.excIn K (gaS K c) He.veBase "ValueError.__new__" = true
  keep : PySem.W.keepIn K (.ref (gaS K c)) = true
  sbe : PySem.W.subIn K (.ref (gaS K c)) (.type "BaseException") = some true
  typ : PySem.W.typeIn K (.ref (gaS K c)) = some (.type "type")
  val : PySem.W.kitOne K (.ref (gaS K c)) (.type "ValueError") = some (sub c "ValueError")
  bas : ∀ t ∈ basics, PySem.W.kitOne K (.type t) (.ref (gaS K c)) = some false
  nb : basicT c = false
structure ExF (K : PySem.W.Frag) (mg : Str → Option Value) (sub : String → String → Bool) : Prop where
  one : ∀ c, sub c c = true → ExC1 K mg sub c
  two : ∀ c t, sub c c = true → sub t t = true → PySem.W.exmOne K (.ref (gaS K c)) (.ref (gaS K t)) = some (sub c t) ∧ PySem.W.kitOne K (.ref (gaS K c)) (.ref (gaS K t)) = some (sub c t)
  vfree : mg "ValueError" = none
  vbas : ∀ t ∈ basics, PySem.W.kitOne K (.type t) (.type "ValueError") = some false
/-- a class's name, as it is asked for by isinstance -/
def TyOk (X : Cx) (G : Gam) (t : String) : Prop := ∃ (v : V) (u : Value), (∀ pos, PE X (.Name (Str.ofString t) pos) (tC v)) ∧ ClsV v u ∧ ∀ w b, isiW G.sub G.cl.up w t = some b → ∀ ty, tyW X.K w ty → PySem.W.kitOne X.K ty u = some b
section
variable {X : Cx} {G : Gam} {Wx : WX}
theorem boot_isi : bootBuiltins "isinstance" = some (.builtin "isinstance") := by decide +kernel
theorem ins_no {G : Gam} {c t : String} : True := trivial
theorem se_isi1 {a : E} {ea : Expr} {t : String} {p p2 pos : Pos} (hg : Gl X "isinstance") (hm : X.mg "isinstance" = none) (hn : noStar ea = true) (ht : TyOk X G t) (ha : SE X G a ea) :
    SE X G (.isi a [t]) (.Call (.Name "isinstance" p) [ea, .Name (Str.ofString t) p2] [] pos) := fun Wx tk => by
  obtain ⟨v, u, h1, h2, h3⟩ := ht
  refine PE.imp (pe_callB call_isiE hg hm boot_isi (pa_cons (ha Wx tk) (pa_cons (h1 p2) pa_nil) (star_cons hn)) (by decide) (by decide) (star_cons hn)) ?_
  rintro σ H Q ⟨ρ, st, hR, h⟩
  rw [ev] at h
  refine tE.bind hR h (fun _ _ x => x) fun va st1 v1 H1 ρ1 s1 r1 n1 h => ?_
  cases q1 : rd st1 va with
  | none =>
    rw [q1] at h
    exact h.elim
  | some w =>
    rw [q1] at h
    obtain ⟨r, e, h⟩ := wp_of h
    have hw := rd_sound s1.res r1 q1
    cases q2 : isiW G.sub G.cl.up w t with
    | none =>
      simp [q2] at e
    | some b =>
      obtain ⟨ty, t1, t2⟩ := wr_ty (fun kvs z => by rw [z] at q2; cases q2) (fun kvs z => by rw [z] at q2; cases q2) hw
      simp [q2] at e
      subst e
      exact ⟨v1, v, ty, u, b, rfl, h2, t2, h3 w b q2 ty t1, EQ.fin h s1 (Same.refl H1) rfl⟩
theorem mapM_cons {α β : Type} {f : α → Option β} {a : α} {as : List α} {bs : List β} (h : (a :: as).mapM f = some bs) : ∃ b r, bs = b :: r ∧ f a = some b ∧ as.mapM f = some r := by
  rw [List.mapM_cons] at h
  cases q : f a with
  | none =>
    rw [q] at h
    cases h
  | some b =>
    rw [q] at h
    cases q2 : as.mapM f with
    | none =>
      rw [q2] at h
      cases h
    | some r =>
      rw [q2] at h
      cases h
      exact ⟨b, r, rfl, rfl, rfl⟩
/-- the classes of a tuple, as values -/
theorem tys_pa : ∀ {ts : List String}, (∀ t ∈ ts, TyOk X G t) → ∃ (cs : List V) (us : List Value), cs.length = ts.length ∧ Paired ClsV cs us ∧ (∀ ps : List Pos, ps.length = ts.length → PA X ((ts.zip ps).map fun q => .Name (Str.ofString q.1) q.2) (fun _ H Q => Q cs H)) ∧
    ∀ w bs, ts.mapM (isiW G.sub G.cl.up w) = some bs → ∀ ty, tyW X.K w ty → PySem.W.kitAny X.K ty us = some (bs.any id)
  | [], _ => by
    refine ⟨[], [], rfl, .nil, fun ps hl => ?_, fun w bs e ty _ => ?_⟩
    · cases ps with
      | nil => exact pa_nil
      | cons p ps => cases hl
    · simp at e
      subst e
      rfl
  | t :: ts, h => by
    obtain ⟨v, u, h1, h2, h3⟩ := h t (by simp)
    obtain ⟨cs, us, g0, g1, g2, g3⟩ := tys_pa (ts := ts) fun t' ht => h t' (by simp [ht])
    refine ⟨v :: cs, u :: us, by simp [g0], .cons h2 g1, fun ps hl => ?_, fun w bs e ty k => ?_⟩
    · cases ps with
      | nil => cases hl
      | cons p ps => exact pa_cons (h1 p) (g2 ps (by simpa using hl))
    · obtain ⟨b, r, rfl, e1, e2⟩ := mapM_cons e
      refine kitAny_cons (h3 w b e1 ty k) (fun hb => ?_) fun hb => ?_
      · rw [g3 w r e2 ty k, hb]
        rfl
      · rw [hb]
        rfl
theorem se_isiT {a : E} {ea : Expr} {ts : List String} {ps : List Pos} {p p2 pos : Pos} {k : Nat} (hz : ts.length ≤ 100) (hne : ts ≠ []) (hg : Gl X "isinstance") (hm : X.mg "isinstance" = none) (hn : noStar ea = true) (ht : ∀ t ∈ ts, TyOk X G t) (hl : ps.length = ts.length) (ha : SE X G a ea) :
    SE X G (.isi a ts) (.Call (.Name "isinstance" p) [ea, .Tuple ((ts.zip ps).map fun q => .Name (Str.ofString q.1) q.2) k p2] [] pos) := fun Wx tk => by
  obtain ⟨cs, us, g0, g1, g2, g3⟩ := tys_pa ht
  refine PE.imp (pe_callB call_isiTE hg hm boot_isi (pa_cons (ha Wx tk) (pa_cons (pe_tup (g2 ps hl)) pa_nil) (star_cons hn)) (by decide) (by decide) (star_cons hn)) ?_
  rintro σ H Q ⟨ρ, st, hR, h⟩
  rw [ev] at h
  refine tE.bind hR h (fun _ _ x => x) fun va st1 v1 H1 ρ1 s1 r1 n1 h => ?_
  cases q1 : rd st1 va with
  | none =>
    rw [q1] at h
    exact h.elim
  | some w =>
    rw [q1] at h
    obtain ⟨r, e, h⟩ := wp_of h
    have hlim : (100 : Nat) ≤ sizeLine := by rw [sizeLine_eq]; decide
    refine ⟨by omega, fun q hq => ?_⟩
    have s2 := Step.ext s1.res (same_new (o := .tup cs) hq)
    have hw := rd_sound s2.res (ER.step s1.res s2 r1) q1
    cases q2 : ts.mapM (isiW G.sub G.cl.up w) with
    | none =>
      simp [q2] at e
    | some bs =>
      obtain ⟨ty, t1, t2⟩ := wr_ty (fun kvs z => by
        cases ts with
        | nil => exact hne rfl
        | cons t0 ts =>
          obtain ⟨_, _, _, z2, _⟩ := mapM_cons q2
          rw [z] at z2
          cases z2) (fun kvs z => by
        cases ts with
        | nil => exact hne rfl
        | cons t0 ts =>
          obtain ⟨_, _, _, z2, _⟩ := mapM_cons q2
          rw [z] at z2
          cases z2) hw
      simp [q2] at e
      subst e
      exact ⟨v1, q, cs, ty, us, _, rfl, upd_same, g1, t2, g3 w bs q2 ty t1, EQ.fin h s1 (same_new hq) rfl⟩
end

/-! ### an object is changed -/
section
variable {K : PySem.W.Frag} {ρ ρ1 ρ' : List Addr} {H H1 H' : Hp} {st st1 st' : St} {σ : L2.St}
theorem change_res {vo r : EV} {v : V} {f : O → Option (O × EV)} (hR : Res K ρ H st σ) (hr : ER K ρ H st σ vo v) (e : change vo f st = some (r, st')) :
    ∃ p x y, v = .ref p ∧ OR K ρ H p x ∧ f x = some (y, r) ∧ Dom st σ ρ p ∧ ∀ H', (∀ b, b ≠ p → H' b = H b) → Pers H H' → OR K ρ H' p y → Res K ρ H' st' σ ∧ ∀ a, Dom st' σ ρ a → Dom st σ ρ a := by
  have heap : ∀ {a : Nat} {p : Addr} {x y : O}, ρ[a]? = some p → st.h[a]? = some x → OR K ρ H p x → ∀ H', (∀ b, b ≠ p → H' b = H b) → Pers H H' → OR K ρ H' p y → Res K ρ H' { st with h := st.h.set a y } σ ∧ ∀ b, Dom { st with h := st.h.set a y } σ ρ b → Dom st σ ρ b := fun {a p x y} ha hx hor H' hH ps hy => by
    have hp : p ∈ ρ := List.mem_of_getElem? ha
    refine ⟨⟨⟨by simpa using hR.hr.len, hR.hr.nd, fun i q z h1 h2 => ?_⟩, hR.len, fun i sl h => ?_, hR.sep⟩, fun b d => ?_⟩
    · by_cases hi : i = a
      · subst hi
        rw [ha] at h1
        cases h1
        have hl : i < st.h.length := (List.getElem?_eq_some_iff.mp hx).1
        rw [List.getElem?_set_self hl] at h2
        cases h2
        exact hy
      · rw [List.getElem?_set_ne (Ne.symm hi)] at h2
        have hq : q ≠ p := fun z => by
          subst z
          exact hi ((List.getElem?_inj (List.getElem?_eq_some_iff.mp h1).1 hR.hr.nd).mp (h1.trans ha.symm))
        exact OR.mono (hH q hq) ps (List.prefix_refl _) (hR.hr.obj i q z h1 h2)
    · have z := hR.sl i sl h
      cases sl with
      | un => trivial
      | d x =>
        obtain ⟨v, e1, h1⟩ := z
        exact ⟨v, e1, h1.mono ps (List.prefix_refl _) x v⟩
      | o x =>
        obtain ⟨q, e1, h1, n1⟩ := z
        exact ⟨q, e1, OR.mono (hH q fun z => n1 (z ▸ hp)) ps (List.prefix_refl _) h1, n1⟩
    · rcases d with d | ⟨i, x, h1, h2⟩
      · exact .inl d
      · exact .inr ⟨i, x, h1, h2⟩
  cases vo with
  | d x =>
    cases x with
    | ref a =>
      obtain ⟨p, ha, rfl⟩ := hr
      simp only [change] at e
      cases q : st.h[a]? with
      | none =>
        rw [q] at e
        cases e
      | some x =>
        rw [q] at e
        simp only at e
        cases q2 : f x with
        | none =>
          rw [q2] at e
          cases e
        | some yr =>
          obtain ⟨y, r'⟩ := yr
          rw [q2] at e
          simp only [Option.some.injEq, Prod.mk.injEq] at e
          obtain ⟨rfl, rfl⟩ := e
          have hx := hR.hr.obj a p x ha q
          exact ⟨p, x, y, rfl, hx, q2, (.inl (List.mem_of_getElem? ha)), heap ha q hx⟩
    | _ => cases e
  | o x => cases e
  | it k vs => cases e
  | pl i =>
    have hi : σ[i]? = some (some v) := hr
    simp only [change] at e
    cases q : st.σ[i]? with
    | none =>
      rw [q] at e
      cases e
    | some s =>
      rw [q] at e
      have z := hR.sl i s q
      cases s with
      | un => cases e
      | d x =>
        cases x with
        | ref a =>
          obtain ⟨v', e1, p, ha, e2⟩ := z
          rw [hi] at e1
          cases e1
          subst e2
          simp only at e
          cases q1 : st.h[a]? with
          | none =>
            rw [q1] at e
            cases e
          | some x =>
            rw [q1] at e
            simp only at e
            cases q2 : f x with
            | none =>
              rw [q2] at e
              cases e
            | some yr =>
              obtain ⟨y, r'⟩ := yr
              rw [q2] at e
              simp only [Option.some.injEq, Prod.mk.injEq] at e
              obtain ⟨rfl, rfl⟩ := e
              have hx := hR.hr.obj a p x ha q1
              exact ⟨p, x, y, rfl, hx, q2, (.inl (List.mem_of_getElem? ha)), heap ha q1 hx⟩
        | _ => cases e
      | o x =>
        obtain ⟨p, e1, hx, np⟩ := z
        rw [hi] at e1
        cases e1
        simp only at e
        cases q2 : f x with
        | none =>
          rw [q2] at e
          cases e
        | some yr =>
          obtain ⟨y, r'⟩ := yr
          rw [q2] at e
          simp only [Option.some.injEq, Prod.mk.injEq] at e
          obtain ⟨rfl, rfl⟩ := e
          refine ⟨p, x, y, rfl, hx, q2, .inr ⟨i, x, q, hi⟩, fun H' hH ps hy => ?_⟩
          have hlt : i < st.σ.length := (List.getElem?_eq_some_iff.mp q).1
          have old : ∀ {j : Nat} {z : O}, (st.σ.set i (.o y))[j]? = some (.o z) → (j = i ∧ z = y) ∨ (j ≠ i ∧ st.σ[j]? = some (.o z)) := fun {j z} h => by
            by_cases hj : j = i
            · subst hj
              rw [List.getElem?_set_self hlt] at h
              cases h
              exact .inl ⟨rfl, rfl⟩
            · rw [List.getElem?_set_ne (Ne.symm hj)] at h
              exact .inr ⟨hj, h⟩
          refine ⟨⟨⟨hR.hr.len, hR.hr.nd, fun j q' z h1 h2 => ?_⟩, by simpa [St.set] using hR.len, fun j sl h => ?_, fun j k a b w hjk h1 h2 h3 h4 => ?_⟩, fun b d => ?_⟩
          · exact OR.mono (hH q' fun z => np (z ▸ List.mem_of_getElem? h1)) ps (List.prefix_refl _) (hR.hr.obj j q' z h1 h2)
          · have h : (st.σ.set i (.o y))[j]? = some sl := h
            by_cases hj : j = i
            · subst hj
              rw [List.getElem?_set_self hlt] at h
              cases h
              exact ⟨p, hi, hy, np⟩
            · rw [List.getElem?_set_ne (Ne.symm hj)] at h
              have z := hR.sl j sl h
              cases sl with
              | un => trivial
              | d x =>
                obtain ⟨v, e1, h1⟩ := z
                exact ⟨v, e1, h1.mono ps (List.prefix_refl _) x v⟩
              | o x' =>
                obtain ⟨q', e1, h1, n1⟩ := z
                refine ⟨q', e1, OR.mono (hH q' fun z => ?_) ps (List.prefix_refl _) h1, n1⟩
                subst z
                exact hR.sep j i x' x q' hj h q e1 hi
          · rcases old h1 with ⟨a1, a2⟩ | ⟨a1, a2⟩ <;> rcases old h2 with ⟨b1, b2⟩ | ⟨b1, b2⟩
            · exact hjk (a1.trans b1.symm)
            · subst a1
              exact hR.sep j k x b w hjk q b2 h3 h4
            · subst b1
              exact hR.sep j k a x w hjk a2 q h3 h4
            · exact hR.sep j k a b w hjk a2 b2 h3 h4
          · rcases d with d | ⟨j, z, h1, h2⟩
            · exact .inl d
            · rcases old h1 with ⟨a1, a2⟩ | ⟨a1, a2⟩
              · subst a1
                exact .inr ⟨j, x, q, h2⟩
              · exact .inr ⟨j, z, a2, h2⟩
theorem change_sound {vo r : EV} {v : V} {f : O → Option (O × EV)} (hlk : ∀ kvs, f (.lkd kvs) = none) (hR : Res K ρ H st σ) (hr : ER K ρ H st σ vo v) (e : change vo f st = some (r, st')) :
    ∃ p x y, v = .ref p ∧ OR K ρ H p x ∧ f x = some (y, r) ∧ ∀ H', (∀ b, b ≠ p → H' b = H b) → (Pers H H' → OR K ρ H' p y) → Step K ρ H st σ ρ H' st' σ := by
  obtain ⟨p, x, y, e1, hx, q2, hp, k⟩ := change_res hR hr e
  refine ⟨p, x, y, e1, hx, q2, fun H' hH hy => ?_⟩
  have nf := hx.nfrz fun kvs z => by rw [z, hlk] at q2; cases q2
  have ps : Pers H H' := by
    obtain ⟨o, e1, n1, n2, n3⟩ := hx.there
    refine ⟨fun a xs h => ?_, fun a ob u _ h => ?_, fun a φ h => ?_⟩
    · rw [hH a fun z => by subst z; rw [h] at e1; cases e1; exact n1 xs rfl]
      exact h
    · rw [hH a fun z => nf ob u (z ▸ h)]
      exact h
    · rw [hH a fun z => by subst z; rw [h] at e1; cases e1; exact n3 φ rfl]
      exact h
  obtain ⟨g1, g2⟩ := k H' hH ps (hy ps)
  exact ⟨g1, List.prefix_refl _, fun a o e n => by rw [hH a fun z => n (z ▸ hp)]; exact e, fun a d => .inl (g2 a d), fun a o u e => by rw [hH a fun z => nf o u (z ▸ e)]; exact e⟩
end

/-! ### methods of lists -/
def notCall0 : Expr → Bool
  | .Call _ [] _ _ => false
  | _ => true
theorem base_ok {o : Expr} {m : Str} {env : Env} (h : notCall0 o = true) : attributeBase o m env (eval o env) = eval o env := by
  cases o with
  | Call f args kws pos =>
    cases args with
    | nil => cases h
    | cons a as => cases f <;> rfl
  | _ => rfl
theorem few_ok {e : Expr} {es : List Expr} {env : Env} {pos : Pos} (h : (e :: es).all noStar = true) (hl : es.length ≤ 20) :
    ((backTo pos (starEach (e :: es) env)).all (fun x => !x.1) && (backToKw pos (keywordEach [] env)).all (fun x => x.1.isSome)
      && decide ((e :: es).length + ([] : List Keyword).length + (if ([] : List Keyword).isEmpty then 0 else 1) < 30)) = true := by
  rw [star_few h]
  simp only [Bool.true_and, Bool.and_eq_true, decide_eq_true_eq]
  refine ⟨rfl, ?_⟩
  simp
  omega
section
variable {X : Cx} {G : Gam} {Wx : WX}
theorem tE.mono {f : St → Out EV} {σ : L2.St} {H : Hp} {Q Q' : VK} (h : tE X f Wx σ H Q) (q : ∀ x H1, Q x H1 → Q' x H1) : tE X f Wx σ H Q' := by
  obtain ⟨ρ, st, hR, h⟩ := h
  exact ⟨ρ, st, hR, h.mono (fun r st1 h v H1 ρ1 s hr hn => q _ _ (h v H1 ρ1 s hr hn)) fun _ _ x => x⟩
theorem tA.mono {f : St → Out (List EV)} {σ : L2.St} {H : Hp} {Q Q' : List V → Hp → Prop} (h : tA X f Wx σ H Q) (q : ∀ x H1, Q x H1 → Q' x H1) : tA X f Wx σ H Q' := by
  obtain ⟨ρ, st, hR, h⟩ := h
  exact ⟨ρ, st, hR, h.mono (fun r st1 h v H1 ρ1 s hr hn => q _ _ (h v H1 ρ1 s hr hn)) fun _ _ x => x⟩
theorem mutO_lst {m : String} {ds : List D} {o y : O} {r : EV} {H : Hp} {p : Addr} {K : PySem.W.Frag} {ρ : List Addr} (hm : m ≠ "get" ∧ m ≠ "setdefault") (h : OR K ρ H p o) (e : mutO m ds o = some (y, r)) : ∃ xs zs d, o = .lst xs ∧ y = .lst zs ∧ r = .d d := by
  cases o with
  | lst xs =>
    simp only [mutO] at e
    split at e
    · split at e
      · cases e
        exact ⟨_, _, _, rfl, rfl, rfl⟩
      · cases e
    · cases e
      exact ⟨_, _, _, rfl, rfl, rfl⟩
    · split at e
      · cases e
        exact ⟨_, _, _, rfl, rfl, rfl⟩
      · cases e
    · split at e
      · cases e
        exact ⟨_, _, _, rfl, rfl, rfl⟩
      · cases e
    · cases e
  | dct t kvs =>
    simp only [mutO] at e
    split at e
    · exact (hm.1 rfl).elim
    · exact (hm.2 rfl).elim
    · cases e
  | ins c fs => cases e
  | lkd kvs => cases e
theorem tE_meth {m : String} {o : E} {ms : List E} {σ : L2.St} {H : Hp} {Q : VK} (hm : m ≠ "get" ∧ m ≠ "setdefault") (hk : ∀ w, methOk m ms.length w = true → ∃ xs, w = .o (.lst xs)) (h : tE X (ev G (.meth m o ms)) Wx σ H Q) :
    tE X (ev G o) Wx σ H (fun x H1 => tyV X.K "list" x H1 ∧ tA X (evs G ms) Wx σ H1 fun vs H2 => ∃ (p : Addr) (xs ds zs : List D) (d : D) (ρ2 : List Addr) (xv : List V), x = .ref p ∧ vs.length = ms.length ∧ H2 p = some (.lst xv) ∧ VRs X.K ρ2 H2 xs xv ∧ VRs X.K ρ2 H2 ds vs ∧ mutO m ds (.lst xs) = some (.lst zs, .d d) ∧
      ∀ ws v, (∀ H', Pers H2 H' → VRs X.K ρ2 H' zs ws) → (∀ H', Pers H2 H' → VR X.K ρ2 H' d v) → Q v (upd H2 p (.lst ws))) := by
  obtain ⟨ρ, st, hR, h⟩ := h
  rw [ev] at h
  refine tE.bind hR h (fun _ _ x => x) fun vo st1 v1 H1 ρ1 s1 r1 n1 h => ?_
  split at h
  · rename_i hk1
    refine ⟨?_, ?_⟩
    · cases q : rd st1 vo with
      | none =>
        rw [q] at hk1
        cases hk1
      | some w =>
        rw [q] at hk1
        obtain ⟨xs, rfl⟩ := hk w hk1
        obtain ⟨p, rfl, vs, h1, h2⟩ := rd_sound s1.res r1 q
        exact .inl ⟨rfl, vs, .of h1⟩
    · refine tA.bindE s1.res h (fun _ _ x => x.back s1) fun rs st2 vs H2 ρ2 e0 s2 r2 n2 h => ?_
      obtain ⟨ds, st3, e, h⟩ := wp_of2 (Wp.bind.mp h)
      obtain ⟨ρ3, s3, _, hv⟩ := toDs_sound s2 r2 n2 e
      split at h
      case isFalse => exact h.elim
      obtain ⟨r, st4, e4, h⟩ := wp_of2 h
      have r1' := ER.step s1.res s3 r1
      obtain ⟨p, o', y, rfl, ho, hf, k⟩ := change_sound (fun kvs => rfl) s3.res r1' e4
      obtain ⟨xs, zs, d, rfl, rfl, rfl⟩ := mutO_lst hm ho hf
      obtain ⟨xv, g1, g2⟩ := ho
      refine ⟨p, xs, ds, zs, d, ρ3, xv, rfl, ?_, g1, g2, hv, hf, fun ws v a1 a2 => ?_⟩
      · have l1 := hv.length
        rw [l1, toDs_length e, evs_length e0]
      · have s4 := k (upd H2 p (.lst ws)) (fun b hb => upd_ne hb) fun ps => ⟨ws, upd_same, a1 _ ps⟩
        exact h v _ ρ3 ((s1.trans s3).trans s4) (a2 _ (Step.pers s3.res s4)) fun x p e _ => nomatch e
  · exact h.elim
theorem tE_sm {m : String} {o : E} {ms : List E} {σ : L2.St} {H : Hp} {Q : VK} (h : tE X (ev G (.sm m o ms)) Wx σ H Q) :
    tE X (ev G o) Wx σ H fun x H1 => (∃ a, x = .str a) ∧ tA X (evs G ms) Wx σ H1 fun us H2 => ∃ (a : Str) (ρ2 : List Addr) (st2 : St) (vs : List EV) (r : EV), x = .str a ∧ Res X.K ρ2 H2 st2 σ ∧ ERl X.K ρ2 H2 st2 σ vs us ∧ smS m a st2 vs = some r ∧ vs.length = ms.length ∧ ∀ v H', Same H2 H' → NewR X.K ρ2 H2 r H' v → Q v H' := by
  obtain ⟨ρ, st, hR, h⟩ := h
  rw [ev] at h
  refine tE.bind hR h (fun _ _ x => x) fun vo st1 v1 H1 ρ1 s1 r1 n1 h => ?_
  cases vo with
  | d x =>
    cases x with
    | str a =>
      cases (show v1 = .str a from r1)
      refine ⟨⟨a, rfl⟩, ?_⟩
      refine tA.bindE s1.res h (fun _ _ x => x.back s1) fun rs st2 vs H2 ρ2 e0 s2 r2 n2 h => ?_
      obtain ⟨r, e, h⟩ := wp_of h
      exact ⟨a, ρ2, st2, rs, r, rfl, s2.res, r2.erl, e, evs_length e0, fun v H' e n => EQ.fin h (s1.trans s2) e n⟩
    | _ => exact h.elim
  | _ => exact h.elim
theorem VRs.len1 {K : PySem.W.Frag} {ρ : List Addr} {H : Hp} {ds : List D} {vs : List V} (h : VRs K ρ H ds vs) {β : Type} {y : β} (hl : vs.length = [y].length) : ∃ d v, ds = [d] ∧ vs = [v] ∧ VR K ρ H d v := by
  have e := h.length
  rw [hl] at e
  cases ds with
  | nil => cases e
  | cons d ds =>
    cases ds with
    | nil =>
      obtain ⟨v, r, rfl, h1, h2⟩ := h
      have e2 : r = [] := h2
      subst e2
      exact ⟨d, v, rfl, rfl, h1⟩
    | cons d' ds => simp at e
theorem VRs.pers {K : PySem.W.Frag} {ρ : List Addr} {H H' : Hp} {ds : List D} {vs : List V} (h : VRs K ρ H ds vs) (p : Pers H H') : VRs K ρ H' ds vs := h.mono p (List.prefix_refl _) ds vs
theorem se_append {o a : E} {eo ea : Expr} {apos pos : Pos} (hb : notCall0 eo = true) (hn : noStar ea = true) (hline : (apos.endLine == pos.line) = true) (ho : SE X G o eo) (ha : SE X G a ea) :
    SE X G (.meth "append" o [a]) (.Call (.Attribute eo "append" apos) [ea] [] pos) := fun Wx tk => by
  refine PE.imp (pe_bm PySem.F.plainAttrs_list PySem.F.slot_list_append PySem.F.type_list_append mt_append (ho Wx tk) (sa_cons (star_cons hn) ha sa_nil Wx tk) (base_ok hb) (few_ok (by simp [hn]) (by simp)) hline (star_cons hn)) ?_
  intro σ H Q h
  have hlim := lim_line
  refine tE.mono (tE_meth (by decide) (fun w e => ?_) h) fun x H1 ⟨h1, h2⟩ => ⟨h1, tA.mono h2 fun vs H2 h3 => ?_⟩
  · cases w with
    | d d => cases d <;> simp [methOk] at e
    | o o =>
      cases o with
      | lst xs => exact ⟨xs, rfl⟩
      | dct t kvs => simp [methOk] at e
      | ins c fs => simp [methOk] at e
      | lkd kvs => simp [methOk] at e
  · obtain ⟨p, xs, ds, zs, d, ρ2, xv, rfl, hl, g1, g2, g3, g4, k⟩ := h3
    obtain ⟨y, v, rfl, rfl, hy⟩ := g3.len1 hl
    simp only [mutO] at g4
    split at g4
    · rename_i hz
      cases g4
      have l2 := g2.length
      exact ⟨p, xv, v, rfl, rfl, g1, by omega, k _ _ (fun H' ps => (g2.pers ps).append (.cons (hy.mono ps (List.prefix_refl _) y v) .nil)) fun H' ps => rfl⟩
    · cases g4
theorem se_clear {o : E} {eo : Expr} {apos pos : Pos} (hb : notCall0 eo = true) (hline : (apos.endLine == pos.line) = true) (ho : SE X G o eo) :
    SE X G (.meth "clear" o []) (.Call (.Attribute eo "clear" apos) [] [] pos) := fun Wx tk => by
  refine PE.imp (pe_bm0 PySem.F.plainAttrs_list PySem.F.slot_list_clear PySem.F.type_list_clear mt_clear (ho Wx tk) (base_ok hb) hline) ?_
  intro σ H Q h
  refine tE.mono (tE_meth (by decide) (fun w e => ?_) h) fun x H1 ⟨h1, h2⟩ => ⟨h1, ?_⟩
  · cases w with
    | d d => cases d <;> simp [methOk] at e
    | o o =>
      cases o with
      | lst xs => exact ⟨xs, rfl⟩
      | dct t kvs => simp [methOk] at e
      | ins c fs => simp [methOk] at e
      | lkd kvs => simp [methOk] at e
  · obtain ⟨ρ, st, hR, h2⟩ := h2
    simp only [evs] at h2
    obtain ⟨p, xs, ds, zs, d, ρ2, xv, rfl, hl, g1, g2, g3, g4, k⟩ := h2 [] H1 ρ (Step.refl hR) rfl (fun j x p e => by simp at e)
    have e : ds = [] := g3.eq_nil.mp rfl
    subst e
    simp only [mutO] at g4
    cases g4
    exact ⟨p, xv, rfl, rfl, g1, k _ _ (fun H' ps => rfl) fun H' ps => rfl⟩
theorem se_insert {o a b : E} {eo ea eb : Expr} {apos pos : Pos} (hb : notCall0 eo = true) (hn : noStar ea = true) (hn2 : noStar eb = true) (hline : (apos.endLine == pos.line) = true) (ho : SE X G o eo) (ha : SE X G a ea) (hbb : SE X G b eb) :
    SE X G (.meth "insert" o [a, b]) (.Call (.Attribute eo "insert" apos) [ea, eb] [] pos) := fun Wx tk => by
  refine PE.imp (pe_bm PySem.F.plainAttrs_list PySem.F.slot_list_insert PySem.F.type_list_insert mt_insert (ho Wx tk) (sa_cons (star_cons hn) ha (sa_cons (star_cons hn2) hbb sa_nil) Wx tk) (base_ok hb) (few_ok (by simp [hn, hn2]) (by simp)) hline (star_cons hn) (star_plain (by simp [hn2]))) ?_
  intro σ H Q h
  have hlim := lim_line
  refine tE.mono (tE_meth (by decide) (fun w e => ?_) h) fun x H1 ⟨h1, h2⟩ => ⟨h1, tA.mono h2 fun vs H2 h3 => ?_⟩
  · cases w with
    | d d => cases d <;> simp [methOk] at e
    | o o =>
      cases o with
      | lst xs => exact ⟨xs, rfl⟩
      | dct t kvs => simp [methOk] at e
      | ins c fs => simp [methOk] at e
      | lkd kvs => simp [methOk] at e
  · obtain ⟨p, xs, ds, zs, d, ρ2, xv, rfl, hl, g1, g2, g3, g4, k⟩ := h3
    have e := g3.length
    rw [hl] at e
    match ds, e, g3 with
    | [d1, d2], _, g3 =>
      obtain ⟨v1, r, rfl, y1, g3⟩ := g3
      obtain ⟨v2, r, rfl, y2, g3⟩ := g3
      have e : r = [] := g3
      subst e
      cases d1 with
      | int i =>
        cases (show v1 = .int i from y1)
        simp only [mutO] at g4
        split at g4
        · rename_i hz
          cases g4
          obtain ⟨z1, z2, z3⟩ := hz
          have l2 := g2.length
          refine ⟨p, xv, i, v2, rfl, rfl, g1, by omega, z2, by have : lim = 1000000 := rfl; omega, k _ _ (fun H' ps => ?_) fun H' ps => rfl⟩
          rw [List.append_assoc]
          exact ((g2.pers ps).take _).append ((VRs.cons (y2.mono ps (List.prefix_refl _) d2 v2) .nil).append ((g2.pers ps).drop _))
        · cases g4
      | _ => cases g4
theorem se_dcl {o : E} {eo : Expr} {apos pos : Pos} (hb : notCall0 eo = true) (hline : (apos.endLine == pos.line) = true) (ho : SE X G o eo) :
    SE X G (.dcl o) (.Call (.Attribute eo "clear" apos) [] [] pos) := fun Wx tk => by
  refine PE.imp (pe_dclear (ho Wx tk) (base_ok hb) hline) ?_
  rintro σ H Q ⟨ρ, st, hR, h⟩
  rw [ev] at h
  refine tE.bind hR h (fun _ _ x => x) fun vo st1 v1 H1 ρ1 s1 r1 n1 h => ?_
  obtain ⟨r, st2, e, h⟩ := wp_of2 h
  obtain ⟨p, x, y, rfl, ho, hf, k⟩ := change_sound (fun kvs => rfl) s1.res r1 e
  cases x with
  | dct t kvs =>
    cases t with
    | true => cases hf
    | false =>
      cases hf
      obtain ⟨ks, g1, g2⟩ := ho
      refine ⟨.inr (.inr (.inl ⟨rfl, .inl ⟨ks, g1⟩⟩)), p, ks, rfl, rfl, g1, ?_⟩
      exact h .non _ ρ1 (s1.trans (k (upd H1 p (.dK [])) (fun b hb => upd_ne hb) fun ps => ⟨[], upd_same, rfl⟩)) rfl fun x p e _ => nomatch e
  | _ => cases hf
theorem se_pop {o : E} {eo : Expr} {apos pos : Pos} (hb : notCall0 eo = true) (hline : (apos.endLine == pos.line) = true) (ho : SE X G o eo) :
    SE X G (.meth "pop" o []) (.Call (.Attribute eo "pop" apos) [] [] pos) := fun Wx tk => by
  refine PE.imp (pe_bm0 PySem.F.plainAttrs_list PySem.F.slot_list_pop PySem.F.type_list_pop mt_pop (ho Wx tk) (base_ok hb) hline) ?_
  intro σ H Q h
  refine tE.mono (tE_meth (by decide) (fun w e => ?_) h) fun x H1 ⟨h1, h2⟩ => ⟨h1, ?_⟩
  · cases w with
    | d d => cases d <;> simp [methOk] at e
    | o o =>
      cases o with
      | lst xs => exact ⟨xs, rfl⟩
      | dct t kvs => simp [methOk] at e
      | ins c fs => simp [methOk] at e
      | lkd kvs => simp [methOk] at e
  · obtain ⟨ρ, st, hR, h2⟩ := h2
    simp only [evs] at h2
    obtain ⟨p, xs, ds, zs, d, ρ2, xv, rfl, hl, g1, g2, g3, g4, k⟩ := h2 [] H1 ρ (Step.refl hR) rfl (fun j x p e => by simp at e)
    have e : ds = [] := g3.eq_nil.mp rfl
    subst e
    simp only [mutO] at g4
    split at g4
    · rename_i y hy
      cases g4
      have hy' : xs[xs.length - 1]? = some d := by rw [← List.getLast?_eq_getElem?]; exact hy
      obtain ⟨v, e1, e2⟩ := g2.get hy'
      have l := g2.length
      refine ⟨p, xv, v, rfl, rfl, g1, by rw [l]; exact e1, k _ _ (fun H' ps => ?_) fun H' ps => e2.mono ps (List.prefix_refl _) d v⟩
      rw [List.dropLast_eq_take, List.dropLast_eq_take, l]
      exact (g2.pers ps).take _
    · cases g4
theorem se_upper {o : E} {eo : Expr} {apos pos : Pos} (hb : notCall0 eo = true) (hline : (apos.endLine == pos.line) = true) (ho : SE X G o eo) :
    SE X G (.sm "upper" o []) (.Call (.Attribute eo "upper" apos) [] [] pos) := fun Wx tk => by
  refine PE.imp (pe_upper (ho Wx tk) (base_ok hb) hline) ?_
  intro σ H Q h
  refine tE.mono (tE_sm h) fun x H1 ⟨h1, h2⟩ => ⟨h1, ?_⟩
  obtain ⟨ρ, st, hR, h2⟩ := h2
  simp only [evs] at h2
  obtain ⟨a, ρ2, st2, vs, r, rfl, g1, g2, g3, g4, k⟩ := h2 [] H1 ρ (Step.refl hR) rfl (fun j x p e => by simp at e)
  have e : vs = [] := List.length_eq_zero_iff.mp g4
  subst e
  simp only [smS] at g3
  split at g3
  · rename_i hz
    cases g3
    exact ⟨a, rfl, rfl, by unfold lim at hz; omega, k _ H1 (Same.refl H1) rfl⟩
  · cases g3
theorem tA.one {a : E} {σ : L2.St} {H : Hp} {Q : List V → Hp → Prop} (h : tA X (evs G [a]) Wx σ H Q) : tE X (ev G a) Wx σ H fun y H1 => Q [y] H1 := by
  obtain ⟨ρ, st, hR, h⟩ := h
  simp only [evs] at h
  refine tE.bind hR h (fun _ _ x => x) fun r st1 v H1 ρ1 s1 r1 n1 h => ?_
  exact h [v] H1 ρ1 s1 ⟨v, [], rfl, r1, rfl, fun x p e1 e2 j y e3 e4 => by simp at e3⟩ fun j x p e1 e2 => by
    cases j with
    | zero =>
      simp at e1 e2
      exact n1 x p e1 e2
    | succ j => simp at e1
theorem se_find {o a : E} {eo ea : Expr} {apos pos : Pos} (hb : notCall0 eo = true) (hn : noStar ea = true) (hline : (apos.endLine == pos.line) = true) (ho : SE X G o eo) (ha : SE X G a ea) :
    SE X G (.sm "find" o [a]) (.Call (.Attribute eo "find" apos) [ea] [] pos) := fun Wx tk => by
  refine PE.imp (pe_m1 PySem.F.slot_str_find PySem.F.type_str_find mt_find (ho Wx tk) (ha Wx tk) (by rw [star_cons hn]; rfl) (base_ok hb) hline) ?_
  intro σ H Q h
  refine tE.mono (tE_sm h) fun x H1 ⟨h1, h2⟩ => ⟨h1, tE.mono (tA.one h2) fun y H2 h3 => ?_⟩
  obtain ⟨a, ρ2, st2, vs, r, rfl, g1, g2, g3, g4, k⟩ := h3
  match vs, g4 with
  | [v], _ =>
    obtain ⟨y', e, g2⟩ := g2.one
    cases e
    simp only [smS] at g3
    split at g3
    · rename_i z hz
      cases g3
      obtain ⟨rfl, _⟩ := rd_sound g1 g2 hz
      exact ⟨a, z, rfl, rfl, k _ H2 (Same.refl H2) rfl⟩
    · cases g3
theorem se_join {o a : E} {eo ea : Expr} {apos pos : Pos} (hb : notCall0 eo = true) (hn : noStar ea = true) (hline : (apos.endLine == pos.line) = true) (ho : SE X G o eo) (ha : SE X G a ea) :
    SE X G (.sm "join" o [a]) (.Call (.Attribute eo "join" apos) [ea] [] pos) := fun Wx tk => by
  refine PE.imp (pe_m1 PySem.F.slot_str_join PySem.F.type_str_join mt_join (ho Wx tk) (ha Wx tk) (by rw [star_cons hn]; rfl) (base_ok hb) hline) ?_
  intro σ H Q h
  refine tE.mono (tE_sm h) fun x H1 ⟨h1, h2⟩ => ⟨h1, tE.mono (tA.one h2) fun y H2 h3 => ?_⟩
  obtain ⟨a, ρ2, st2, vs, r, rfl, g1, g2, g3, g4, k⟩ := h3
  match vs, g4 with
  | [v], _ =>
    obtain ⟨y', e, g2⟩ := g2.one
    cases e
    simp only [smS] at g3
    split at g3
    · rename_i ds hz
      obtain ⟨p, rfl, ws, hp, hv⟩ := rd_sound g1 g2 hz
      cases e2 : strsD ds with
      | none =>
        rw [e2] at g3
        cases g3
      | some ys =>
        rw [e2] at g3
        simp only [Option.bind_some] at g3
        split at g3
        · rename_i hl
          cases g3
          have e3 := strs_of e2
          subst e3
          have e4 := VRs.strs hv
          subst e4
          refine ⟨a, p, ys, rfl, rfl, .inl (.of hp), ?_, k _ H2 (Same.refl H2) rfl⟩
          unfold lim at hl
          omega
        · cases g3
    · cases g3
theorem se_dct0 {t : Bool} {pos : Pos} {vs : List E} : SE X G (.dct t [] vs) (.Dict [] [] pos) := fun Wx tk => by
  cases t with
  | false =>
    refine PE.imp pe_dnewK ?_
    rintro σ H Q ⟨ρ, st, hR, h⟩
    rw [ev] at h
    simp only [evs, Out.bind_ok, toDs, Out.of2_some, mkDct] at h
    intro p hp
    exact EQ.fin h (Step.refl hR) (same_new hp) ⟨p, rfl, hp, [], upd_same, rfl⟩
  | true =>
    refine PE.imp pe_dnewT ?_
    rintro σ H Q ⟨ρ, st, hR, h⟩
    rw [ev] at h
    simp only [evs, Out.bind_ok, toDs, Out.of2_some, mkDct] at h
    intro p hp
    exact EQ.fin h (Step.refl hR) (same_new hp) ⟨p, rfl, hp, [], upd_same, rfl⟩
end
end EW

-- part: SoundD
set_option maxHeartbeats 1000000
/-! dicts, extend, max with a default -/
namespace EW
open PySem PySem.Spec PyProof.Rows L2
section
variable {κ : Type} [DecidableEq κ] {f : D → Option κ} {K : PySem.W.Frag} {ρ : List Addr} {H : Hp} {d x : D} {k : κ} {z : V}
theorem KVs.any (hk : f d = some k) : ∀ {kvs : List (D × D)} {ks : List (κ × V)}, KVs K ρ H f kvs ks → (kvs.any fun p => decide (f p.1 = f d)) = ks.any fun q => decide (q.1 = k)
  | [], ks, h => by
    have e : ks = [] := h
    subst e
    rfl
  | q :: r, ks, h => by
    obtain ⟨k', v, t, rfl, h1, h2, h3⟩ := h
    rw [List.any_cons, List.any_cons, KVs.any hk h3, h1, hk]
    congr 1
    simp
theorem KVs.renew (hk : f d = some k) (hx : VR K ρ H x z) (kvs : List (D × D)) : ∀ {ks : List (κ × V)}, KVs K ρ H f kvs ks → KVs K ρ H f (kvs.map fun p => if f p.1 = f d then (p.1, x) else p) (ks.map fun q => if q.1 = k then (q.1, z) else q) := by
  induction kvs with
  | nil =>
    intro ks h
    have e : ks = [] := h
    subst e
    rfl
  | cons q r ih =>
    intro ks h
    obtain ⟨k', v, t, rfl, h1, h2, h3⟩ := h
    rw [List.map_cons, List.map_cons]
    by_cases c : k' = k
    · subst c
      rw [if_pos (by rw [h1, hk]), if_pos rfl]
      exact ⟨_, _, _, rfl, h1, hx, ih h3⟩
    · rw [if_neg (by rw [h1, hk]; simpa using c), if_neg c]
      exact ⟨_, _, _, rfl, h1, h2, ih h3⟩
theorem KVs.snoc (hk : f d = some k) (hx : VR K ρ H x z) : ∀ {kvs : List (D × D)} {ks : List (κ × V)}, KVs K ρ H f kvs ks → KVs K ρ H f (kvs ++ [(d, x)]) (ks ++ [(k, z)])
  | [], ks, h => by
    have e : ks = [] := h
    subst e
    exact ⟨k, z, [], rfl, hk, hx, rfl⟩
  | q :: r, ks, h => by
    obtain ⟨k', v, t, rfl, h1, h2, h3⟩ := h
    exact ⟨k', v, _, rfl, h1, h2, KVs.snoc hk hx h3⟩
theorem KVs.put (hk : f d = some k) (hx : VR K ρ H x z) {kvs : List (D × D)} {ks : List (κ × V)} (h : KVs K ρ H f kvs ks) :
    KVs K ρ H f (if (kvs.any fun p => decide (f p.1 = f d)) = true then kvs.map fun p => if f p.1 = f d then (p.1, x) else p else kvs ++ [(d, x)]) (putK ks k z) := by
  unfold putK
  rw [h.any hk]
  split
  · exact KVs.renew hk hx kvs h
  · exact h.snoc hk hx
end
theorem dput_f (kvs : List (D × D)) (d x : D) : dput false kvs d x = if (kvs.any fun p => decide (fkey p.1 = fkey d)) = true then kvs.map fun p => if fkey p.1 = fkey d then (p.1, x) else p else kvs ++ [(d, x)] := by
  have e : ∀ p : D × D, (kkey false p.1 = kkey false d) = (fkey p.1 = fkey d) := fun p => by
    unfold kkey
    simp only [Bool.false_eq_true, if_false]
    cases fkey p.1 <;> cases fkey d <;> simp
  unfold dput
  simp only [e]
theorem dput_t (kvs : List (D × D)) (d x : D) : dput true kvs d x = if (kvs.any fun p => decide (tkey p.1 = tkey d)) = true then kvs.map fun p => if tkey p.1 = tkey d then (p.1, x) else p else kvs ++ [(d, x)] := rfl
/-- a dict is written -/
theorem OR.put {K : PySem.W.Frag} {ρ : List Addr} {H : Hp} {p : Addr} {t : Bool} {kvs : List (D × D)} {d x : D} {v z : V} (h : OR K ρ H p (.dct t kvs)) (hd : VR K ρ H d v) (hx : VR K ρ H x z) (hk : (kkey t d).isSome = true) (hl : kvs.length < sizeLine) :
    ∃ H', DPut H p v z H' ∧ (∀ b, b ≠ p → H' b = H b) ∧ (Pers H H' → OR K ρ H' p (.dct t (dput t kvs d x))) := by
  cases t with
  | false =>
    obtain ⟨ks, h1, h2⟩ := h
    obtain ⟨k, hk⟩ := kkey_some hk
    have e := fkey_V hd hk
    subst e
    refine ⟨_, DPut.k h1 (by rw [← h2.rows.1]; exact hl), fun b hb => upd_ne hb, fun ps => ?_⟩
    rw [dput_f]
    exact ⟨_, upd_same, (h2.put hk hx).mono ps (List.prefix_refl _)⟩
  | true =>
    obtain ⟨ks, h1, h2⟩ := h
    obtain ⟨ds, k, rfl, hk1, hk2⟩ := tkey_some hk
    obtain ⟨b, vs, rfl, hb, hv⟩ := hd
    have e := fkeys_V hv hk1
    subst e
    refine ⟨_, DPut.t h1 hb (by rw [← h2.rows.1]; exact hl), fun b hb => upd_ne hb, fun ps => ?_⟩
    rw [dput_t]
    exact ⟨_, upd_same, (h2.put hk2 hx).mono ps (List.prefix_refl _)⟩
section
variable {X : Cx} {G : Gam} {Wx : WX}
theorem mt_dget (hu : Deep X) : MtR X "dict.get" (fun x xs H Q => ∃ a y z o, x = .ref a ∧ xs = [y, z] ∧ DGet H a y o ∧ Q (o.getD z) H) := by
  intro pins s σ H x xs v us Q I rx rs ⟨a, y, z, o, ex, exs, g, q⟩
  subst ex exs
  cases rx
  obtain ⟨u1, u2, rfl, r1, r2⟩ := vals2 rs
  unfold Deep at hu
  exact d_get2 (by omega) I g r1 r2 fun w' s' I' rw' => ⟨_, H, I', rw', q⟩
theorem mt_dsetd : MtR X "dict.setdefault" (fun x xs H Q => ∃ a y z kvs k, x = .ref a ∧ xs = [y, z] ∧ H a = some (.dK kvs) ∧ y = kV k ∧ kvs.length < sizeLine ∧ (∀ v, valV kvs k = some v → Q v H) ∧ (valV kvs k = none → Q z (upd H a (.dK (putK kvs k z))))) := by
  intro pins s σ H x xs v us Q I rx rs ⟨a, y, z, kvs, k, ex, exs, ha, ey, hl, q1, q2⟩
  subst ex exs ey
  cases rx
  obtain ⟨u1, u2, rfl, r1, r2⟩ := vals2 rs
  exact d_setd I ha r1 r2 hl (fun v hv w' s' I' r => ⟨v, H, I', r, q1 v hv⟩) fun hn w' s' I' r => ⟨z, _, I', r, q2 hn⟩
theorem mutL (m : String) (ds : List D) (kvs : List (D × D)) : mutO m ds (.lkd kvs) = none := rfl
theorem tE_methD {m : String} {o : E} {ms : List E} {σ : L2.St} {H : Hp} {Q : VK} (hk : ∀ w, methOk m ms.length w = true → ∃ t kvs, w = .o (.dct t kvs)) (hm : ∀ ds x y r, mutO m ds x = some (y, r) → (∀ xs, x ≠ .lst xs) ∧ ∃ d, r = .d d) (h : tE X (ev G (.meth m o ms)) Wx σ H Q) :
    tE X (ev G o) Wx σ H (fun x H1 => tyV X.K "dict" x H1 ∧ tA X (evs G ms) Wx σ H1 fun vs H2 => ∃ (p : Addr) (t : Bool) (kvs : List (D × D)) (ds : List D) (y : O) (d : D) (ρ2 : List Addr), x = .ref p ∧ vs.length = ms.length ∧ OR X.K ρ2 H2 p (.dct t kvs) ∧ VRs X.K ρ2 H2 ds vs ∧ mutO m ds (.dct t kvs) = some (y, .d d) ∧
      ∀ H' v, (∀ b, b ≠ p → H' b = H2 b) → (Pers H2 H' → OR X.K ρ2 H' p y) → (Pers H2 H' → VR X.K ρ2 H' d v) → Q v H') := by
  obtain ⟨ρ, st, hR, h⟩ := h
  rw [ev] at h
  refine tE.bind hR h (fun _ _ x => x) fun vo st1 v1 H1 ρ1 s1 r1 n1 h => ?_
  split at h
  · rename_i hk1
    refine ⟨?_, ?_⟩
    · cases q : rd st1 vo with
      | none =>
        rw [q] at hk1
        cases hk1
      | some w =>
        rw [q] at hk1
        obtain ⟨t, kvs, rfl⟩ := hk w hk1
        obtain ⟨p, rfl, h1⟩ := rd_sound s1.res r1 q
        cases t with
        | false =>
          obtain ⟨ks, h1, _⟩ := h1
          exact .inr (.inr (.inl ⟨rfl, .inl ⟨ks, h1⟩⟩))
        | true =>
          obtain ⟨ks, h1, _⟩ := h1
          exact .inr (.inr (.inl ⟨rfl, .inr ⟨ks, h1⟩⟩))
    · refine tA.bindE s1.res h (fun _ _ x => x.back s1) fun rs st2 vs H2 ρ2 e0 s2 r2 n2 h => ?_
      obtain ⟨ds, st3, e, h⟩ := wp_of2 (Wp.bind.mp h)
      obtain ⟨ρ3, s3, _, hv⟩ := toDs_sound s2 r2 n2 e
      split at h
      case isFalse => exact h.elim
      obtain ⟨r, st4, e4, h⟩ := wp_of2 h
      have r1' := ER.step s1.res s3 r1
      obtain ⟨p, o', y, rfl, ho, hf, k⟩ := change_sound (fun kvs => mutL m ds kvs) s3.res r1' e4
      obtain ⟨hnl, d, rfl⟩ := hm ds o' y r hf
      cases o' with
      | lst xs => exact (hnl xs rfl).elim
      | ins c fs => cases hf
      | lkd kvs => cases hf
      | dct t kvs =>
        refine ⟨p, t, kvs, ds, y, d, ρ3, rfl, ?_, ho, hv, hf, fun H' v a1 a2 a3 => ?_⟩
        · have l1 := hv.length
          rw [l1, toDs_length e, evs_length e0]
        · have s4 := k H' a1 a2
          exact h v _ ρ3 ((s1.trans s3).trans s4) (a3 (Step.pers s3.res s4)) fun x p e _ => nomatch e
  · exact h.elim
theorem VRs.len2 {K : PySem.W.Frag} {ρ : List Addr} {H : Hp} {ds : List D} {vs : List V} (h : VRs K ρ H ds vs) (hl : vs.length = 2) : ∃ d d' v v', ds = [d, d'] ∧ vs = [v, v'] ∧ VR K ρ H d v ∧ VR K ρ H d' v' := by
  have e := h.length
  rw [hl] at e
  match ds, e with
  | [d, d'], _ =>
    obtain ⟨v, r, rfl, h1, v', r', rfl, h2, h3⟩ := h
    have e2 : r' = [] := h3
    subst e2
    exact ⟨d, d', v, v', rfl, rfl, h1, h2⟩
theorem mutD {m : String} (hm : m = "get" ∨ m = "setdefault") (ds : List D) (x y : O) (r : EV) (e : mutO m ds x = some (y, r)) : (∀ xs, x ≠ .lst xs) ∧ ∃ d, r = .d d := by
  cases x with
  | lst xs =>
    rcases hm with rfl | rfl <;> simp [mutO] at e
  | ins c fs => cases e
  | lkd kvs => cases e
  | dct t kvs =>
    refine ⟨fun xs z => (nomatch z), ?_⟩
    simp only [mutO] at e
    split at e
    · split at e
      · cases e
        exact ⟨_, rfl⟩
      · cases e
    · split at e
      · split at e
        · cases e
          exact ⟨_, rfl⟩
        · cases e
          exact ⟨_, rfl⟩
      · cases e
    · cases e
theorem methD {m : String} (hm : m = "get" ∨ m = "setdefault") {n : Nat} (w : Wv) (e : methOk m n w = true) : ∃ t kvs, w = .o (.dct t kvs) := by
  cases w with
  | d d => cases d <;> simp [methOk] at e
  | o o =>
    cases o with
    | lst xs => rcases hm with rfl | rfl <;> simp [methOk] at e
    | dct t kvs => exact ⟨t, kvs, rfl⟩
    | ins c fs => simp [methOk] at e
    | lkd kvs => simp [methOk] at e
theorem se_get {o a b : E} {eo ea eb : Expr} {apos pos : Pos} (hu : Deep X) (hc : notCall0 eo = true) (hn : noStar ea = true) (hn2 : noStar eb = true) (hline : (apos.endLine == pos.line) = true) (ho : SE X G o eo) (ha : SE X G a ea) (hb : SE X G b eb) :
    SE X G (.meth "get" o [a, b]) (.Call (.Attribute eo "get" apos) [ea, eb] [] pos) := fun Wx tk => by
  refine PE.imp (pe_bm PySem.F.plainAttrs_dict PySem.F.slot_dict_get PySem.F.type_dict_get (mt_dget hu) (ho Wx tk) (sa_cons (star_cons hn) ha (sa_cons (star_cons hn2) hb sa_nil) Wx tk) (base_ok hc) (few_ok (by simp [hn, hn2]) (by simp)) hline (star_cons hn) (star_plain (by simp [hn2]))) ?_
  intro σ H Q h
  refine tE.mono (tE_methD (methD (.inl rfl)) (mutD (.inl rfl)) h) fun x H1 ⟨h1, h2⟩ => ⟨h1, tA.mono h2 fun vs H2 h3 => ?_⟩
  obtain ⟨p, t, kvs, ds, y, d, ρ2, rfl, hl, g1, g2, g3, k⟩ := h3
  obtain ⟨d1, d2, v1, v2, rfl, rfl, w1, w2⟩ := g2.len2 hl
  simp only [mutO] at g3
  split at g3
  · rename_i hk
    cases g3
    obtain ⟨ov, dg, hg⟩ := g1.get w1 hk
    refine ⟨p, v1, v2, ov, rfl, rfl, dg, k H2 _ (fun _ _ => rfl) (fun _ => g1) fun _ => ?_⟩
    rcases hg with ⟨z1, z2⟩ | ⟨x, u, z1, z2, z3⟩
    · rw [z1, z2]
      exact w2
    · rw [z1, z2]
      exact z3
  · cases g3
theorem se_setd {o a b : E} {eo ea eb : Expr} {apos pos : Pos} (hc : notCall0 eo = true) (hn : noStar ea = true) (hn2 : noStar eb = true) (hline : (apos.endLine == pos.line) = true) (ho : SE X G o eo) (ha : SE X G a ea) (hb : SE X G b eb) :
    SE X G (.meth "setdefault" o [a, b]) (.Call (.Attribute eo "setdefault" apos) [ea, eb] [] pos) := fun Wx tk => by
  refine PE.imp (pe_bm PySem.F.plainAttrs_dict PySem.F.slot_dict_setdefault PySem.F.type_dict_setdefault mt_dsetd (ho Wx tk) (sa_cons (star_cons hn) ha (sa_cons (star_cons hn2) hb sa_nil) Wx tk) (base_ok hc) (few_ok (by simp [hn, hn2]) (by simp)) hline (star_cons hn) (star_plain (by simp [hn2]))) ?_
  intro σ H Q h
  have lln := lim_line
  refine tE.mono (tE_methD (methD (.inr rfl)) (mutD (.inr rfl)) h) fun x H1 ⟨h1, h2⟩ => ⟨h1, tA.mono h2 fun vs H2 h3 => ?_⟩
  obtain ⟨p, t, kvs, ds, y, d, ρ2, rfl, hl, g1, g2, g3, k⟩ := h3
  obtain ⟨d1, d2, v1, v2, rfl, rfl, w1, w2⟩ := g2.len2 hl
  simp only [mutO] at g3
  split at g3
  · rename_i hk
    obtain ⟨rfl, hk1, hk2⟩ := hk
    obtain ⟨ks, e1, e2⟩ := id g1
    obtain ⟨kk, hkk⟩ := kkey_some hk1
    have ev1 := fkey_V w1 hkk
    subst ev1
    have hlen : ks.length < sizeLine := by
      rw [← e2.rows.1]
      omega
    refine ⟨p, _, v2, ks, kk, rfl, rfl, e1, rfl, hlen, fun v hv => ?_, fun hn0 => ?_⟩
    · split at g3
      · rename_i xv hx
        cases g3
        refine k H2 _ (fun _ _ => rfl) (fun _ => g1) fun _ => ?_
        rw [dget_f] at hx
        rcases e2.find hkk with ⟨z1, z2⟩ | ⟨x, u, z1, z2, z3⟩
        · rw [z1] at hx
          cases hx
        · rw [z1] at hx
          cases hx
          rw [z2] at hv
          cases hv
          exact z3
      · rename_i hx
        rw [dget_f] at hx
        rcases e2.find hkk with ⟨z1, z2⟩ | ⟨x, u, z1, z2, z3⟩
        · rw [z2] at hv
          cases hv
        · rw [z1] at hx
          cases hx
    · split at g3
      · rename_i xv hx
        rw [dget_f] at hx
        rcases e2.find hkk with ⟨z1, z2⟩ | ⟨x, u, z1, z2, z3⟩
        · rw [z1] at hx
          cases hx
        · rw [z2] at hn0
          cases hn0
      · cases g3
        refine k _ _ (fun b hb => upd_ne hb) (fun ps => ?_) fun ps => w2.mono ps (List.prefix_refl _) d v2
        rw [dput_f]
        exact ⟨_, upd_same, (e2.put hkk w2).mono ps (List.prefix_refl _)⟩
  · cases g3
/-- xs.extend(ys) -/
theorem se_ext {o a : E} {eo ea : Expr} {apos pos : Pos} (hb : notCall0 eo = true) (hn : noStar ea = true) (hline : (apos.endLine == pos.line) = true) (ho : SE X G o eo) (ha : SE X G a ea) :
    SE X G (.ext o a) (.Call (.Attribute eo "extend" apos) [ea] [] pos) := fun Wx tk => by
  refine PE.imp (pe_bm PySem.F.plainAttrs_list PySem.F.slot_list_extend PySem.F.type_list_extend mt_extend (ho Wx tk) (sa_cons (star_cons hn) ha sa_nil Wx tk) (base_ok hb) (few_ok (by simp [hn]) (by simp)) hline (star_cons hn)) ?_
  rintro σ H Q ⟨ρ, st, hR, h⟩
  have hlim := lim_line
  rw [ev] at h
  refine tE.bind hR h (fun _ _ x => x) fun vo st1 v1 H1 ρ1 s1 r1 n1 h => ?_
  cases q1 : rd st1 vo with
  | none =>
    rw [q1] at h
    exact h.elim
  | some w =>
    rw [q1] at h
    cases w with
    | d d => exact h.elim
    | o ob =>
      cases ob with
      | ins c fs => exact h.elim
      | lkd kvs => exact h.elim
      | dct t kvs => exact h.elim
      | lst xs0 =>
        obtain ⟨p0, rfl, hp0⟩ := rd_sound s1.res r1 q1
        obtain ⟨vs0, hv0, _⟩ := id hp0
        refine ⟨.inl ⟨rfl, vs0, .of hv0⟩, ?_⟩
        refine ⟨ρ1, st1, s1.res, ?_⟩
        simp only [evs]
        refine Wp.bind.mpr (Wp.mono (Wp.bind.mp h) (fun va st2 h => ?_) fun _ _ x => x.back s1)
        simp only [Out.bind_ok]
        intro us H2 ρ2 s2 r2 n2
        obtain ⟨y', rfl, hy⟩ := (show ERs X.K ρ2 H2 st2 σ [va] us from r2).erl.one
        cases q2 : rd st2 va with
        | none =>
          rw [q2] at h
          exact h.elim
        | some w2 =>
          rw [q2] at h
          cases w2 with
          | d d => exact h.elim
          | o ob =>
            cases ob with
            | ins c fs => exact h.elim
            | lkd kvs => exact h.elim
            | dct t kvs => exact h.elim
            | lst ys =>
              obtain ⟨b, rfl, ws, hb2, hw⟩ := rd_sound s2.res hy q2
              obtain ⟨r, st4, e4, h⟩ := wp_of2 h
              have r1' := ER.step s1.res s2 r1
              obtain ⟨p, o', y, ep, hob, hf, k⟩ := change_sound (fun _ => rfl) s2.res r1' e4
              cases ep
              cases o' with
              | ins c fs => cases hf
              | lkd kvs => cases hf
              | dct t kvs => cases hf
              | lst xs =>
                simp only at hf
                split at hf
                · rename_i hl
                  cases hf
                  obtain ⟨xv, g1, g2⟩ := hob
                  have l1 := g2.length
                  have l2 := hw.length
                  refine ⟨p0, b, xv, ws, rfl, rfl, g1, hb2, by omega, ?_⟩
                  have s4 := k (upd H2 p0 (.lst (xv ++ ws))) (fun c hc => upd_ne hc) fun ps => ⟨_, upd_same, (g2.pers ps).append (hw.pers ps)⟩
                  exact h .non _ ρ2 ((s1.trans s2).trans s4) rfl fun x p e _ => nomatch e
                · cases hf
theorem maxI_fold : ∀ (r : List Int) (a : Int), r.foldl max a = maxI a r
  | [], a => rfl
  | b :: r, a => by
    rw [List.foldl_cons, maxI_fold r]
    show maxI _ r = maxI _ r
    congr 1
    split <;> omega
theorem ints_keys : ∀ ns : List Int, fkeys (ns.map D.int) = some (ns.map Sum.inl)
  | [] => rfl
  | n :: ns => by
    simp only [List.map_cons, fkeys, fkey, ints_keys ns]
theorem ints_toPs : ∀ ns : List Int, D.toPs (ns.map D.int) = ns.map PyData.int
  | [] => rfl
  | n :: ns => by
    rw [List.map_cons, List.map_cons, D.toPs, ints_toPs ns]
    rfl
theorem cr_maxD (hc : X.calm = true) (hu : Deep X) : CallRK X (.builtin "max") [Str.ofString "default"] (fun xs zs H Q => ∃ (a : Addr) (ns : List Int) (d : V), xs = [.ref a] ∧ zs = [d] ∧ H a = some (.lst (ns.map V.int)) ∧ (ns = [] → Q d H) ∧ ∀ n r, ns = n :: r → Q (.int (maxI n r)) H) := by
  intro pins s σ H xs zs us ws Q I rs rz ⟨a, ns, d, ex, ez, ha, q0, q1⟩
  subst ex ez
  obtain ⟨u, rfl, ru⟩ := vals1 rs
  cases ru
  obtain ⟨w, rfl, rw'⟩ := vals1 rz
  obtain ⟨its, rv, hl, hz⟩ := I.list (SqL.of (K := X.K) ha)
  have rk : Vals ((ns.map Sum.inl).map kV) its := by
    rw [List.map_map]
    exact rv
  have hr : ReadsAll s.heap its (ns.map PyData.int) [] := by
    have z := flat_reads (h := s.heap) (ints_keys ns) rk
    rw [ints_toPs] at z
    exact z
  have al : W.AlikeAll (ns.map PyData.int) := by
    refine ⟨fun x hx y hy => ?_, fun x hx => ?_⟩
    · obtain ⟨i, _, rfl⟩ := List.mem_map.mp hx
      obtain ⟨j, _, rfl⟩ := List.mem_map.mp hy
      rfl
    · obtain ⟨i, _, rfl⟩ := List.mem_map.mp hx
      exact fun e => nomatch e
  unfold Deep at hu
  refine W.max_list_default (d := w) (I.ok.hd hc) hl.isList (by simpa using hr) al (by rw [W.depth_ints]; omega) (fun e h' tk kp => ⟨d, H, I.kept kp, rw', q0 (by simpa using e)⟩) fun y ys i v h' tk bs e hv r kp => ?_
  cases ns with
  | nil => cases e
  | cons n ns =>
    cases e
    rw [W.maxD_ints, maxI_fold] at r
    cases r
    exact ⟨.int (maxI n ns), H, I.kept kp, ⟨_, rfl⟩, q1 n ns rfl⟩
theorem boot_max : bootBuiltins "max" = some (.builtin "max") := by decide +kernel
theorem se_bid {a d : E} {ea ed : Expr} {p kp pos : Pos} (hc : X.calm = true) (hu : Deep X) (hg : Gl X "max") (hm : X.mg "max" = none) (hn : noStar ea = true) (ha : SE X G a ea) (hd : SE X G d ed) :
    SE X G (.bid a d) (.Call (.Name "max" p) [ea] [⟨some "default", ed, kp⟩] pos) := fun Wx tk => by
  refine PE.imp (pe_callBK (cr_maxD hc hu) hg hm boot_max (pa_cons (ha Wx tk) pa_nil (star_cons hn)) (pk_cons (hd Wx tk) pk_nil) (by decide) (by decide) (by rw [star_cons hn]; rfl) (by rw [star_cons hn]; rfl) rfl rfl rfl) ?_
  rintro σ H Q ⟨ρ, st, hR, h⟩
  rw [ev] at h
  refine tE.bind hR h (fun _ _ x => x) fun va st1 v1 H1 ρ1 s1 r1 n1 h => ?_
  refine tE.bind s1.res h (fun _ _ x => x.back s1) fun vd st2 v2 H2 ρ2 s2 r2 n2 h => ?_
  have r1' := ER.step s1.res s2 r1
  cases q1 : rd st2 va with
  | none =>
    rw [q1] at h
    exact h.elim
  | some w =>
    rw [q1] at h
    cases w with
    | d d => exact h.elim
    | o ob =>
      cases ob with
      | ins c fs => exact h.elim
      | lkd kvs => exact h.elim
      | dct t kvs => exact h.elim
      | lst ds =>
        cases q2 : rd st2 vd with
        | none =>
          rw [q2] at h
          exact h.elim
        | some w2 =>
          cases q3 : intW w2 with
          | none =>
            rw [q2] at h
            simp only [Option.bind_some, q3] at h
            exact h.elim
          | some i =>
            rw [q2] at h
            simp only [Option.bind_some, q3] at h
            have ei := intW_of (rd_sound s2.res r2 q2) q3
            obtain ⟨b, rfl, ws, hb, hw⟩ := rd_sound s2.res r1' q1
            cases q4 : intsD ds with
            | none =>
              rw [q4] at h
              exact h.elim
            | some ns =>
              rw [q4] at h
              have e3 := ints_of q4
              subst e3
              have e4 := VRs.ints hw
              subst e4
              refine ⟨b, ns, v2, rfl, rfl, hb, fun e => ?_, fun n r e => ?_⟩
              · subst e
                rw [ei]
                exact EQ.fin h (s1.trans s2) (Same.refl H2) rfl
              · subst e
                exact EQ.fin h (s1.trans s2) (Same.refl H2) rfl
end
end EW

-- part: SoundC
set_option maxHeartbeats 1000000
/-! classes of one's own: fields, methods, new objects -/
namespace EW
open PySem PySem.Spec PyProof.Rows L2
/-- what the classes of one's own need -/
structure ClU (K : PySem.W.Frag) (mg : Str → Option Value) (sub : String → String → Bool) (up : String → String → Option Bool) (t : String) : Prop where
  glo : mg (Str.ofString t) = some (.ref (gaS K t))
  bas : ∀ y ∈ basics, PySem.W.kitOne K (.type y) (.ref (gaS K t)) = some false
  exc : ∀ c, sub c c = true → PySem.W.kitOne K (.ref (gaS K c)) (.ref (gaS K t)) = some (sub c t)
  keep : PySem.W.keepIn K (.ref (gaS K t)) = true
  nb : basicT t = false
structure ClsF (X : Cx) (G : Gam) : Prop where
  fl : ∀ c f, G.cl.fl c f = true → NoAttr X.K (gaS X.K c) (Str.ofString f)
  mt : ∀ c m f, G.cl.mt c m = some f → ∃ (k : Nat) (fa : Addr), FnR X.prog X.w X.K X.mg X.base (L2.CX X.prog X.w) k fa (spV X.K X.mg (G.call f)) ∧ Room k X.A ∧ Meth X.K (gaS X.K c) (Str.ofString m) fa
  nw : ∀ c f, G.cl.nw c = some f → ∃ (k : Nat) (fa : Addr), FnR X.prog X.w X.K X.mg X.base (L2.CX X.prog X.w) k fa (spV X.K X.mg (G.call f)) ∧ Room (k + 1) X.A ∧ Mk X.K (gaS X.K c) fa ∧ X.mg (Str.ofString c) = some (.ref (gaS X.K c)) ∧ InsC X.K (gaS X.K c)
  up : ∀ t, G.cl.up t t = some true → ClU X.K X.mg G.sub G.cl.up t
  upo : ∀ c t b, G.cl.up c t = some b → PySem.W.kitOne X.K (.ref (gaS X.K c)) (.ref (gaS X.K t)) = some b
  nov : ∀ c, G.cl.up c "ValueError" = none
section
variable {K : PySem.W.Frag} {ρ ρ' : List Addr} {H H' : Hp} {st st' : St} {σ : L2.St}
/-- a new object stands at the heap's end -/
theorem Step.push {p : Addr} {x : O} (hR : Res K ρ H st σ) (same : Same H H') (hp : H p = none) (hx : OR K ρ H' p x) : Step K ρ H st σ (ρ ++ [p]) H' { st with h := st.h ++ [x] } σ := by
  have r := hR.ext same
  have nd := hR.notDom hp
  have np : p ∉ ρ := fun z => nd (.inl z)
  refine ⟨⟨r.hr.push np hx, r.len, fun i s h => (r.sl i s h).mono (pre_app ρ p) fun q y e1 e2 z => ?_, r.sep⟩, pre_app ρ p, fun a o e n => same a o e, fun a d => ?_, fun a o u e => same a _ e⟩
  · subst e1
    obtain ⟨q', g1, _, g3⟩ := r.sl i _ h
    rw [e2] at g1
    cases g1
    rcases List.mem_append.mp z with z | z
    · exact g3 z
    · have z := List.mem_singleton.mp z
      subst z
      exact nd (.inr ⟨i, y, h, e2⟩)
  · rcases d with d | ⟨i, y, h1, h2⟩
    · rcases List.mem_append.mp d with d | d
      · exact .inl (.inl d)
      · rw [List.mem_singleton.mp d]
        exact .inr hp
    · exact .inl (.inr ⟨i, y, h1, h2⟩)
theorem FVs.set {f : String} {x : D} {v : V} (hx : VR K ρ H x v) : ∀ {fs : List (String × D)} {vs : List (Str × V)}, FVs K ρ H fs vs → FVs K ρ H (setF f x fs) (putF (Str.ofString f) v vs)
  | [], vs, h => by
    have e : vs = [] := h
    subst e
    exact ⟨v, [], rfl, hx, rfl⟩
  | (g, y) :: r, vs, h => by
    obtain ⟨w, t, rfl, h2, h3⟩ := h
    unfold setF putF
    by_cases e : g = f
    · subst e
      rw [if_pos rfl, if_pos rfl]
      exact ⟨v, t, rfl, hx, h3⟩
    · rw [if_neg e, if_neg fun z => e (ofString_inj z)]
      exact ⟨w, _, rfl, h2, FVs.set hx h3⟩
theorem setF_mem {f : String} {x : D} : ∀ {fs : List (String × D)} {q : String × D}, q ∈ setF f x fs → q.1 = f ∨ q ∈ fs
  | [], q, h => by
    unfold setF at h
    rw [List.mem_singleton.mp h]
    exact .inl rfl
  | p :: r, q, h => by
    unfold setF at h
    split at h
    · rcases List.mem_cons.mp h with z | z
      · rw [z]
        exact .inl rfl
      · exact .inr (List.mem_cons_of_mem _ z)
    · rcases List.mem_cons.mp h with z | z
      · rw [z]
        exact .inr (by simp)
      · rcases setF_mem z with z | z
        · exact .inl z
        · exact .inr (List.mem_cons_of_mem _ z)
end
section
variable {X : Cx} {G : Gam} {Wx : WX}
/-! ### o.f -/
theorem se_fld {a : E} {f : String} {ea : Expr} {pos : Pos} (hb : notCall0 ea = true) (ha : SE X G a ea) : SE X G (.fld a f) (.Attribute ea (Str.ofString f) pos) := fun Wx tk => by
  refine PE.imp (pe_fld (ha Wx tk) (base_ok hb)) ?_
  rintro σ H Q ⟨ρ, st, hR, h⟩
  rw [ev] at h
  refine tE.bind hR h (fun _ _ x => x) fun va st1 v1 H1 ρ1 s1 r1 n1 h => ?_
  cases q1 : rd st1 va with
  | none =>
    rw [q1] at h
    exact h.elim
  | some w =>
    rw [q1] at h
    cases w with
    | d d => exact h.elim
    | o ob =>
      cases ob with
      | ins c fs =>
        simp only at h
        cases q2 : fs.lookup f with
        | none =>
          rw [q2] at h
          exact h.elim
        | some x =>
          rw [q2] at h
          obtain ⟨p, rfl, dx, vs, g1, g2, g3, g4⟩ := rd_sound s1.res r1 q1
          obtain ⟨v, e1, e2⟩ := g2.look q2
          exact ⟨p, _, dx, vs, v, rfl, g1, g3.cl, g4 _ (FVs.mem q2), e1, EQ.fin h s1 (Same.refl H1) e2⟩
      | _ => exact h.elim
/-! ### o.m(..) -/
theorem meth_tree {o : Expr} {m : Str} {apos pos : Pos} {es : List Expr} {env : Env} (hb : notCall0 o = true)
    (hfew : ((backTo pos (starEach es env)).all (fun x => !x.1) && (backToKw pos (keywordEach [] env)).all (fun x => x.1.isSome)
      && decide (es.length + ([] : List Keyword).length + (if ([] : List Keyword).isEmpty then 0 else 1) < 30)) = true) (hline : (apos.endLine == pos.line) = true) :
    ∃ pl, eval (.Call (.Attribute o m apos) es [] pos) env = (do
      let ov ← eval o env
      standAt apos.atName
      let (f, first) ← holding [ov] (getMethod ov m pl)
      callWith pos f first (backTo pos (starEach es env)) (backToKw pos (keywordEach [] env))) := by
  have hform : methodCallForm (es.length + ([] : List Keyword).length) (backTo pos (starEach es env)) (backToKw pos (keywordEach [] env)) = true := hfew
  have hpos : methodCallPos true o env apos pos = pure pos := by unfold methodCallPos; simp [hline]
  refine ⟨(do return (← importBound o env).getD true), ?_⟩
  rw [arm_eval_Call, base_ok hb]
  unfold methodCall
  rw [hform, hpos]
  simp only [pure_bind]
  rfl
def rMeth (X : Cx) (m : Str) (ta : TE) (t : TA) (W : WX) : TE := fun σ H Q => ta σ H fun x H1 => ∃ (a C dx : Addr) (fs : List (Str × V)) (f : Addr) (k : Nat) (sp : Sp), x = .ref a ∧ H1 a = some (.ins C dx fs) ∧ fs.lookup m = none ∧ Cls X.K C ∧ Meth X.K C m f ∧
  FnR X.prog X.w X.K X.mg X.base (L2.CX X.prog X.w) k f sp ∧ Room k X.A ∧ t σ H1 fun vs H2 => sp (x :: vs) H2 Q (WE W σ)
theorem few_of {es : List Expr} {env : Env} {pos : Pos} (hall : es.all noStar = true) (hl : es.length ≤ 20) : ((backTo pos (starEach es env)).all (fun x => !x.1) && (backToKw pos (keywordEach [] env)).all (fun x => x.1.isSome)
      && decide (es.length + ([] : List Keyword).length + (if ([] : List Keyword).isEmpty then 0 else 1) < 30)) = true := by
  rw [star_few hall]
  simp only [Bool.true_and, Bool.and_eq_true, decide_eq_true_eq]
  refine ⟨rfl, ?_⟩
  simp
  omega
theorem pe_methA {o e : Expr} {es : List Expr} {m : Str} {apos pos : Pos} {ta : TE} {t : TA} {W : WX} (he : PE X o ta) (ha : PA X (e :: es) t) (tk : Takes X W) (hb : notCall0 o = true) (hall : (e :: es).all noStar = true) (hl : (e :: es).length ≤ 20) (hline : (apos.endLine == pos.line) = true) :
    PE X (.Call (.Attribute o m apos) (e :: es) [] pos) (rMeth X m ta t W) := by
  obtain ⟨pl, ht⟩ := meth_tree (m := m) (apos := apos) (pos := pos) (env := X.env) hb (few_of hall hl) hline
  refine ⟨fun pins s σ H Q I h => ?_⟩
  refine PySem.W.methodCall_KW (pl := pl) (thn (he.run pins s σ H _ I h) fun u s1 ⟨x, H1, I1, rx, a, C, dx, fs, f, k, sp, ex, ea, l, c, hm, F, hr, q⟩ => ?_) ht
  subst ex
  obtain rfl : u = Value.ref a := rx
  refine getmeth_ok I1 ea c hm l ?_
  obtain ⟨y1, y2⟩ := Bool.and_eq_true_iff.mp (show (noStar e && es.all noStar) = true from hall)
  refine PySem.W.callWith_K (first := [.ref a]) (h₀ := X.base) I.ok.mod.kin hm.kp (thn (ha.run pos pins s1 σ H1 _ I1 q) fun us s2 ⟨vs, H2, I2, r, q2⟩ => ⟨I2.kIn, ?_⟩) (star_cons y1) (star_plain y2)
  exact run_fnRS (us := .ref a :: us) (vs := .ref a :: vs) F hr (passAt tk σ) I2 (.cons rfl r) q2
theorem pe_methA0 {o : Expr} {m : Str} {apos pos : Pos} {ta : TE} {W : WX} (he : PE X o ta) (tk : Takes X W) (hb : notCall0 o = true) (hline : (apos.endLine == pos.line) = true) :
    PE X (.Call (.Attribute o m apos) [] [] pos) (rMeth X m ta (fun σ H Q => Q [] H) W) := by
  obtain ⟨pl, ht⟩ := meth_tree (m := m) (apos := apos) (pos := pos) (es := []) (env := X.env) hb (few_of rfl (by simp)) hline
  refine ⟨fun pins s σ H Q I h => ?_⟩
  refine PySem.W.methodCall_KW (pl := pl) (thn (he.run pins s σ H _ I h) fun u s1 ⟨x, H1, I1, rx, a, C, dx, fs, f, k, sp, ex, ea, l, c, hm, F, hr, q⟩ => ?_) ht
  subst ex
  obtain rfl : u = Value.ref a := rx
  refine getmeth_ok I1 ea c hm l ?_
  exact PySem.W.callWith_K0 (first := [.ref a]) I1.kIn hm.kp (run_fnRS (us := [.ref a]) (vs := [.ref a]) F hr (passAt tk σ) I1 (.cons rfl .nil) q)
theorem mc_of (hc : ClsF X G) {o : E} {m : String} {ms : List E} {t : TA} (ht : ∀ σ H Q, tA X (evs G ms) Wx σ H Q → t σ H Q) {σ : L2.St} {H : Hp} {Q : VK} (h : tE X (ev G (.mc m o ms)) Wx σ H Q) : rMeth X (Str.ofString m) (tE X (ev G o) Wx) t Wx σ H Q := by
  obtain ⟨ρ, st, hR, h⟩ := h
  rw [ev] at h
  refine tE.bind hR h (fun _ _ x => x) fun vo st1 v1 H1 ρ1 s1 r1 n1 h => ?_
  obtain ⟨x, st2, e2, h⟩ := wp_of2 (Wp.bind.mp h)
  obtain ⟨ρ2, s2, _, hx, _⟩ := toD_sound s1 r1 n1 e2
  cases x with
  | ref a =>
    obtain ⟨p, hp, rfl⟩ := hx
    simp only at h
    cases q : st2.h[a]? with
    | none =>
      rw [q] at h
      exact h.elim
    | some ob =>
      rw [q] at h
      cases ob with
      | ins c fs =>
        simp only at h
        cases q2 : G.cl.mt c m with
        | none =>
          rw [q2] at h
          exact h.elim
        | some f =>
          rw [q2] at h
          simp only at h
          split at h
          case isFalse => exact h.elim
          case isTrue hz =>
          obtain ⟨dx, vs, g1, g2, g3, g4⟩ := s2.res.hr.obj a p _ hp q
          obtain ⟨k, fa, F, hr, M⟩ := hc.mt c m f q2
          refine ⟨p, _, dx, vs, fa, k, _, rfl, g1, g2.lookN (by simpa using hz), g3.cl, M, F, hr, ht _ _ _ ?_⟩
          refine tA.bindE s2.res h (fun _ _ x => x.back s2) fun rs st3 us H3 ρ3 e0 s3 r3 n3 h => ?_
          obtain ⟨ds, st4, e4, h⟩ := wp_of2 (Wp.bind.mp h)
          obtain ⟨ρ4, s4, pre4, hv⟩ := toDs_sound s3 r3 n3 e4
          refine ⟨ρ4, st4.h, .ref a :: ds, s4.res.hr, .cons ⟨p, pre_get s4.pre hp, rfl⟩ hv, by simp [hv.length], ?_⟩
          have s5 := s2.trans s4
          cases q3 : G.call f (.ref a :: ds) st4.h with
          | bad =>
            rw [q3] at h
            exact h.elim
          | ok r h' =>
            rw [q3] at h
            intro v H' ρ' hs hrc
            obtain ⟨g1, g2⟩ := hrc.er s4.res hs
            exact h v H' ρ' (s5.trans (hs.step s4.res)) g1 fun x p e1 e2 => New.back s5 (g2 x p e1 e2)
          | ex c h' =>
            rw [q3] at h
            intro cls H' ρ' hs hc
            exact h cls H' ρ' (s5.trans (hs.step s4.res)) hc
      | _ => exact h.elim
  | _ => exact h.elim
theorem se_mc (hc : ClsF X G) {o : E} {m : String} {ms : List E} {eo e : Expr} {es : List Expr} {apos pos : Pos} (hb : notCall0 eo = true) (hall : (e :: es).all noStar = true) (hl : (e :: es).length ≤ 20) (hline : (apos.endLine == pos.line) = true) (ho : SE X G o eo) (ha : SA X G ms (e :: es)) :
    SE X G (.mc m o ms) (.Call (.Attribute eo (Str.ofString m) apos) (e :: es) [] pos) := fun Wx tk =>
  PE.imp (pe_methA (ho Wx tk) (ha Wx tk) tk hb hall hl hline) fun σ H Q h => mc_of hc (fun _ _ _ z => z) h
theorem se_mc0 (hc : ClsF X G) {o : E} {m : String} {eo : Expr} {apos pos : Pos} (hb : notCall0 eo = true) (hline : (apos.endLine == pos.line) = true) (ho : SE X G o eo) :
    SE X G (.mc m o []) (.Call (.Attribute eo (Str.ofString m) apos) [] [] pos) := fun Wx tk =>
  PE.imp (pe_methA0 (ho Wx tk) tk hb hline) fun σ H Q h => mc_of hc (fun σ H Q ⟨ρ, st, hR, z⟩ => by
    simp only [evs] at z
    exact z [] H ρ (Step.refl hR) rfl fun j x p e _ => by simp at e) h
/-! ### C(..) -/
def rNew (X : Cx) (c : String) (t : TA) (W : WX) : TE := fun σ H Q => t σ H fun vs H1 => ∃ (k : Nat) (f : Addr) (sp : Sp), FnR X.prog X.w X.K X.mg X.base (L2.CX X.prog X.w) k f sp ∧ Room (k + 1) X.A ∧ Mk X.K (gaS X.K c) f ∧
  ∀ x dx, H1 x = none → H1 dx = none → dx ≠ x → sp (.ref x :: vs) (upd (upd H1 dx (.own x)) x (.ins (gaS X.K c) dx [])) (fun v H2 => v = .non ∧ Q (.ref x) H2) (WE W σ)
theorem run_new {pins : List (Addr × Obj)} {σ : L2.St} {H : Hp} {s : Shared} {Q : VK} {us : List Value} {vs : List V} {k : Nat} {f C : Addr} {sp : Sp} {E : XK} (M : Mk X.K C f) (F : FnR X.prog X.w X.K X.mg X.base (L2.CX X.prog X.w) k f sp) (hr : Room (k + 1) X.A)
    (hx : PassesAt (L2.CX X.prog X.w) X σ E) (I : L2.Inv X pins σ H s) (r : Vals vs us)
    (h : ∀ x dx, H x = none → H dx = none → dx ≠ x → sp (.ref x :: vs) (upd (upd H dx (.own x)) x (.ins C dx [])) (fun v H2 => v = .non ∧ Q (.ref x) H2) E) :
    wpAny (model X.prog X.w) X.A (call (.ref C) us) (EP X pins σ Q) X.xe s := by
  have hq := h (s.heap.objs.size + 1) s.heap.objs.size (I.hok.fresh (Nat.le_succ _)) (I.hok.fresh (Nat.le_refl _)) (Nat.ne_of_lt (Nat.lt_succ_self _))
  have I2 := Inv.made (C := C) I
  have r2 : Vals (V.ref (s.heap.objs.size + 1) :: vs) (Value.ref (s.heap.objs.size + 1) :: us) := .cons rfl r
  refine wpAny_call (make_map (f := f) I.kIn M.makes M.init (beq_iff_eq.mp M.fn) (codeAny_mono (F _ X.stack _ _ _ _ _ E (hr.make C us []) (I2.env0.make C us []) r2 hq) fun r s' hq' => ?_))
  cases r with
  | error e => exact hx pins _ _ e s' I2 hq'
  | ok fl =>
    cases fl with
    | ret u =>
      obtain ⟨v, H', I3, rv, ev, q3⟩ := I2.after hq'
      subst ev
      exact ⟨rv, ⟨V.ref (s.heap.objs.size + 1), H', I3, rfl, q3⟩⟩
    | next => exact False.elim hq'
    | brk => exact False.elim hq'
    | cont => exact False.elim hq'
theorem pe_new {c : String} {e : Expr} {es : List Expr} {p pos : Pos} {t : TA} {W : WX} (hg : Gl X (Str.ofString c)) (hm : X.mg (Str.ofString c) = some (.ref (gaS X.K c))) (hk : PySem.W.keepIn X.K (.ref (gaS X.K c)) = true) (tk : Takes X W) (ha : PA X (e :: es) t) (hdb : (Str.ofString c == ("__debug__" : Str)) = false)
    (he : starEach (e :: es) X.env = (false, eval e X.env) :: starEach es X.env) (hpl : (backTo pos (starEach es X.env)).any (·.1) = false) :
    PE X (.Call (.Name (Str.ofString c) p) (e :: es) [] pos) (rNew X c t W) := by
  refine ⟨fun pins s σ H Q I h => ?_⟩
  refine wpAny_Call_Name_kw (ld_glob I hg hm ?_ hdb)
  refine PySem.W.callWith_K (h₀ := X.base) I.ok.mod.kin hk (thn (ha.run pos pins s σ H _ I h) fun us s1 ⟨vs, H1, I1, r, k, f, sp, F, hr, M, q⟩ => ⟨I1.kIn, ?_⟩) he hpl
  exact run_new M F hr (passAt tk σ) I1 r q
theorem pe_new0 {c : String} {p pos : Pos} {W : WX} (hg : Gl X (Str.ofString c)) (hm : X.mg (Str.ofString c) = some (.ref (gaS X.K c))) (hk : PySem.W.keepIn X.K (.ref (gaS X.K c)) = true) (tk : Takes X W) (hdb : (Str.ofString c == ("__debug__" : Str)) = false) :
    PE X (.Call (.Name (Str.ofString c) p) [] [] pos) (rNew X c (fun σ H Q => Q [] H) W) := by
  refine ⟨fun pins s σ H Q I ⟨k, f, sp, F, hr, M, q⟩ => ?_⟩
  refine wpAny_Call_Name_kw (ld_glob I hg hm ?_ hdb)
  exact PySem.W.callWith_K0 I.kIn hk (run_new (us := []) M F hr (passAt tk σ) I .nil q)
theorem new_of (hc : ClsF X G) {c : String} {ms : List E} {t : TA} (ht : ∀ σ H Q, tA X (evs G ms) Wx σ H Q → t σ H Q) {σ : L2.St} {H : Hp} {Q : VK} (h : tE X (ev G (.new c ms)) Wx σ H Q) : rNew X c t Wx σ H Q := by
  obtain ⟨ρ, st, hR, h⟩ := h
  rw [ev] at h
  refine ht _ _ _ (tA.bindE hR h (fun _ _ x => x) fun rs st1 vs H1 ρ1 e0 s1 r1 n1 h => ?_)
  obtain ⟨ds, st2, e, h⟩ := wp_of2 (Wp.bind.mp h)
  obtain ⟨ρ2, s2, _, hv⟩ := toDs_sound s1 r1 n1 e
  cases q : G.cl.nw c with
  | none =>
    rw [q] at h
    exact h.elim
  | some f =>
    rw [q] at h
    simp only at h
    obtain ⟨k, fa, F, hr, M, hm, hi⟩ := hc.nw c f q
    refine ⟨k, fa, _, F, hr, M, fun x dx hx hdx ne => ?_⟩
    have same : Same H1 (upd (upd H1 dx (.own x)) x (.ins (gaS X.K c) dx [])) := fun b o e => by
      rw [upd_ne (ne_of_none e hx), upd_ne (ne_of_none e hdx)]
      exact e
    have s3 := Step.push (x := .ins c []) s2.res same hx ⟨dx, [], upd_same, rfl, hi, fun q hq => by simp at hq⟩
    have hl : ρ2.length = st2.h.length := s2.res.hr.len
    have hself : VR X.K (ρ2 ++ [x]) (upd (upd H1 dx (.own x)) x (.ins (gaS X.K c) dx [])) (.ref st2.h.length) (.ref x) := ⟨x, by rw [← hl]; simp, rfl⟩
    refine ⟨ρ2 ++ [x], st2.h ++ [.ins c []], .ref st2.h.length :: ds, s3.res.hr, .cons hself (hv.mono (Pers.same same) s3.pre ds vs), by simp [hv.length], ?_⟩
    have s4 := s2.trans s3
    cases q3 : G.call f (.ref st2.h.length :: ds) (st2.h ++ [.ins c []]) with
    | bad =>
      rw [q3] at h
      exact h.elim
    | ok r h' =>
      rw [q3] at h
      intro v H' ρ' hs hrc
      have hs5 := hs.step s3.res
      cases r with
      | d y =>
        cases y with
        | non =>
          refine ⟨hrc, ?_⟩
          refine h (.ref x) H' ρ' (s4.trans hs5) ⟨x, pre_get hs.pre (by rw [← hl]; simp), rfl⟩ fun x p e1 e2 => nomatch e1
        | _ => exact h.elim
      | _ => exact h.elim
    | ex c h' =>
      rw [q3] at h
      intro cls H' ρ' hs hc
      exact h cls H' ρ' (s4.trans (hs.step s3.res)) hc
theorem se_new (hc : ClsF X G) {c : String} {ms : List E} {e : Expr} {es : List Expr} {p pos : Pos} (hg : Gl X (Str.ofString c)) (hm : X.mg (Str.ofString c) = some (.ref (gaS X.K c))) (hk : PySem.W.keepIn X.K (.ref (gaS X.K c)) = true) (hdb : (Str.ofString c == ("__debug__" : Str)) = false)
    (he : starEach (e :: es) X.env = (false, eval e X.env) :: starEach es X.env) (hpl : (backTo pos (starEach es X.env)).any (·.1) = false) (ha : SA X G ms (e :: es)) :
    SE X G (.new c ms) (.Call (.Name (Str.ofString c) p) (e :: es) [] pos) := fun Wx tk =>
  PE.imp (pe_new hg hm hk tk (ha Wx tk) hdb he hpl) fun σ H Q h => new_of hc (fun _ _ _ z => z) h
theorem se_new0 (hc : ClsF X G) {c : String} {p pos : Pos} (hg : Gl X (Str.ofString c)) (hm : X.mg (Str.ofString c) = some (.ref (gaS X.K c))) (hk : PySem.W.keepIn X.K (.ref (gaS X.K c)) = true) (hdb : (Str.ofString c == ("__debug__" : Str)) = false) :
    SE X G (.new c []) (.Call (.Name (Str.ofString c) p) [] [] pos) := fun Wx tk =>
  PE.imp (pe_new0 hg hm hk tk hdb) fun σ H Q h => new_of hc (fun σ H Q ⟨ρ, st, hR, z⟩ => by
    simp only [evs] at z
    exact z [] H ρ (Step.refl hR) rfl fun j x p e _ => by simp at e) h
end
end EW

-- part: DispT
set_option maxHeartbeats 2000000
/-! {k: v, ..} -/
namespace EW
open PySem PySem.Spec PyProof.Rows L2
/-- keys and values, one behind the other -/
def flatE : List (Option Expr) → List Expr → Option (List Expr)
  | [], [] => some []
  | some k :: ks, v :: vs => (flatE ks vs).map fun r => k :: v :: r
  | _, _ => none
theorem flatE_ok : ∀ {eks : List (Option Expr)} {evs es : List Expr}, flatE eks evs = some es → eks.all (·.isSome) = true ∧ eks.length = evs.length ∧ es.length = 2 * eks.length
  | [], [], es, h => by
    cases h
    exact ⟨rfl, rfl, rfl⟩
  | [], _ :: _, es, h => by cases h
  | none :: _, [], es, h => by cases h
  | none :: _, _ :: _, es, h => by cases h
  | some k :: ks, [], es, h => by cases h
  | some k :: ks, v :: vs, es, h => by
    simp only [flatE, Option.map_eq_some_iff] at h
    obtain ⟨r, h1, rfl⟩ := h
    obtain ⟨a, b, c⟩ := flatE_ok h1
    exact ⟨by simpa using a, by simp [b], by simp [c]; omega⟩
def flatP : List (V × V) → List V
  | [] => []
  | p :: r => p.1 :: p.2 :: flatP r
theorem flatP_inj : ∀ {a b : List (V × V)}, flatP a = flatP b → a = b
  | [], [], _ => rfl
  | [], _ :: _, h => by cases h
  | _ :: _, [], h => by cases h
  | p :: a, q :: b, h => by
    simp only [flatP, List.cons.injEq] at h
    obtain ⟨h1, h2, h3⟩ := h
    rw [flatP_inj h3, Prod.ext h1 h2]
section
variable {X : Cx} {G : Gam} {Wx : WX}
noncomputable def trsOf (X : Cx) (G : Gam) (Wx : WX) : List E → List (TE × TE)
  | k :: v :: r => (tE X (ev G k) Wx, tE X (ev G v) Wx) :: trsOf X G Wx r
  | _ => []
theorem pps_of {pos : Pos} (tk : Takes X Wx) : ∀ {eks : List (Option Expr)} {evs es : List Expr} {ms : List E}, flatE eks evs = some es → es.length = ms.length → (∀ (i : Nat) (m : E) (e : Expr), ms[i]? = some m → es[i]? = some e → SE X G m e) → PPs X pos eks evs (trsOf X G Wx ms)
  | [], [], es, ms, h, hl, hs => by
    cases h
    have e : ms = [] := List.length_eq_zero_iff.mp (by simpa using hl.symm)
    subst e
    exact pps_nil
  | [], _ :: _, es, ms, h, hl, hs => by cases h
  | none :: _, [], es, ms, h, hl, hs => by cases h
  | none :: _, _ :: _, es, ms, h, hl, hs => by cases h
  | some k :: ks, [], es, ms, h, hl, hs => by cases h
  | some k :: ks, v :: vs, es, ms, h, hl, hs => by
    simp only [flatE, Option.map_eq_some_iff] at h
    obtain ⟨r, h1, rfl⟩ := h
    match ms, hl, hs with
    | [], hl, hs => simp at hl
    | [_], hl, hs => simp at hl
    | mk :: mv :: mr, hl, hs =>
      exact pps_cons (hs 0 mk k rfl rfl Wx tk) (hs 1 mv v rfl rfl Wx tk) (pps_of tk h1 (by simpa using hl) fun i m e e1 e2 => hs (i + 2) m e (by simpa using e1) (by simpa using e2))
theorem tA_cons {m : E} {ms : List E} {σ : L2.St} {H : Hp} {Q : List V → Hp → Prop} (h : tA X (evs G (m :: ms)) Wx σ H Q) : tE X (ev G m) Wx σ H fun v H1 => tA X (evs G ms) Wx σ H1 fun vs H2 => Q (v :: vs) H2 := by
  obtain ⟨ρ, st, hR, h⟩ := h
  simp only [evs] at h
  refine tE.bind hR h (fun _ _ x => x) fun r st1 v H1 ρ1 s1 r1 n1 h => ?_
  refine ⟨ρ1, st1, s1.res, Wp.mono (Wp.bind.mp h) (fun rs st2 h2 vs H2 ρ2 s2 r2 n2 => ?_) fun _ _ x => x.back s1⟩
  refine h2 (v :: vs) H2 ρ2 (s1.trans s2) ⟨v, vs, rfl, ER.step s1.res s2 r1, r2, fun x p e1 e2 j y e3 e4 => ?_⟩ fun j x p e1 e2 => ?_
  · subst e1 e2
    obtain ⟨p', e5, hx, n⟩ := r1
    cases e5
    obtain ⟨o, e6, _⟩ := hx.there
    rcases n2 j y p e3 e4 with z | z
    · rw [e6] at z
      cases z
    · exact n z
  · cases j with
    | zero =>
      simp at e1 e2
      exact n1 x p e1 e2
    | succ j =>
      rcases n2 j x p (by simpa using e1) (by simpa using e2) with z | z
      · exact New.back s1 z
      · rcases s1.grow p z with z | z
        · exact .inr z
        · exact .inl z
theorem tPairs_of : ∀ {ms : List E} {σ : L2.St} {H : Hp} {Q : List V → Hp → Prop} {Q' : List (V × V) → Hp → Prop} (n : Nat), ms.length = 2 * n → tA X (evs G ms) Wx σ H Q → (∀ ps H2, Q (flatP ps) H2 → Q' ps H2) → tPairs (trsOf X G Wx ms) σ H Q'
  | [], σ, H, Q, Q', n, hl, h, k => by
    obtain ⟨ρ, st, hR, h⟩ := h
    simp only [evs] at h
    exact k [] H (h [] H ρ (Step.refl hR) rfl (fun j x p e => by simp at e))
  | [_], σ, H, Q, Q', n, hl, h, k => by
    simp at hl
    omega
  | mk :: mv :: mr, σ, H, Q, Q', n, hl, h, k => by
    refine tE.mono (tA_cons h) fun x H1 h1 => ?_
    refine tE.mono (tA_cons h1) fun y H2 h2 => ?_
    exact tPairs_of (ms := mr) (n - 1) (by simp at hl; omega) h2 fun ps H3 q => k ((x, y) :: ps) H3 q
theorem VRs.pairUp {K : PySem.W.Frag} {ρ : List Addr} {H : Hp} : ∀ {ds : List D} {vs : List V} {prs : List (D × D)}, VRs K ρ H ds vs → EW.pairUp ds = some prs → ∃ kvs : List (Key × V), vs = flatP (kvs.map fun kv => (kV kv.1, kv.2)) ∧ KVs K ρ H fkey prs kvs ∧ ds.length = 2 * kvs.length
  | [], vs, prs, h, e => by
    cases e
    cases (show vs = [] from h)
    exact ⟨[], rfl, rfl, rfl⟩
  | [_], vs, prs, h, e => by cases e
  | k :: v :: r, vs, prs, h, e => by
    simp only [EW.pairUp] at e
    split at e
    · rename_i hk
      simp only [Option.map_eq_some_iff] at e
      obtain ⟨prs', e, rfl⟩ := e
      obtain ⟨x, t, rfl, h1, y, t', rfl, h2, h3⟩ := h
      obtain ⟨kvs, g1, g2, g3⟩ := VRs.pairUp h3 e
      obtain ⟨key, hk⟩ := Option.isSome_iff_exists.mp hk
      refine ⟨(key, y) :: kvs, ?_, ⟨key, y, kvs, rfl, hk, h2, g2⟩, by simp [g3]; omega⟩
      rw [fkey_V h1 hk, g1]
      rfl
    · cases e
theorem KVs.puts {K : PySem.W.Frag} {ρ : List Addr} {H : Hp} : ∀ {prs : List (D × D)} {kvs : List (Key × V)} {acc : List (D × D)} {ks : List (Key × V)}, KVs K ρ H fkey acc ks → KVs K ρ H fkey prs kvs → KVs K ρ H fkey (dputs acc prs) (mergeK ks kvs)
  | [], kvs, acc, ks, h, g => by
    cases (show kvs = [] from g)
    exact h
  | p :: r, kvs, acc, ks, h, g => by
    obtain ⟨k, v, t, rfl, h1, h2, h3⟩ := g
    have z := KVs.put (f := fkey) h1 h2 h
    rw [← dput_f] at z
    exact KVs.puts (acc := dput false acc p.1 p.2) (ks := putK ks k v) z h3
/-- a dict that Mini has not yet may change -/
theorem Step.updK {K : PySem.W.Frag} {ρ ρ' : List Addr} {H H' : Hp} {st st' : St} {σ σ' : L2.St} (s : Step K ρ H st σ ρ' H' st' σ') {a : Addr} {ks : List (Key × V)} (e : H a = none) (e' : H' a = some (.dK ks)) (n : ¬ Dom st' σ' ρ' a) (xs : List (Key × V)) : Step K ρ H st σ ρ' (upd H' a (.dK xs)) st' σ' ∧ Pers H' (upd H' a (.dK xs)) := by
  have hb : ∀ {b : Addr} {o : HO}, H' b = some o → (∀ ks, o ≠ .dK ks) → b ≠ a := fun h n z => by
    subst z
    rw [h] at e'
    cases e'
    exact n _ rfl
  have ps : Pers H' (upd H' a (.dK xs)) := ⟨fun b ys h => (upd_ne (hb h fun _ z => nomatch z)).trans h, fun b o u _ h => (upd_ne (hb h fun _ z => nomatch z)).trans h, fun b φ h => (upd_ne (hb h fun _ z => nomatch z)).trans h⟩
  have keep : ∀ {p : Addr} {x : O}, Dom st' σ' ρ' p → OR K ρ' H' p x → OR K ρ' (upd H' a (.dK xs)) p x := fun {p x} d h =>
    OR.mono (upd_ne fun z => n (z ▸ d)) ps (List.prefix_refl _) h
  refine ⟨⟨⟨⟨s.res.hr.len, s.res.hr.nd, fun i p x h1 h2 => keep (.inl (List.mem_of_getElem? h1)) (s.res.hr.obj i p x h1 h2)⟩, s.res.len, fun i sl h => ?_, s.res.sep⟩, s.pre, fun b o h nd => ?_, s.grow, fun b o u h => ?_⟩, ps⟩
  · have z := s.res.sl i sl h
    cases sl with
    | un => trivial
    | d x =>
      obtain ⟨v, e1, h1⟩ := z
      exact ⟨v, e1, h1.mono ps (List.prefix_refl _) x v⟩
    | o x =>
      obtain ⟨p, e1, h1, nr⟩ := z
      exact ⟨p, e1, keep (.inr ⟨i, x, h, e1⟩) h1, nr⟩
  · have nb : b ≠ a := fun z => by
      subst z
      rw [e] at h
      cases h
    rw [upd_ne nb]
    exact s.frame b o h nd
  · have nb : b ≠ a := fun z => by
      subst z
      rw [e] at h
      cases h
    rw [upd_ne nb]
    exact s.frz b o u h
theorem se_dsp {ms : List E} {vs' : List E} {eks : List (Option Expr)} {evs es : List Expr} {pos : Pos} (hf : flatE eks evs = some es) (hl : es.length = ms.length) (h0 : eks ≠ []) (h15 : eks.length ≤ 15) (hs : ∀ (i : Nat) (m : E) (e : Expr), ms[i]? = some m → es[i]? = some e → SE X G m e) :
    SE X G (.dct false ms vs') (.Dict eks evs pos) := fun Wx tk => by
  obtain ⟨a1, a2, a3⟩ := flatE_ok hf
  refine PE.imp (pe_disp (pps_of tk hf hl hs) a1 a2 h0 h15) ?_
  rintro σ H Q ⟨ρ, st, hR, h⟩ p hp
  rw [ev] at h
  have s0 := Step.ext hR (same_new (o := .dK []) hp)
  have np := hR.notDom hp
  refine tPairs_of (Q := fun vs H2 => H2 p = some (.dK []) ∧ ∃ kvs : List (Key × V), vs = flatP (kvs.map (fun kv => (kV kv.1, kv.2))) ∧ kvs.length ≤ 15 ∧ Q (.ref p) (upd H2 p (.dK (mergeK [] kvs)))) eks.length (by omega) ?_ fun ps H2 ⟨q1, kvs, q2, q3, q4⟩ => ⟨q1, kvs, flatP_inj q2, q3, q4⟩
  refine tA.bind s0.res h (fun _ _ x => x.back s0) fun rs st1 vs H1 ρ1 s1 r1 n1 h => ?_
  obtain ⟨ds, st2, e, h⟩ := wp_of2 (Wp.bind.mp h)
  obtain ⟨ρ2, s2, _, hv⟩ := toDs_sound s1 r1 n1 e
  obtain ⟨e1, n2⟩ := s2.off upd_same np
  have hm : ∀ o, mkDct false ds = some o → ds.length ≤ 30 ∧ ∃ prs, EW.pairUp ds = some prs ∧ o = .dct false (dputs [] prs) := fun o z => by
    cases ds with
    | nil =>
      cases z
      exact ⟨by simp, [], rfl, rfl⟩
    | cons d r =>
      simp only [mkDct] at z
      split at z
      · rename_i c
        simp only [Option.map_eq_some_iff] at z
        obtain ⟨prs, z1, z2⟩ := z
        exact ⟨c.2, prs, z1, z2.symm⟩
      · cases z
  cases q : mkDct false ds with
  | none =>
    rw [q] at h
    exact h.elim
  | some o =>
    rw [q] at h
    obtain ⟨c1, prs, c2, rfl⟩ := hm o q
    obtain ⟨kvs, g1, g2, g3⟩ := hv.pairUp c2
    refine ⟨e1, kvs, g1, by omega, ?_⟩
    have s3 := s0.trans s2
    obtain ⟨s4, ps⟩ := s3.updK hp e1 n2 (mergeK [] kvs)
    refine h (.ref p) _ ρ2 s4 ⟨p, rfl, ⟨_, upd_same, (KVs.puts (acc := []) (ks := []) rfl g2).mono ps (List.prefix_refl _)⟩, n2⟩ fun x q' _ e => ?_
    cases e
    exact .inl hp
end
end EW

-- part: LockA
set_option maxHeartbeats 2000000
/-! a dict locked, Mini's heap laid aside: the states -/
namespace EW
open PySem PySem.Spec PyProof.Rows L2
mutual
/-- without refs nothing is leant on -/
theorem VR.bare {K : PySem.W.Frag} {ρ : List Addr} {H : Hp} : ∀ (d : D) (v : V), d.lt 0 = true → VR K ρ H d v → VR K [] H d v
  | .non, v, _, h => h
  | .bl b, v, _, h => h
  | .int i, v, _, h => h
  | .str x, v, _, h => h
  | .tup ds, v, l, h => by
    obtain ⟨a, vs, e, hs, hr⟩ := h
    exact ⟨a, vs, e, hs, VRs.bare ds vs (by simpa [D.lt] using l) hr⟩
  | .ref i, v, l, h => by simp [D.lt] at l
  | .fz ds, v, l, h => by
    obtain ⟨a, vs, e, hs, hr⟩ := h
    exact ⟨a, vs, e, hs, VRs.bare ds vs (by simpa [D.lt] using l) hr⟩
  | .exn c, v, _, h => h
theorem VRs.bare {K : PySem.W.Frag} {ρ : List Addr} {H : Hp} : ∀ (ds : List D) (vs : List V), D.lts 0 ds = true → VRs K ρ H ds vs → VRs K [] H ds vs
  | [], vs, _, h => h
  | d :: ds, vs, l, h => by
    obtain ⟨v, r, e, h1, h2⟩ := h
    have l' : d.lt 0 = true ∧ D.lts 0 ds = true := by simpa [D.lts] using l
    exact ⟨v, r, e, VR.bare d v l'.1 h1, VRs.bare ds r l'.2 h2⟩
end
section
variable {K : PySem.W.Frag} {ρ : List Addr} {H H' : Hp} {st : St} {σ : L2.St}
theorem KVs.bare {κ : Type} {f : D → Option κ} : ∀ {kvs : List (D × D)} {ks : List (κ × V)}, (kvs.all fun p => p.1.lt 0 && p.2.lt 0) = true → KVs K ρ H f kvs ks → KVs K [] H f kvs ks
  | [], ks, _, h => h
  | q :: r, ks, l, h => by
    obtain ⟨k, v, t, e, h1, h2, h3⟩ := h
    rw [List.all_cons, Bool.and_eq_true, Bool.and_eq_true] at l
    exact ⟨k, v, t, e, h1, VR.bare _ _ l.1.2 h2, KVs.bare l.2 h3⟩
theorem FVs.bare : ∀ {fs : List (String × D)} {vs : List (Str × V)}, (fs.all fun p => p.2.lt 0) = true → FVs K ρ H fs vs → FVs K [] H fs vs
  | [], vs, _, h => h
  | q :: r, vs, l, h => by
    obtain ⟨v, t, e, h2, h3⟩ := h
    rw [List.all_cons, Bool.and_eq_true] at l
    exact ⟨v, t, e, VR.bare q.2 v l.1 h2, FVs.bare l.2 h3⟩
theorem OR.bare {p : Addr} {x : O} (l : x.lt 0 = true) (h : OR K ρ H p x) : OR K [] H p x := by
  cases x with
  | lst ds =>
    obtain ⟨vs, h1, h2⟩ := h
    exact ⟨vs, h1, VRs.bare _ _ l h2⟩
  | dct t kvs =>
    cases t with
    | false =>
      obtain ⟨ks, h1, h2⟩ := h
      exact ⟨ks, h1, KVs.bare l h2⟩
    | true =>
      obtain ⟨ks, h1, h2⟩ := h
      exact ⟨ks, h1, KVs.bare l h2⟩
  | ins c fs =>
    obtain ⟨dx, vs, h1, h2, h3⟩ := h
    exact ⟨dx, vs, h1, FVs.bare l h2, h3⟩
  | lkd kvs =>
    obtain ⟨o, ks, h1, h2⟩ := h
    exact ⟨o, ks, h1, KVs.bare l h2⟩
theorem mask_get (σ : List Sl) (j : Nat) : (maskS σ)[j]? = (σ[j]?).map fun s => if s.bare = true then s else .un := by
  unfold maskS
  rw [List.getElem?_map]
theorem mask_o {σ : List Sl} {j : Nat} {x : O} (h : (maskS σ)[j]? = some (.o x)) : σ[j]? = some (.o x) ∧ x.lt 0 = true := by
  rw [mask_get] at h
  cases e : σ[j]? with
  | none =>
    rw [e] at h
    cases h
  | some s =>
    rw [e] at h
    simp only [Option.map_some, Option.some.injEq] at h
    by_cases b : s.bare = true
    · rw [if_pos b] at h
      subst h
      exact ⟨rfl, b⟩
    · rw [if_neg b] at h
      cases h
theorem unm_get : ∀ (s t : List Sl) (j : Nat), s.length = t.length → (unmS s t)[j]? = match s[j]?, t[j]? with
    | some a, some b => some (if a.bare = true then b else a)
    | _, _ => none
  | [], [], j, _ => by simp [unmS]
  | [], _ :: _, j, h => by simp at h
  | _ :: _, [], j, h => by simp at h
  | a :: s, b :: t, 0, h => by simp [unmS]
  | a :: s, b :: t, j + 1, h => by
    simp only [unmS, List.getElem?_cons_succ]
    exact unm_get s t j (by simpa using h)
theorem unm_len : ∀ (s t : List Sl), s.length = t.length → (unmS s t).length = s.length
  | [], [], _ => rfl
  | [], _ :: _, h => by simp at h
  | _ :: _, [], h => by simp at h
  | a :: s, b :: t, h => by
    simp only [unmS, List.length_cons]
    rw [unm_len s t (by simpa using h)]
/-- the state laid aside: only what has no refs -/
theorem Res.mask {p : Addr} {o : HO} (r : Res K ρ H st σ) (hp : p ∈ ρ) (ps : Pers H (upd H p o)) : Res K [] (upd H p o) ⟨maskS st.σ, []⟩ σ ∧ ∀ a, Dom ⟨maskS st.σ, []⟩ σ [] a → Dom st σ ρ a ∧ a ∉ ρ := by
  refine ⟨⟨⟨rfl, List.nodup_nil, fun i q x e => by simp at e⟩, by simp [maskS, r.len], fun j s h => ?_, fun i j x y q hij h1 h2 h3 h4 => ?_⟩, fun a h => ?_⟩
  · cases s with
    | un => trivial
    | d x =>
      have h' : (maskS st.σ)[j]? = some (.d x) := h
      rw [mask_get] at h'
      cases e : st.σ[j]? with
      | none =>
        rw [e] at h'
        cases h'
      | some s =>
        rw [e] at h'
        simp only [Option.map_some, Option.some.injEq] at h'
        by_cases b : s.bare = true
        · rw [if_pos b] at h'
          subst h'
          obtain ⟨v, e1, h1⟩ := r.sl j _ e
          exact ⟨v, e1, (VR.bare _ _ b h1).mono ps (List.prefix_refl _)⟩
        · rw [if_neg b] at h'
          cases h'
    | o x =>
      obtain ⟨e, b⟩ := mask_o h
      obtain ⟨q, e1, h1, n⟩ := r.sl j _ e
      have hq : q ≠ p := fun z => n (z ▸ hp)
      exact ⟨q, e1, (OR.bare b h1).mono (upd_ne hq) ps (List.prefix_refl _), fun z => by cases z⟩
  · exact r.sep i j x y q hij (mask_o h1).1 (mask_o h2).1 h3 h4
  · rcases h with h | ⟨j, x, h1, h2⟩
    · cases h
    · obtain ⟨e, _⟩ := mask_o h1
      obtain ⟨q, e1, _, n⟩ := r.sl j _ e
      rw [h2] at e1
      cases e1
      exact ⟨.inr ⟨j, x, e, h2⟩, n⟩
end
theorem upd_frz {H : Hp} {p : Addr} {od : Obj} {ks : List (Key × V)} (h : H p = some (.dK ks)) : Pers H (upd H p (.frz od (.dK ks))) := by
  have ne : ∀ {a : Addr} {o : HO}, H a = some o → (∀ ks, o ≠ .dK ks) → a ≠ p := fun e n z => by
    subst z
    rw [h] at e
    cases e
    exact n _ rfl
  exact ⟨fun a xs e => (upd_ne (ne e fun _ z => nomatch z)).trans e, fun a o u _ e => (upd_ne (ne e fun _ z => nomatch z)).trans e, fun a φ e => (upd_ne (ne e fun _ z => nomatch z)).trans e⟩
theorem upd_dK {H : Hp} {p : Addr} {od : Obj} {ks ks' : List (Key × V)} (h : H p = some (.frz od (.dK ks))) : Pers H (upd H p (.dK ks')) := by
  refine ⟨fun a xs e => (upd_ne fun z => ?_).trans e, fun a o u k e => (upd_ne fun z => ?_).trans e, fun a φ e => (upd_ne fun z => ?_).trans e⟩
  · subst z
    rw [h] at e
    cases e
  · subst z
    rw [h] at e
    cases e
    exact k _ rfl
  · subst z
    rw [h] at e
    cases e
section
variable {K : PySem.W.Frag} {ρ : List Addr} {H : Hp} {st : St} {σ : L2.St}
/-- behind the lock: what was laid aside stands again -/
theorem Step.unmask {p : Addr} {od : Obj} {ks : List (Key × V)} {Hi : Hp} {sti : St} {σi : L2.St} {vs : List Nat} (r : Res K ρ H st σ) (hp : p ∈ ρ) (hd : H p = some (.dK ks)) (s : Step K [] (upd H p (.frz od (.dK ks))) ⟨maskS st.σ, []⟩ σ [] Hi sti σi)
    (ag : ∀ j, j ∉ vs → σi[j]? = σ[j]?) (hv : ∀ j ∈ vs, asideB st.σ j = false) (hl : st.σ.length = sti.σ.length) :
    Hi p = some (.frz od (.dK ks)) ∧ Step K ρ H st σ ρ (upd Hi p (.dK ks)) ⟨unmS st.σ sti.σ, st.h⟩ σi := by
  obtain ⟨m, dm⟩ := r.mask hp (upd_frz (od := od) hd)
  have hHi : Hi p = some (.frz od (.dK ks)) := s.frame p _ upd_same fun z => (dm p z).2 hp
  refine ⟨hHi, ?_⟩
  have pers1 : Pers H Hi := (upd_frz (od := od) hd).trans (Step.pers m s)
  have pers : Pers H (upd Hi p (.dK ks)) := pers1.trans (upd_dK hHi)
  have ofIn : ∀ a, a ∈ ρ → ∃ o, H a = some o := fun a ha => by
    obtain ⟨x, h1⟩ := r.dom (.inl ha)
    obtain ⟨o, e, _⟩ := h1.there
    exact ⟨o, e⟩
  -- what the loop has not
  have stay : ∀ a o, H a = some o → ¬ Dom ⟨maskS st.σ, []⟩ σ [] a → upd Hi p (.dK ks) a = some o := fun a o e n => by
    by_cases q : a = p
    · subst q
      rw [hd] at e
      cases e
      exact upd_same
    · rw [upd_ne q]
      exact s.frame a o (by rw [upd_ne q]; exact e) n
  have noneH : ∀ a, upd H p (.frz od (.dK ks)) a = none → H a = none ∧ a ≠ p := fun a e => by
    by_cases q : a = p
    · subst q
      rw [upd_same] at e
      cases e
    · rw [upd_ne q] at e
      exact ⟨e, q⟩
  have inP : ∀ {j : Nat} {sl : Sl}, (unmS st.σ sti.σ)[j]? = some sl → ∃ a b, st.σ[j]? = some a ∧ sti.σ[j]? = some b ∧ sl = if a.bare = true then b else a := fun {j sl} h => by
    rw [unm_get _ _ _ hl] at h
    cases e1 : st.σ[j]? with
    | none =>
      rw [e1] at h
      cases h
    | some a =>
      cases e2 : sti.σ[j]? with
      | none =>
        rw [e1, e2] at h
        cases h
      | some b =>
        rw [e1, e2] at h
        exact ⟨a, b, rfl, rfl, (Option.some.inj h).symm⟩
  have agA : ∀ {j : Nat} {a : Sl}, st.σ[j]? = some a → ¬ a.bare = true → σi[j]? = σ[j]? := fun {j a} e n => ag j fun hj => by
    have z := hv j hj
    unfold asideB at z
    rw [e] at z
    exact n (by simpa using z)
  -- an object that a slot laid aside has
  have offA : ∀ {j : Nat} {x : O} {q : Addr}, st.σ[j]? = some (.o x) → ¬ (Sl.o x).bare = true → σ[j]? = some (some (.ref q)) → ¬ Dom ⟨maskS st.σ, []⟩ σ [] q := fun {j x q} e n eq d => by
    rcases d with d | ⟨j', y, h1, h2⟩
    · cases d
    · obtain ⟨h3, h4⟩ := mask_o h1
      by_cases z : j = j'
      · subst z
        rw [e] at h3
        cases h3
        exact n h4
      · exact r.sep j j' x y q z e h3 eq h2
  -- an object that the loop has
  have onB : ∀ {j : Nat} {x : O} {q : Addr}, sti.σ[j]? = some (.o x) → σi[j]? = some (some (.ref q)) → q ≠ p ∧ q ∉ ρ ∧ (Dom st σ ρ q ∨ H q = none) ∧ (Dom ⟨maskS st.σ, []⟩ σ [] q ∨ H q = none) := fun {j x q} e eq => by
    rcases s.grow q (.inr ⟨j, x, e, eq⟩) with z | z
    · obtain ⟨z1, z2⟩ := dm q z
      exact ⟨fun y => z2 (y ▸ hp), z2, .inl z1, .inl z⟩
    · obtain ⟨z1, z2⟩ := noneH q z
      have nq : q ∉ ρ := fun hq => by
        obtain ⟨o, e⟩ := ofIn q hq
        rw [z1] at e
        cases e
      exact ⟨z2, nq, .inr z1, .inr z1⟩
  refine ⟨⟨⟨r.hr.len, r.hr.nd, fun j q x e1 e2 => ?_⟩, ?_, fun j sl h => ?_, fun i j x y q hij h1 h2 h3 h4 => ?_⟩, List.prefix_refl _, fun a o e n => stay a o e fun d => n (dm a d).1, fun a d => ?_, fun a o u e => by
    have q : a ≠ p := fun z => by
      subst z
      rw [hd] at e
      cases e
    rw [upd_ne q]
    exact s.frz a o u (by rw [upd_ne q]; exact e)⟩
  · have hq : q ∈ ρ := List.mem_of_getElem? e1
    obtain ⟨o, e⟩ := ofIn q hq
    exact (r.hr.obj j q x e1 e2).mono ((stay q o e fun d => (dm q d).2 hq).trans e.symm) pers (List.prefix_refl _)
  · show σi.length = (unmS st.σ sti.σ).length
    rw [unm_len _ _ hl, s.res.len, hl]
  · obtain ⟨a, b, e1, e2, rfl⟩ := inP h
    by_cases q : a.bare = true
    · rw [if_pos q]
      have z := s.res.sl j b e2
      cases b with
      | un => trivial
      | d x =>
        obtain ⟨v, g1, g2⟩ := z
        exact ⟨v, g1, g2.mono (upd_dK hHi) (List.nil_prefix)⟩
      | o x =>
        obtain ⟨p', g1, g2, _⟩ := z
        obtain ⟨n1, n2, _⟩ := onB e2 g1
        exact ⟨p', g1, g2.mono (upd_ne n1) (upd_dK hHi) (List.nil_prefix), n2⟩
    · rw [if_neg q]
      have ea := agA e1 q
      have z := r.sl j a e1
      cases a with
      | un => trivial
      | d x =>
        obtain ⟨v, g1, g2⟩ := z
        exact ⟨v, ea.trans g1, g2.mono pers (List.prefix_refl _)⟩
      | o x =>
        obtain ⟨p', g1, g2, g3⟩ := z
        obtain ⟨o, e, _⟩ := g2.there
        exact ⟨p', ea.trans g1, g2.mono ((stay p' o e (offA e1 q g1)).trans e.symm) pers (List.prefix_refl _), g3⟩
  · obtain ⟨a, b, e1, e2, ex⟩ := inP h1
    obtain ⟨a', b', e1', e2', ex'⟩ := inP h2
    by_cases c : a.bare = true
    · rw [if_pos c] at ex
      subst ex
      by_cases c' : a'.bare = true
      · rw [if_pos c'] at ex'
        subst ex'
        exact s.res.sep i j x y q hij e2 e2' h3 h4
      · rw [if_neg c'] at ex'
        subst ex'
        have ea := agA e1' c'
        rw [ea] at h4
        obtain ⟨p', g1, g2, _⟩ := r.sl j _ e1'
        rw [h4] at g1
        cases g1
        obtain ⟨o, e, _⟩ := g2.there
        obtain ⟨_, _, _, z⟩ := onB e2 h3
        rcases z with z | z
        · exact offA e1' c' h4 z
        · rw [z] at e
          cases e
    · rw [if_neg c] at ex
      subst ex
      have ea := agA e1 c
      rw [ea] at h3
      by_cases c' : a'.bare = true
      · rw [if_pos c'] at ex'
        subst ex'
        obtain ⟨p', g1, g2, _⟩ := r.sl i _ e1
        rw [h3] at g1
        cases g1
        obtain ⟨o, e, _⟩ := g2.there
        obtain ⟨_, _, _, z⟩ := onB e2' h4
        rcases z with z | z
        · exact offA e1 c h3 z
        · rw [z] at e
          cases e
      · rw [if_neg c'] at ex'
        subst ex'
        rw [agA e1' c'] at h4
        exact r.sep i j x y q hij e1 e1' h3 h4
  · rcases d with d | ⟨j, x, h1, h2⟩
    · exact .inl (.inl d)
    · obtain ⟨a', b, e1, e2, ex⟩ := inP h1
      by_cases c : a'.bare = true
      · rw [if_pos c] at ex
        subst ex
        exact (onB e2 h2).2.2.1
      · rw [if_neg c] at ex
        subst ex
        rw [agA e1 c] at h2
        exact .inl (.inr ⟨j, x, e1, h2⟩)
end
/-- the pairs -/
theorem KVs.pair {K : PySem.W.Frag} {ρ : List Addr} {H : Hp} : ∀ {kvs : List (D × D)} {ks : List (Key × V)} {i : Nat} {k : Key} {v : V}, KVs K ρ H fkey kvs ks → ks[i]? = some (k, v) → ∃ d e, kvs[i]? = some (d, e) ∧ VR K ρ H d (kV k) ∧ VR K ρ H e v
  | [], ks, i, k, v, h, e => by
    cases (show ks = [] from h)
    simp at e
  | q :: r, ks, i, k, v, h, e => by
    obtain ⟨k', v', t, rfl, h1, h2, h3⟩ := h
    cases i with
    | zero =>
      simp only [List.getElem?_cons_zero, Option.some.injEq, Prod.mk.injEq] at e
      obtain ⟨rfl, rfl⟩ := e
      refine ⟨q.1, q.2, rfl, ?_, h2⟩
      obtain ⟨d, z⟩ := q
      have hk : fkey d = some k' := h1
      cases d with
      | int i =>
        cases hk
        rfl
      | str x =>
        cases hk
        rfl
      | _ => cases hk
    | succ i =>
      obtain ⟨d, e', g1, g2, g3⟩ := KVs.pair (i := i) h3 (by simpa using e)
      exact ⟨d, e', by simpa using g1, g2, g3⟩
end EW

-- part: LckT
set_option maxHeartbeats 2000000
/-! [.. for x in d]: the dict locked -/
namespace EW
open PySem PySem.Spec PyProof.Rows L2
section
variable {K : PySem.W.Frag} {ρ : List Addr} {H : Hp} {st : St} {σ : L2.St}
theorem maskI_o {σ : List Sl} {i j : Nat} {x : O} (h : (maskI i σ)[j]? = some (.o x)) : j ≠ i ∧ σ[j]? = some (.o x) ∧ x.lt 0 = true ∧ (maskS σ)[j]? = some (.o x) := by
  unfold maskI at h
  by_cases q : i = j
  · subst q
    rw [List.getElem?_set] at h
    simp only [if_true] at h
    split at h <;> cases h
  · rw [List.getElem?_set_ne q] at h
    obtain ⟨a, b⟩ := mask_o h
    exact ⟨fun z => q z.symm, a, b, h⟩
/-- whose dict it is -/
def Has (st : St) (σ : L2.St) (ρ : List Addr) (i : Nat) (p : Addr) : Prop := p ∈ ρ ∨ ∃ x, st.σ[i]? = some (.o x) ∧ σ[i]? = some (some (.ref p))
theorem Res.maskI {p : Addr} {i : Nat} {o : HO} (r : Res K ρ H st σ) (hp : Has st σ ρ i p) (ps : Pers H (upd H p o)) : Res K [] (upd H p o) ⟨EW.maskI i st.σ, []⟩ σ ∧ ∀ a, Dom ⟨EW.maskI i st.σ, []⟩ σ [] a → Dom st σ ρ a ∧ a ∉ ρ ∧ a ≠ p := by
  have np : ∀ {j : Nat} {x : O} {q : Addr}, j ≠ i → st.σ[j]? = some (.o x) → σ[j]? = some (some (.ref q)) → q ∉ ρ ∧ q ≠ p := fun {j x q} hj e eq => by
    obtain ⟨q', e1, _, n⟩ := r.sl j _ e
    rw [eq] at e1
    cases e1
    refine ⟨n, fun z => ?_⟩
    subst z
    rcases hp with hp | ⟨y, g1, g2⟩
    · exact n hp
    · exact r.sep j i x y q hj e g1 eq g2
  refine ⟨⟨⟨rfl, List.nodup_nil, fun i q x e => by simp at e⟩, by simp [EW.maskI, maskS, r.len], fun j s h => ?_, fun a b x y q hij h1 h2 h3 h4 => ?_⟩, fun a h => ?_⟩
  · cases s with
    | un => trivial
    | d x =>
      have h' : (EW.maskI i st.σ)[j]? = some (.d x) := h
      unfold EW.maskI at h'
      have hji : i ≠ j := fun z => by
        subst z
        rw [List.getElem?_set] at h'
        simp only [if_true] at h'
        split at h' <;> cases h'
      rw [List.getElem?_set_ne hji, mask_get] at h'
      cases e : st.σ[j]? with
      | none =>
        rw [e] at h'
        cases h'
      | some s =>
        rw [e] at h'
        simp only [Option.map_some, Option.some.injEq] at h'
        by_cases b : s.bare = true
        · rw [if_pos b] at h'
          subst h'
          obtain ⟨v, e1, h1⟩ := r.sl j _ e
          exact ⟨v, e1, (VR.bare _ _ b h1).mono ps (List.prefix_refl _)⟩
        · rw [if_neg b] at h'
          cases h'
    | o x =>
      obtain ⟨hj, e, b, _⟩ := maskI_o h
      obtain ⟨q, e1, h1, n⟩ := r.sl j _ e
      exact ⟨q, e1, (OR.bare b h1).mono (upd_ne (np hj e e1).2) ps (List.prefix_refl _), fun z => by cases z⟩
  · exact r.sep a b x y q hij (maskI_o h1).2.1 (maskI_o h2).2.1 h3 h4
  · rcases h with h | ⟨j, x, h1, h2⟩
    · cases h
    · obtain ⟨hj, e, _, _⟩ := maskI_o h1
      obtain ⟨n1, n2⟩ := np hj e h2
      exact ⟨.inr ⟨j, x, e, h2⟩, n1, n2⟩
/-- behind the lock -/
theorem Step.unmaskI {p : Addr} {i : Nat} {od : Obj} {ks : List (Key × V)} {Hi : Hp} (r : Res K ρ H st σ) (hp : Has st σ ρ i p) (hd : H p = some (.dK ks)) (s : Step K [] (upd H p (.frz od (.dK ks))) ⟨EW.maskI i st.σ, []⟩ σ [] Hi ⟨EW.maskI i st.σ, []⟩ σ) :
    Hi p = some (.frz od (.dK ks)) ∧ Step K ρ H st σ ρ (upd Hi p (.dK ks)) st σ := by
  obtain ⟨m, dm⟩ := r.maskI hp (upd_frz (od := od) hd)
  have hHi : Hi p = some (.frz od (.dK ks)) := s.frame p _ upd_same fun z => (dm p z).2.2 rfl
  refine ⟨hHi, ?_⟩
  have pers1 : Pers H Hi := (upd_frz (od := od) hd).trans (Step.pers m s)
  have pers : Pers H (upd Hi p (.dK ks)) := pers1.trans (upd_dK hHi)
  have stay : ∀ a o, H a = some o → ¬ Dom ⟨EW.maskI i st.σ, []⟩ σ [] a → upd Hi p (.dK ks) a = some o := fun a o e n => by
    by_cases q : a = p
    · subst q
      rw [hd] at e
      cases e
      exact upd_same
    · rw [upd_ne q]
      exact s.frame a o (by rw [upd_ne q]; exact e) n
  have obj : ∀ (q : Addr) (x : O), OR K ρ H q x → ¬ Dom ⟨EW.maskI i st.σ, []⟩ σ [] q → OR K ρ (upd Hi p (.dK ks)) q x := fun q x h n => by
    obtain ⟨o, e, _⟩ := h.there
    exact h.mono ((stay q o e n).trans e.symm) pers (List.prefix_refl _)
  refine ⟨⟨⟨r.hr.len, r.hr.nd, fun j q x e1 e2 => obj q x (r.hr.obj j q x e1 e2) fun d => (dm q d).2.1 (List.mem_of_getElem? e1)⟩, r.len, fun j sl e => ?_, r.sep⟩, List.prefix_refl _, fun a o e n => stay a o e fun d => n (dm a d).1, fun a d => .inl d, fun a o u e => by
    have q : a ≠ p := fun z => by
      subst z
      rw [hd] at e
      cases e
    rw [upd_ne q]
    exact s.frz a o u (by rw [upd_ne q]; exact e)⟩
  have z := r.sl j sl e
  cases sl with
  | un => trivial
  | d x =>
    obtain ⟨v, g1, g2⟩ := z
    exact ⟨v, g1, g2.mono pers (List.prefix_refl _)⟩
  | o x =>
    obtain ⟨q, g1, g2, g3⟩ := z
    refine ⟨q, g1, ?_, g3⟩
    by_cases d : Dom ⟨EW.maskI i st.σ, []⟩ σ [] q
    · have nq := (dm q d).2.2
      rcases d with d | ⟨j', y, h1, h2⟩
      · cases d
      · obtain ⟨_, e3, _, _⟩ := maskI_o h1
        by_cases c : j = j'
        · subst c
          rw [e] at e3
          cases e3
          obtain ⟨q', k1, k2, _⟩ := s.res.sl j _ h1
          rw [g1] at k1
          cases k1
          exact k2.mono (upd_ne nq) (upd_dK hHi) List.nil_prefix
        · exact (r.sep j j' x y q c e e3 g1 h2).elim
    · exact obj q x g2 d
end
section
variable {X : Cx} {G : Gam}
theorem Wp.lck {st : St} {m : List Sl} {vs : List Nat} {o : Out (List D)} {P : EV → St → Prop} {E : String → St → Prop} (h : Wp (lckEnd st m vs o) P E) : Wp o (fun ys st2 => st2.h = [] ∧ backS st2.σ m vs = m ∧ P (.o (.lst ys)) st) fun _ _ => False := by
  cases o with
  | ok ys st2 =>
    simp only [lckEnd] at h
    split at h
    · rename_i c
      exact ⟨c.1, c.2, h⟩
    · exact h.elim
  | ex c st2 => exact h.elim
  | bad => exact h.elim
theorem keysAt_ok {st : St} {σ : L2.St} {ρ : List Addr} {H : Hp} {i : Nat} {xs : List D} (r : Res X.K ρ H st σ) (h : keysAt st i = some xs) : ∃ p kvs ks, σ[i]? = some (some (.ref p)) ∧ Has st σ ρ i p ∧ H p = some (.dK ks) ∧ KVs X.K ρ H fkey kvs ks ∧ xs = kvs.map (·.1) := by
  unfold keysAt at h
  cases q1 : st.σ[i]? with
  | none =>
    rw [q1] at h
    cases h
  | some s =>
    rw [q1] at h
    have z := r.sl i _ q1
    cases s with
    | un => cases h
    | o x =>
      cases x with
      | lst ds => cases h
      | ins c fs => cases h
      | lkd kvs => cases h
      | dct t kvs =>
        cases t with
        | true => cases h
        | false =>
          cases h
          obtain ⟨p, e1, ⟨ks, h1, h2⟩, n⟩ := z
          exact ⟨p, kvs, ks, e1, .inr ⟨_, q1, e1⟩, h1, h2, rfl⟩
    | d d =>
      cases d with
      | ref a =>
        simp only at h
        cases q2 : st.h[a]? with
        | none =>
          rw [q2] at h
          cases h
        | some o =>
          rw [q2] at h
          cases o with
          | lst ds => cases h
          | ins c fs => cases h
          | lkd kvs => cases h
          | dct t kvs =>
            cases t with
            | true => cases h
            | false =>
              cases h
              obtain ⟨v, e1, p, e2, rfl⟩ := z
              obtain ⟨ks, h1, h2⟩ := r.hr.obj a p _ e2 q2
              exact ⟨p, kvs, ks, e1, .inl (List.mem_of_getElem? e2), h1, h2, rfl⟩
      | _ => cases h
theorem KVs.keyAt {K : PySem.W.Frag} {ρ ρ' : List Addr} {H H' : Hp} : ∀ {kvs : List (D × D)} {ks : List (Key × V)} {i : Nat} {k : Key} {v : V}, KVs K ρ H fkey kvs ks → ks[i]? = some (k, v) → ∃ d, (kvs.map (·.1))[i]? = some d ∧ VR K ρ' H' d (kV k)
  | [], ks, i, k, v, h, e => by
    cases (show ks = [] from h)
    simp at e
  | q :: r, ks, i, k, v, h, e => by
    obtain ⟨k', v', t, rfl, h1, h2, h3⟩ := h
    cases i with
    | zero =>
      simp only [List.getElem?_cons_zero, Option.some.injEq, Prod.mk.injEq] at e
      obtain ⟨rfl, rfl⟩ := e
      refine ⟨q.1, rfl, ?_⟩
      obtain ⟨d, z⟩ := q
      have hk : fkey d = some k' := h1
      cases d with
      | int i =>
        cases hk
        rfl
      | str x =>
        cases hk
        rfl
      | _ => cases hk
    | succ i =>
      obtain ⟨d, g1, g2⟩ := KVs.keyAt (i := i) h3 (by simpa using e)
      exact ⟨d, by simpa using g1, g2⟩
theorem se_lck {elt : E} {tg : Tg} {i : Nat} {x : Str} {eelt etg : Expr} {scope : Scope} {own : List (Str × Nat)} {npos pos : Pos} (hc : X.calm = true) (hNd : X.N.Nodup) (hN : X.N[i]? = some x) (hv : Vis X.env.scope x) (hd : (x == ("__debug__" : Str)) = false) (hcd : (x == ("__classdict__" : Str)) = false)
    (ok : BlkOk X.N X.env.scope scope own) (hvs : own.map (·.2) = tg.vars)
    (hg : ∀ (s : Shared) (H : Hp) (C : Addr) (cl : List (Str × Addr)) (fp : List Addr), PG (X.blk s H scope (compEnvC scope cl C X.env) fp) etg (gTg X.K tg))
    (he : ∀ (s : Shared) (H : Hp) (C : Addr) (cl : List (Str × Addr)) (fp : List Addr), SE (X.blk s H scope (compEnvC scope cl C X.env) fp) G elt eelt) :
    SE X G (.lck elt tg i) (.ListComp eelt [⟨etg, .Name x npos, [], 0⟩] scope pos) := fun Wx tk => by
  refine PE.imp (pe_lock (pe_lc hc hNd (pi_keys (pe_var hN hv hd hcd)) ok hg (tt := tB X (fun s => .ok true s) W0) (te := tE X (ev G elt) W0) (fun s H C cl fp => PTs.imp pts_nil (by
    rintro σ H Q ⟨ρ, st, hR, h⟩
    exact h H ρ (Step.refl hR))) (fun s H C cl fp => he s H C cl fp W0 takes_blk) (fun _ => rfl))) ?_
  rw [hvs]
  rintro σ H Q ⟨ρ, st, hR, h⟩
  rw [ev] at h
  cases q : keysAt st i with
  | none =>
    rw [q] at h
    exact h.elim
  | some xs =>
    rw [q] at h
    simp only at h
    split at h
    case isFalse => exact h.elim
    case isTrue hlim =>
    obtain ⟨p, kvs, ks, e1, hp, hd1, hkv, rfl⟩ := keysAt_ok hR q
    refine ⟨p, .dK ks, hd1, trivial, fun od => ⟨.ref p, e1, p, od, rfl, .inl ⟨ks, upd_same, fun D hD => ?_⟩⟩⟩
    obtain ⟨m, dm⟩ := hR.maskI (o := .frz od (.dK ks)) hp (upd_frz (od := od) hd1)
    have hln := hkv.len
    have hDp : D ≠ p := fun z => by
      subst z
      rw [upd_same] at hD
      cases hD
    have hD0 : H D = none := by rw [upd_ne hDp] at hD; exact hD
    refine lc_turnsG (J := Itk p od ks) (Q := fun v H' => H' p = some (.frz od (.dK ks)) ∧ Q v (upd H' p (.dK ks))) (v := .d (.tup (kvs.map (·.1)))) m hD hlim (fun ρ' H' st' s1 _ => ?_) h.lck fun ρ' H' st' acc accV s2 l hDa hacc hnd hP => ?_
    · have s0 := m.wiped tg.vars
      have hH' : H' p = some (.frz od (.dK ks)) := (s0.trans s1).frame p _ upd_same fun z => (dm p z).2.2 rfl
      refine ⟨fun j hj => ⟨hH', by rw [List.length_map] at hj; omega⟩, ⟨hH', by rw [List.length_map]; omega⟩, fun j y H'' hj hy => ?_⟩
      obtain ⟨rfl, k, v, g1, rfl⟩ := hy
      obtain ⟨d, g2, g3⟩ := KVs.keyAt (ρ' := ρ') (H' := H'') hkv g1
      exact ⟨Same.refl _, d, g2, g3⟩
    · obtain ⟨c1, c2, hq⟩ := hP
      obtain ⟨s3, hdom⟩ := Step.restore m s2 l
      rw [show ({ st' with σ := backS st'.σ (⟨EW.maskI i st.σ, []⟩ : St).σ tg.vars } : St) = ⟨EW.maskI i st.σ, []⟩ from by
        show (⟨backS st'.σ (EW.maskI i st.σ) tg.vars, st'.h⟩ : St) = _
        rw [c2, c1]] at s3
      have hρ : ρ' = [] := by
        have z := s3.res.hr.len
        exact List.length_eq_zero_iff.mp z
      subst hρ
      obtain ⟨g1, g2⟩ := Step.unmaskI hR hp hd1 s3
      refine ⟨g1, hq (.ref D) _ ρ g2 ⟨D, rfl, ⟨accV, by rw [upd_ne hDp]; exact hDa, hacc.mono (upd_dK g1) List.nil_prefix⟩, hR.notDom hD0⟩ fun x q' _ e => ?_⟩
      cases e
      exact .inl hD0
end
end EW

-- part: RevT
set_option maxHeartbeats 2000000
/-! tuple(reversed(tuple)) -/
namespace EW
open PySem PySem.Spec PyProof.Rows RT
theorem nolen_rt : typeLookup (.type "reversed") "__len__" = pure none := by rw [typeLookup_type, builtinLookup_eq_fast]; kernel_rfl
theorem hint_rt : typeLookup (.type "reversed") "__length_hint__" = pure (some (.builtin "reversed.__length_hint__")) := by rw [typeLookup_type, builtinLookup_eq_fast]; kernel_rfl
theorem slot_rt_hint : Slot "reversed" "__length_hint__" "reversed.__length_hint__" :=
  .of (owner := "reversed") (n := "__length_hint__") (by rw [typeLookup_type, builtinLookup_eq_fast]; kernel_rfl) (by decide +kernel) (by decide +kernel) (by decide +kernel)
    (by first | exact .inl (by decide +kernel) | exact .inr (by decide +kernel)) (by rw [isSubtype_type]; kernel_rfl)
theorem entry_rt_hint : entryFor table "reversed.__length_hint__" = some Builtin.«reversed.__length_hint__» := entryFor_of_tree (by kernel_rfl)
theorem args_rt_hint (a : Value) : argsOk "reversed.__length_hint__" ⟨[a], []⟩ := by
  unfold argsOk; rw [signature?_of (id := "reversed.__length_hint__") (n := ['_', '_', 't', 'n', 'i', 'h', '_', 'h', 't', 'g', 'n', 'e', 'l', '_', '_']) (o := ['d', 'e', 's', 'r', 'e', 'v', 'e', 'r']) (by kernel_rfl) owner_rt]; kernel_rfl
section
variable {prog : Program} {w : World} {A : Around} {E : Value → Shared → Prop} {s : Shared}
theorem call_hint {it t : Addr} {items : Array Value} {Q : Value → Shared → Prop} (hit : IsRt s.heap it t ((items.size : Int) - 1)) (ht : IsTup s.heap t items) (hsz : items.size ≤ sizeLine)
    (h : ∀ (n : Nat) tk tk', n ≤ sizeLine → Q (.int (n : Int) tk) { s with toks := tk' }) : wpAny (model prog w) A (call (.builtin "reversed.__length_hint__") [.ref it]) Q E s := by
  obtain ⟨o, ho, hc, hd⟩ := id hit
  have hsz0 := hsz
  rw [sizeLine_eq] at hsz
  refine wpAny_call_entry slot_rt_hint hit.typeIs entry_rt_hint ?_ (args_rt_hint _)
  unfold Builtin.«reversed.__length_hint__»
  refine wpAny_bind (wpAny_of_eq (a := Value.ref it) rfl ?_)
  try dsimp only
  refine wpAny_bind (wpAny_field ho hd (x := .ref t) rfl ?_)
  try dsimp only
  rw [if_neg (by simp)]
  refine wpAny_bind (len_tuple ht (by omega) ?_)
  refine wpAny_bind (m := asInt? (.int (items.size : Int) _)) (wpAny_pure ?_)
  dsimp only
  refine wpAny_bind (wpAny_field (s := { s with toks := s.toks + 1 + 1 }) ho hd (x := rawInt ((items.size : Int) - 1)) rfl ?_)
  show wpAny _ _ (if (items.size : Int) < (items.size : Int) - 1 + 1 then _ else _) _ _ _
  rw [if_neg (by omega)]
  have e : (items.size : Int) - 1 + 1 = (items.size : Int) := by omega
  rw [e]
  refine wpAny_bind (wpAny_mkInt ?_)
  exact wpAny_pure ⟨_, rfl, h _ _ _ hsz0⟩
theorem hint_ok {it t : Addr} {items : Array Value} {Q : Bool → Shared → Prop} (hit : IsRt s.heap it t ((items.size : Int) - 1)) (ht : IsTup s.heap t items) (hsz : items.size ≤ sizeLine)
    (h : ∀ b tk, Q b { s with toks := tk }) : wpAny (model prog w) A (Builtin.List.listLengthHint (.ref it)) Q E s := by
  have hT := hit.typeIs
  unfold Builtin.List.listLengthHint
  refine wpAny_bind (wpAny_specialOf hT nolen_rt ?_)
  show wpAny _ A (specialOf (Value.ref it) (Str.ofString "__length_hint__") >>= _) _ _ _
  refine wpAny_bind (wpAny_specialOf hT hint_rt ?_)
  generalize hid : ("reversed.__length_hint__" : String) = id0
  wp_delta
  rw [show splitId id0 = some ("reversed", "__length_hint__") from by subst hid; decide +kernel]
  subst hid
  refine wpAny_bind (wpAny_isInstance (b := true) hT (by rw [isSubtype_type]; kernel_rfl) ?_)
  rw [if_neg (by decide)]
  dsimp only
  rw [if_neg (by decide +kernel)]
  refine wpAny_bind (wpAny_rule ?_)
  refine wpAny_bind ?_
  rw [slot_rt_hint.bind]
  refine wpAny_pure ?_
  dsimp only
  refine wpAny_bind (wpAny_attempt (call_hint hit ht hsz fun n tk tk' hn => ?_))
  have hn2 := hn
  rw [sizeLine_eq] at hn
  have e1 : (!Builtin.List.listFitsIndex (n : Int)) = false := by rw [fitsIndex_both (by omega) (by omega)]; rfl
  have e2 : ¬ ((n : Int) < 0) := by omega
  have e3 : Builtin.List.listTooLong (n : Int).toNat = false := by rw [Int.toNat_natCast, L2.notLongL hn2]
  generalize (n : Int) = z at *
  refine wpAny_bind (m := asInt? (.int z tk)) (wpAny_pure ?_)
  dsimp only
  rw [e1, if_neg (by decide), if_neg e2, e3, if_neg (by decide)]
  exact wpAny_pure (h _ _)
theorem Walks.tupRev (hh : A.handled = none) (I l : Addr) (hne : l ≠ I) (items : Array Value) (hsz : items.size ≤ sizeLine) :
    Walks prog w A I [I, l] [I] items.size (fun i v => items[items.size - 1 - i]? = some v) (fun i h => i ≤ items.size ∧ IsRt h I l ((items.size : Int) - 1 - (i : Int)) ∧ IsTup h l items) where
  sub := fun b hb => by simp at hb; simp [hb]
  frame := fun _ _ _ x hk => ⟨x.1, x.2.1.at fun o e => hk I (by simp) o e, by
    obtain ⟨o, e1, e2⟩ := x.2.2
    exact ⟨o, hk l (by simp) o e1, e2⟩⟩
  item := fun i s Q E hi x hQ => by
    have e : (items.size : Int) - 1 - (i : Int) = ((items.size - 1 - i : Nat) : Int) := by omega
    have hit := x.2.1
    rw [e] at hit
    have hx : items[items.size - 1 - i]? = some (items[items.size - 1 - i]'(by omega)) := Array.getElem?_eq_getElem (by omega)
    refine next_rt_item hit x.2.2 hx hsz fun h' hit' hs' => ?_
    have e2 : ((items.size - 1 - i : Nat) : Int) - 1 = (items.size : Int) - 1 - ((i + 1 : Nat) : Int) := by omega
    rw [e2] at hit'
    refine hQ _ h' (s.toks + 1) hx ⟨hi, hit', ?_⟩ fun b o hb eo => hs'.extBut b o (fun h => hb (by simp [h])) eo
    obtain ⟨o, e1, e2⟩ := x.2.2
    exact ⟨o, (hs'.2 l hne).trans e1, e2⟩
  done := fun s Q E x hQ => by
    have e : (items.size : Int) - 1 - (items.size : Int) = -1 := by omega
    have hit := x.2.1
    rw [e] at hit
    exact next_rt_end hh hit fun h' he' => hQ h' s.toks fun b o hb eo => he' b o (fun h => hb (by simp [h])) eo
  self := fun _ _ _ _ x hQ => iter_rt x.2.1 hQ
theorem collect_revT {it l : Addr} {items : Array Value} {Q : List Value → Shared → Prop} (hh : A.handled = none) (hit : IsRt s.heap it l ((items.size : Int) - 1)) (hl : IsTup s.heap l items) (hne : l ≠ it) (hn : items.size ≤ sizeLine)
    (hQ : ∀ (h' : Heap) (tk : Nat) (acc : Array Value), (∀ b o, b ≠ it → s.heap.get? b = some o → h'.get? b = some o) → ItemsOf (fun i v => items[items.size - 1 - i]? = some v) acc items.size → Q acc.toList { s with heap := h', toks := tk }) :
    wpAny (model prog w) A (collect (.ref it)) Q E s := by
  have W := (Walks.tupRev (prog := prog) (w := w) (A := A.in1) hh it l hne items hn).toS
  obtain ⟨oi, hoi, _⟩ := id hit
  obtain ⟨ol, hol, _⟩ := id hl
  have hSi : s.heap.objs.size ≠ it := Nat.ne_of_gt (Heap.lt_size hoi)
  have hSl : s.heap.objs.size ≠ l := Nat.ne_of_gt (Heap.lt_size hol)
  have hSf : s.heap.objs.size ∉ [it, l] := by simp only [List.mem_cons, List.not_mem_nil, or_false, not_or]; exact ⟨hSi, hSl⟩
  unfold collect
  refine wpAny_bind (wpAny_runValue (codeAny_builtin F.entry_proto_collect ?_))
  rw [Around.under_plainId F.plain_proto_collect _]
  show wpAny _ A.in1 (newList [] >>= fun l' => again (.builtin "list.__iadd__" ⟨[l', .ref it], []⟩)) _ _ s
  refine wpAny_bind (wpAny_newObj_type ?_)
  refine wpAny_pure ⟨plainId_quiet F.plain_list_iadd _, codeAny_builtin F.entry_list_iadd ?_⟩
  rw [Around.under_plainId F.plain_list_iadd _]
  have hS₁ : (s.heap.push { cls := .type "list", data := .seq ([] : List Value).toArray }).get? s.heap.objs.size = some { cls := .type "list", data := .seq ([] : List Value).toArray } := Heap.get?_push_size _ rfl
  have kp : ∀ b o, s.heap.get? b = some o → (s.heap.push { cls := .type "list", data := .seq ([] : List Value).toArray }).get? b = some o := fun b o e => Heap.get?_push_of_some _ e
  have hit1 : IsRt (s.heap.push { cls := .type "list", data := .seq ([] : List Value).toArray }) it l ((items.size : Int) - 1) := hit.at fun o e => kp _ _ e
  have hl1 : IsTup (s.heap.push { cls := .type "list", data := .seq ([] : List Value).toArray }) l items := by
    obtain ⟨o, e1, e2⟩ := hl
    exact ⟨o, kp _ _ e1, e2⟩
  have hT : ({ s with heap := s.heap.push { cls := .type "list", data := .seq ([] : List Value).toArray } } : Shared).TypeIs (.ref it) "reversed" := IsRt.typeIs (s := { s with heap := s.heap.push { cls := .type "list", data := .seq ([] : List Value).toArray } }) hit1
  have h1 : Builtin.List.listSameRef (.ref s.heap.objs.size) (.ref it) = false := by simp [Builtin.List.listSameRef, hSi]
  show wpAny _ A.in1 (Builtin.List.listExtendWith (.ref s.heap.objs.size) (.ref it) (.ref s.heap.objs.size)) _ _ _
  unfold Builtin.List.listExtendWith
  refine wpAny_bind (wpAny_typeOf hT ?_)
  rw [if_neg (by rw [h1]; decide)]
  refine wpAny_bind (iter_rt (s := { s with heap := s.heap.push { cls := .type "list", data := .seq ([] : List Value).toArray } }) hit1 ?_)
  refine wpAny_bind (wpAny_holding (hint_ok (s := { s with heap := s.heap.push { cls := .type "list", data := .seq ([] : List Value).toArray } }) hit1 hl1 hn fun b tk => ?_))
  have e0 : ((items.size : Nat) : Int) - 1 - ((0 : Nat) : Int) = (items.size : Int) - 1 := by omega
  have fin : ∀ (h1 : Heap) (tk : Nat) (s' : Shared) (acc' : Array Value) (c' : Nat), (∀ b o, b ≠ s.heap.objs.size → (s.heap.push { cls := .type "list", data := .seq ([] : List Value).toArray }).get? b = some o → h1.get? b = some o) →
      Moved (s.heap.objs.size :: [it]) (fun a b => b = a) { s with heap := h1, toks := tk } s' → s'.heap.get? s.heap.objs.size = some { cls := .type "list", dict := none, data := .seq acc' c', slots := #[] } → ItemsOf (fun i v => items[items.size - 1 - i]? = some v) acc' items.size →
      wpAny (model prog w) A (load s.heap.objs.size >>= fun o => match o.data with
        | .seq xs _ => pure xs.toList
        | _ => unsupported "internal:collect") Q E s' := fun h1 tk s' acc' c' kp1 hm hS' hacc => by
    refine wpAny_bind (wpAny_load hS' ?_)
    refine wpAny_pure ?_
    rw [Moved.eq_with hm]
    refine hQ s'.heap s'.toks acc' (fun b o hb e => hm.heap b o (fun hmem => ?_) (kp1 b o (Nat.ne_of_lt (Heap.lt_size e)) (kp b o e))) hacc
    rcases List.mem_cons.mp hmem with e' | hmem
    · exact absurd (Heap.lt_size e) (by rw [e']; exact Nat.lt_irrefl _)
    · exact hb (List.mem_singleton.mp hmem)
  cases b with
  | false =>
    rw [if_neg (by decide +kernel)]
    refine wpAny_pure ⟨plainId_quiet F.plain_extend_loop _, codeAny_extend_loopS W hn _ hSf _ items.size 0 _ _ _ rfl (Nat.zero_le _) ⟨Nat.zero_le _, by rw [e0]; exact hit1, hl1⟩ hS₁ (ItemsOf.nil _) fun s' acc' c' hm hS' hacc => ?_⟩
    exact fin _ tk s' acc' c' (fun _ _ _ e => e) hm hS' hacc
  | true =>
    rw [if_pos (by simp)]
    refine wpAny_bind (wpAny_rule ?_)
    refine wpAny_bind ?_
    show wpAny _ A.in1 (updateSeq s.heap.objs.size (·.push .none) >>= fun _ => updateSeq s.heap.objs.size (·.pop)) _ _ _
    refine wpAny_bind (wpAny_updateSeq hS₁ rfl ?_)
    have hS₂ := Heap.get?_update_self (Obj.mapSeq (·.push Value.none)) hS₁ rfl
    refine wpAny_updateSeq hS₂ rfl ?_
    have hS₃ := Heap.get?_update_self (Obj.mapSeq (·.pop)) hS₂ rfl
    have oth : ∀ b o, b ≠ s.heap.objs.size → (s.heap.push { cls := .type "list", data := .seq ([] : List Value).toArray }).get? b = some o →
        (((s.heap.push { cls := .type "list", data := .seq ([] : List Value).toArray }).update s.heap.objs.size (Obj.mapSeq (·.push Value.none))).update s.heap.objs.size (Obj.mapSeq (·.pop))).get? b = some o :=
      fun b o hb e => (Heap.get?_update_other _ _ (Ne.symm hb)).trans ((Heap.get?_update_other _ _ (Ne.symm hb)).trans e)
    refine wpAny_pure ⟨plainId_quiet F.plain_extend_loop _, codeAny_extend_loopS W hn _ hSf _ items.size 0 _ _ _ rfl (Nat.zero_le _) ⟨Nat.zero_le _, by
      rw [e0]
      exact hit1.at fun o e => oth _ _ (Ne.symm hSi) e, by
      obtain ⟨o, e1, e2⟩ := hl1
      exact ⟨o, oth _ _ (Ne.symm hSl) e1, e2⟩⟩ hS₃ (ItemsOf.nil _) fun s' acc' c' hm hS' hacc => ?_⟩
    exact fin _ tk s' acc' c' oth hm hS' hacc
theorem code_tuple_new_revT {it l : Addr} {items : Array Value} {Q₁ : Value → Shared → Prop} (hh : A.handled = none) (hit : IsRt s.heap it l ((items.size : Int) - 1)) (hl : IsTup s.heap l items) (hne : l ≠ it) (hn : items.size ≤ sizeLine)
    (h : ∀ (h' : Heap) (tk : Nat) (acc : Array Value), (∀ b o, b ≠ it → s.heap.get? b = some o → h'.get? b = some o) → ItemsOf (fun i v => items[items.size - 1 - i]? = some v) acc items.size →
      Q₁ (.ref h'.objs.size) { s with heap := h'.push { cls := .type "tuple", data := .seq acc }, toks := tk }) :
    codeAny (model prog w) A (.call (.builtin "tuple.__new__") ⟨[.type "tuple", .ref it], []⟩) (wants Q₁ E) s := by
  refine codeAny_of_tree ?_
  show wpAny _ A.in1 (do checkBuiltinCall "tuple.__new__" ⟨[.type "tuple", .ref it], []⟩; again (.builtin "tuple.__new__" ⟨[.type "tuple", .ref it], []⟩)) _ _ s
  refine wpAny_bind (wpAny_of_eq (F.newCall_tuple_1 _) (wpAny_pure ⟨plainId_quiet F.plain_tuple_new _, codeAny_builtin F.entry_tuple_new ?_⟩))
  rw [Around.under_plainId F.plain_tuple_new _]
  have hsub := sub_tuple_self
  have hinit := init_tuple_lookup
  have hmh := madeHere_tuple
  have hTI : s.TypeIs (.ref it) "reversed" := hit.typeIs
  have hh1 : A.in1.handled = none := hh
  wp_walk using wpAny_typeOf hTI, collect_revT (A := A.in1) hh1 hit hl hne hn
  intro h' tk acc hk hacc
  show wpAny _ _ (Builtin.Tuple.tupleExact acc.toList.toArray >>= fun v => ret v) _ _ _
  unfold Builtin.Tuple.tupleExact
  refine wpAny_bind (wpAny_newObj_type ?_ (by show acc.toList.toArray.size ≤ sizeLine; simp only [Array.toArray_toList]; rw [hacc.1]; exact hn))
  refine wpAny_pure ?_
  have e : acc.toList.toArray = acc := by simp
  rw [e]
  exact h h' tk acc hk hacc
theorem call_tuple_revT {it l : Addr} {items : Array Value} {Q : Value → Shared → Prop} (hh : A.handled = none) (hit : IsRt s.heap it l ((items.size : Int) - 1)) (hl : IsTup s.heap l items) (hne : l ≠ it) (hn : items.size ≤ sizeLine)
    (hQ : ∀ (h' : Heap) (tk : Nat) (acc : Array Value), (∀ b o, b ≠ it → s.heap.get? b = some o → h'.get? b = some o) → ItemsOf (fun i v => items[items.size - 1 - i]? = some v) acc items.size →
      Q (.ref h'.objs.size) { s with heap := h'.push { cls := .type "tuple", data := .seq acc }, toks := tk }) :
    wpAny (model prog w) A (call (.type "tuple") [.ref it]) Q E s := by
  refine callType_codes (Q₁ := fun obj s₁ => s₁.TypeIs obj "tuple" ∧ Q obj s₁) F.called_tuple (F.typeCall_tuple_1 _) F.entry_object_init
    (code_tuple_new_revT (A := A.in1) hh hit hl hne hn fun h' tk acc hk hacc => ⟨⟨_, Heap.get?_push_size _ rfl, rfl⟩, hQ h' tk acc hk hacc⟩) fun obj s₁ h₁ => ?_
  exact ⟨h₁.1, F.args_object_init_2 obj _, object_init_meets F.called_tuple.init.lookup F.called_tuple.made (by decide) prog w A.in1 _ s₁ ⟨h₁.1, rfl, h₁.2⟩⟩
end
end EW
namespace EW
open PySem PySem.Spec PyProof.Rows L2 RT
def tTupRevT (K : PySem.W.Frag) (te : TE) : TE := fun σ H Q => te σ H fun v H1 => ∃ (a : Addr) (xs : List V), v = .ref a ∧ SqT K H1 a xs ∧ ∀ q, H1 q = none → Q (.ref q) (upd H1 q (.tup xs.reverse))
theorem pe_tupRevT {X : Cx} {e : Expr} {te : TE} {p p2 pos pos2 : Pos} (hc : X.calm = true) (hg : Gl X "tuple") (hm : X.mg "tuple" = none) (hg2 : Gl X "reversed") (hm2 : X.mg "reversed" = none) (he : PE X e te)
    (hs : starEach [e] X.env = (false, eval e X.env) :: starEach [] X.env := by rfl)
    (hs2 : starEach [.Call (.Name "reversed" p2) [e] [] pos2] X.env = (false, eval (.Call (.Name "reversed" p2) [e] [] pos2) X.env) :: starEach [] X.env := by rfl) :
    PE X (.Call (.Name "tuple" p) [.Call (.Name "reversed" p2) [e] [] pos2] [] pos) (tTupRevT X.K te) := by
  refine ⟨fun pins s σ H Q I h => ?_⟩
  refine Call_ (ld_blt I hg hm boot_tuple (PyProof.Rows.callWith_type1 (args_cons (Call_ (ld_blt I hg2 hm2 PyProof.Rows.boot_reversed (PyProof.Rows.callWith_type1 (args_cons (thn (he.run pins s σ H _ I h) fun u s1 ⟨v, H1, I1, r1, q1⟩ => args_nil ?_) hs) hs rfl))) hs2) hs2 rfl))
  obtain ⟨a, xs, ev, hq, q⟩ := q1
  subst ev
  obtain rfl : u = Value.ref a := r1
  obtain ⟨its, rv, p', hz⟩ := I1.tuple hq
  have hl := rv.length
  have hn' := line63
  have hn : its.toArray.size ≤ sizeLine := by rw [List.size_toArray, ← rv.length]; exact hz
  refine call_reversed_tup p' (fun A E Q k => len_tuple p' (by simp only [List.size_toArray] <;> omega) k) (args_nil ?_)
  have k0 : ∀ b o, s1.heap.get? b = some o → (s1.heap.push (rtObj a ((its.toArray.size : Int) - 1))).get? b = some o := fun b o e => Heap.get?_push_of_some _ e
  have I2 : Inv X pins σ H1 { s1 with heap := s1.heap.push (rtObj a ((its.toArray.size : Int) - 1)), toks := s1.toks + 1 + 1 } := I1.kept (t' := s1.toks + 1 + 1) k0
  obtain ⟨f0, f1, f2, f3, f4, f5⟩ := I1.fpOk (H' := H1) (b := s1.heap.objs.size) (Nat.le_refl _) (I1.hok.fresh (Nat.le_refl _))
  obtain ⟨ol, hol, hol2⟩ := id p'
  have hne : a ≠ s1.heap.objs.size := Nat.ne_of_lt (Heap.lt_size hol)
  refine call_tuple_revT (s := { s1 with heap := s1.heap.push (rtObj a ((its.toArray.size : Int) - 1)), toks := s1.toks + 1 + 1 }) (I1.ok.hd hc) ⟨_, Heap.get?_push_size _ rfl, rfl, rfl⟩ ⟨ol, k0 _ _ hol, hol2⟩ hne hn fun h' tk acc hk hi => ?_
  have I3 : Inv X pins σ H1 { s1 with heap := h', toks := tk } := I2.turned (t' := tk) (fun b o hb e => hk b o hb e) f0 f1 f3 f4 f5
  refine ⟨.ref h'.objs.size, upd H1 h'.objs.size (.tup xs.reverse), I3.laid (t' := tk) (fun c o e => Heap.get?_push_of_some _ e) (Nat.le_refl _) (show ObjOk X.prog X.w _ _ _ (.tup xs.reverse) from ⟨by rw [List.length_reverse]; exact hz, acc.toList, vals_rev rv hi, ?_⟩), rfl, q _ (I3.hok.fresh (Nat.le_refl _))⟩
  rw [Array.toArray_toList]
  exact IsTup.new _ _
end EW

-- part: RevL
set_option maxHeartbeats 2000000
/-! list(reversed(list)) -/
namespace EW
open PySem PySem.Spec PyProof.Rows RT
section
variable {prog : Program} {w : World} {A : Around} {E : Value → Shared → Prop} {s : Shared}
theorem list_init_rev {it l S : Addr} {items : Array Value} {R : Result → Shared → Prop} (hh : A.handled = none) (hit : s.heap.IsRevIter it l ((items.size : Int) - 1)) (hl : s.heap.IsList l items) (hne : l ≠ it) (hSi : S ≠ it) (hSl : S ≠ l)
    (hS : s.heap.get? S = some { cls := .type "list", data := .seq #[] }) (hn : items.size ≤ sizeLine)
    (hR : ∀ h' tk acc' c', (∀ b o, b ≠ S → b ≠ it → s.heap.get? b = some o → h'.get? b = some o) → h'.get? S = some { cls := .type "list", dict := none, data := .seq acc' c', slots := #[] } →
      ItemsOf (fun i v => items[items.size - 1 - i]? = some v) acc' items.size → R (.ok (.ret .none)) { s with heap := h', toks := tk }) :
    wpAny (model prog w) A.in1 (Builtin.«list.__init__» ⟨[.ref S, .ref it], []⟩)
      (fun fin s' => match fin with | .done f => R (.ok f) s' | .again c' => c'.quiet = true ∧ codeAny (model prog w) A c' R s') (fun e s' => R (.error e) s') s := by
  have W := (Walks.listRev (prog := prog) (w := w) (A := A.in1) hh it l hne items).toS
  have hSf : S ∉ [it, l] := by simp only [List.mem_cons, List.not_mem_nil, or_false, not_or]; exact ⟨hSi, hSl⟩
  show wpAny _ _ (do let old ← Builtin.List.listItems (.ref S); Builtin.List.listUpdate (.ref S) (fun _ => #[]); letGo old.toList.reverse; Builtin.List.listExtendWith (.ref S) (.ref it) .none) _ _ s
  refine wpAny_bind ?_
  unfold Builtin.List.listItems
  refine wpAny_bind (wpAny_seqItems hS rfl (wpAny_pure ?_))
  show wpAny _ _ (updateSeq S (fun _ => #[]) >>= fun _ => letGo (#[] : Array Value).toList.reverse >>= fun _ => Builtin.List.listExtendWith (.ref S) (.ref it) .none) _ _ s
  refine wpAny_bind (wpAny_updateSeq hS rfl ?_)
  have hS₂ := Heap.get?_update_self (Obj.mapSeq (fun _ => (#[] : Array Value))) hS rfl
  have oth : ∀ b o, b ≠ S → s.heap.get? b = some o → (s.heap.update S (Obj.mapSeq (fun _ => (#[] : Array Value)))).get? b = some o :=
    fun b o hb e => (Heap.get?_update_other _ _ (Ne.symm hb)).trans e
  refine wpAny_bind (wpAny_letGo ?_)
  have hit1 : (s.heap.update S (Obj.mapSeq (fun _ => (#[] : Array Value)))).IsRevIter it l ((items.size : Int) - 1) := hit.at fun o e => oth _ _ (Ne.symm hSi) e
  have hl1 : (s.heap.update S (Obj.mapSeq (fun _ => (#[] : Array Value)))).IsList l items := by
    obtain ⟨o, e1, e2⟩ := hl
    exact ⟨o, oth _ _ (Ne.symm hSl) e1, e2⟩
  have hT : ({ s with heap := s.heap.update S (Obj.mapSeq (fun _ => (#[] : Array Value))) } : Shared).TypeIs (.ref it) "list_reverseiterator" := Heap.IsRevIter.typeIs (s := { s with heap := s.heap.update S (Obj.mapSeq (fun _ => (#[] : Array Value))) }) hit1
  have h1 : Builtin.List.listSameRef (.ref S) (.ref it) = false := by simp [Builtin.List.listSameRef, hSi]
  unfold Builtin.List.listExtendWith
  refine wpAny_bind (wpAny_typeOf hT ?_)
  rw [if_neg (by rw [h1]; decide)]
  refine wpAny_bind (wpAny_pyIter_revIter (s := { s with heap := s.heap.update S (Obj.mapSeq (fun _ => (#[] : Array Value))) }) hit1 ?_)
  refine wpAny_bind (wpAny_holding ?_)
  unfold Builtin.List.listLengthHint
  refine wpAny_bind (wpAny_specialOf hT nolen_lri ?_)
  show wpAny _ A.in1 (specialOf (Value.ref it) (Str.ofString "__length_hint__") >>= _) _ _ _
  refine wpAny_bind (wpAny_specialOf hT hint_lri ?_)
  generalize hid : ("list_reverseiterator.__length_hint__" : String) = id0
  wp_delta
  rw [show splitId id0 = some ("list_reverseiterator", "__length_hint__") from by subst hid; decide +kernel]
  subst hid
  refine wpAny_bind (wpAny_isInstance (b := true) hT (by rw [isSubtype_type]; kernel_rfl) ?_)
  refine wpAny_pure ?_
  rw [if_neg (by decide)]
  have e0 : ((items.size : Nat) : Int) - 1 - ((0 : Nat) : Int) = (items.size : Int) - 1 := by omega
  refine wpAny_pure ⟨plainId_quiet F.plain_extend_loop _, codeAny_extend_loopS W hn _ hSf _ items.size 0 _ _ _ rfl (Nat.zero_le _) ⟨Nat.zero_le _, by rw [e0]; exact hit1, hl1⟩ hS₂ (ItemsOf.nil _) fun s' acc' c' hm hS' hacc => ?_⟩
  rw [Moved.eq_with hm]
  refine hR s'.heap s'.toks acc' c' (fun b ob hb hb2 e => hm.heap b ob (fun hmem => ?_) (oth b ob hb e)) hS' hacc
  rcases List.mem_cons.mp hmem with e' | hmem
  · exact hb e'
  · exact hb2 (List.mem_singleton.mp hmem)
theorem call_list_rev {it l : Addr} {items : Array Value} {Q : Value → Shared → Prop} (hh : A.handled = none) (hit : s.heap.IsRevIter it l ((items.size : Int) - 1)) (hl : s.heap.IsList l items) (hne : l ≠ it) (hn : items.size ≤ sizeLine)
    (hQ : ∀ h' tk acc' c', (∀ b o, b ≠ it → s.heap.get? b = some o → h'.get? b = some o) → h'.get? s.heap.objs.size = some { cls := .type "list", dict := none, data := .seq acc' c', slots := #[] } →
      ItemsOf (fun i v => items[items.size - 1 - i]? = some v) acc' items.size → Q (.ref s.heap.objs.size) { s with heap := h', toks := tk }) :
    wpAny (model prog w) A (call (.type "list") [.ref it]) Q E s := by
  obtain ⟨oi, hoi, _⟩ := id hit
  obtain ⟨ol, hol, _⟩ := id hl
  have hSi : s.heap.objs.size ≠ it := Nat.ne_of_gt (Heap.lt_size hoi)
  have hSl : s.heap.objs.size ≠ l := Nat.ne_of_gt (Heap.lt_size hol)
  refine callType_codes (Q₁ := fun obj s₁ => obj = .ref s.heap.objs.size ∧ s₁ = { s with heap := s.heap.push { cls := .type "list", data := .seq #[] } }) PySem.F.called_list (PySem.F.typeCall_list_1 _) PySem.F.entry_list_init
    (code_list_new _ ⟨rfl, rfl⟩) fun obj s₁ h₁ => ?_
  obtain ⟨rfl, rfl⟩ := h₁
  have hS : (s.heap.push { cls := .type "list", data := .seq #[] }).get? s.heap.objs.size = some { cls := .type "list", data := .seq #[] } := Heap.get?_push_size _ rfl
  refine ⟨⟨_, hS, rfl⟩, PySem.F.args_list_init_2 _ _, list_init_rev (A := A.in1) hh (hit.at fun o e => Heap.get?_push_of_some _ e) (hl.push _) hne hSi hSl hS hn (fun h' tk acc' c' hk hS' hacc => ?_)⟩
  exact ⟨rfl, hQ h' tk acc' c' (fun b o hb e => hk b o (Nat.ne_of_lt (Heap.lt_size e)) hb (Heap.get?_push_of_some _ e)) hS' hacc⟩
end
end EW
namespace EW
open PySem PySem.Spec PyProof.Rows L2 RT
theorem boot_list : bootBuiltins "list" = some (.type "list") := by decide +kernel
def tListRev (K : PySem.W.Frag) (te : TE) : TE := fun σ H Q => te σ H fun v H1 => ∃ (a : Addr) (xs : List V), v = .ref a ∧ SqL K H1 a xs ∧ ∀ q, H1 q = none → Q (.ref q) (upd H1 q (.lst xs.reverse))
theorem pe_listRev {X : Cx} {e : Expr} {te : TE} {p p2 pos pos2 : Pos} (hc : X.calm = true) (hg : Gl X "list") (hm : X.mg "list" = none) (hg2 : Gl X "reversed") (hm2 : X.mg "reversed" = none) (he : PE X e te)
    (hs : starEach [e] X.env = (false, eval e X.env) :: starEach [] X.env := by rfl)
    (hs2 : starEach [.Call (.Name "reversed" p2) [e] [] pos2] X.env = (false, eval (.Call (.Name "reversed" p2) [e] [] pos2) X.env) :: starEach [] X.env := by rfl) :
    PE X (.Call (.Name "list" p) [.Call (.Name "reversed" p2) [e] [] pos2] [] pos) (tListRev X.K te) := by
  refine ⟨fun pins s σ H Q I h => ?_⟩
  refine Call_ (ld_blt I hg hm boot_list (PyProof.Rows.callWith_type1 (args_cons (Call_ (ld_blt I hg2 hm2 PyProof.Rows.boot_reversed (PyProof.Rows.callWith_type1 (args_cons (thn (he.run pins s σ H _ I h) fun u s1 ⟨v, H1, I1, r1, q1⟩ => args_nil ?_) hs) hs rfl))) hs2) hs2 rfl))
  obtain ⟨a, xs, ev, hq, q⟩ := q1
  subst ev
  obtain rfl : u = Value.ref a := r1
  obtain ⟨its, rv, p', hz⟩ := I1.list hq
  refine call_reversed_list p'.isList (args_nil ?_)
  have k0 : ∀ b o, s1.heap.get? b = some o → (s1.heap.push (revObj a ((its.toArray.size : Int) - 1))).get? b = some o := fun b o e => Heap.get?_push_of_some _ e
  have I2 : Inv X pins σ H1 { s1 with heap := s1.heap.push (revObj a ((its.toArray.size : Int) - 1)) } := I1.kept (t' := s1.toks) k0
  have f := I1.fpOk (H' := H1) (b := s1.heap.objs.size) (Nat.le_refl _) (I1.hok.fresh (Nat.le_refl _))
  have hl := p'.isList
  obtain ⟨ol, hol, _⟩ := id hl
  have hne : a ≠ s1.heap.objs.size := Nat.ne_of_lt (Heap.lt_size hol)
  have hn : its.toArray.size ≤ sizeLine := by rw [List.size_toArray, ← rv.length]; exact hz
  refine call_list_rev (s := { s1 with heap := s1.heap.push (revObj a ((its.toArray.size : Int) - 1)) }) (I1.ok.hd hc) ⟨_, Heap.get?_push_size _ rfl, rfl, rfl⟩ (hl.push _) hne hn fun h' tk acc c' hk hS hi => ?_
  refine ⟨.ref (s1.heap.push (revObj a ((its.toArray.size : Int) - 1))).objs.size, upd H1 (s1.heap.push (revObj a ((its.toArray.size : Int) - 1))).objs.size (.lst xs.reverse), I2.turnedNew (t' := tk) (ch := [s1.heap.objs.size]) (fun b o hb e => hk b o (fun z => hb (by simp [z])) e) (fun b hb => by
    rw [List.mem_singleton.mp hb]
    exact f) (Nat.le_refl _) (show ObjOk X.prog X.w _ _ _ (.lst xs.reverse) from ⟨by rw [List.length_reverse]; exact hz, acc.toList, c', vals_rev rv hi, ?_⟩), rfl, q _ (I2.hok.fresh (Nat.le_refl _))⟩
  rw [Array.toArray_toList]
  exact hS
end EW

-- part: Sound11
set_option maxHeartbeats 1000000
/-! the check of expressions, and that it is sound -/
namespace EW
open PySem PySem.Spec PyProof.Rows L2
section
variable {X : Cx} {G : Gam} {Wx : WX}
def tyBi (t : String) : Bool := t == "int" || t == "bool" || t == "str" || t == "tuple" || t == "list" || t == "dict"
theorem tyOk_bi {t : String} (ht : tyBi t = true) (hg : Gl X (Str.ofString t)) (hm : X.mg (Str.ofString t) = none) : TyOk X G t := by
  have key : ∀ (n : String), bootBuiltins (Str.ofString n) = some (.type n) → Str.ofString n ≠ "__name__" → (Str.ofString n == ("__debug__" : Str)) = false → Gl X (Str.ofString n) → X.mg (Str.ofString n) = none →
      (kitB "NoneType" n = some false) → (kitB "bool" n = some (n == "bool" || n == "int")) → (kitB "int" n = some (n == "int")) → (kitB "str" n = some (n == "str")) → (kitB "tuple" n = some (n == "tuple")) → (kitB "list" n = some (n == "list")) → (kitB "dict" n = some (n == "dict")) → (basicT n = true) → TyOk X G n := by
    intro n hb h1 h2 hg hm k1 k2 k3 k4 k5 k6 k7 kb
    refine ⟨.ty n, .type n, fun pos => pe_bltn hg hm hb rfl h1 h2, .ty n, fun w b e ty hty => ?_⟩
    cases w with
    | d d =>
      cases d with
      | non =>
        cases hty
        cases e
        exact kit_ty k1
      | bl b =>
        cases hty
        cases e
        exact kit_ty k2
      | int b =>
        cases hty
        cases e
        exact kit_ty k3
      | str b =>
        cases hty
        cases e
        exact kit_ty k4
      | tup b =>
        cases hty
        cases e
        exact kit_ty k5
      | fz b =>
        cases hty
        cases e
        exact kit_ty k6
      | ref a => exact hty.elim
      | exn c =>
        exfalso
        have nb : basicT n = true := kb
        have e' : (if G.sub c c = true ∧ basicT n = false then some (G.sub c n) else none) = some b := e
        rw [if_neg fun z => by rw [nb] at z; cases z.2] at e'
        cases e'
    | o o =>
      cases o with
      | lst b =>
        cases hty
        cases e
        exact kit_ty k6
      | dct bt b =>
        obtain ⟨rfl, rfl⟩ := hty
        cases e
        exact kit_ty k7
      | ins c f =>
        exfalso
        have nb : basicT n = true := kb
        have e' : (if basicT n = false then G.cl.up c n else none) = some b := e
        rw [if_neg fun z => by rw [nb] at z; cases z] at e'
        cases e'
      | lkd kvs => exact hty.elim
  unfold tyBi at ht
  simp only [Bool.or_eq_true, beq_iff_eq] at ht
  rcases ht with ((((rfl | rfl) | rfl) | rfl) | rfl) | rfl
  all_goals exact key _ (by decide +kernel) (by decide +kernel) (by decide +kernel) hg hm (by decide +kernel) (by decide +kernel) (by decide +kernel) (by decide +kernel) (by decide +kernel) (by decide +kernel) (by decide +kernel) (by decide)
/-- what isinstance tells of a value, asked for a class of refusals -/
theorem isi_exc {K : PySem.W.Frag} {sub : String → String → Bool} {up : String → String → Option Bool} {t : String} {u : Value} (hb : basicT t = false) (h3 : ∀ c b, up c t = some b → PySem.W.kitOne K (.ref (gaS K c)) u = some b) (h1 : ∀ y ∈ basics, PySem.W.kitOne K (.type y) u = some false) (h2 : ∀ c, sub c c = true → PySem.W.kitOne K (.ref (gaS K c)) u = some (sub c t)) :
    ∀ w b, isiW sub up w t = some b → ∀ ty, tyW K w ty → PySem.W.kitOne K ty u = some b := by
  intro w b e ty hty
  have n1 : (t == "int") = false ∧ (t == "bool") = false ∧ (t == "str") = false ∧ (t == "tuple") = false ∧ (t == "list") = false ∧ (t == "dict") = false := by
    unfold basicT at hb
    simp only [Bool.or_eq_false_iff] at hb
    obtain ⟨⟨⟨⟨⟨a1, a2⟩, a3⟩, a4⟩, a5⟩, a6⟩ := hb
    exact ⟨a1, a2, a3, a4, a5, a6⟩
  obtain ⟨b1, b2, b3, b4, b5, b6⟩ := n1
  cases w with
  | d d =>
    cases d with
    | non =>
      cases hty
      cases e
      exact h1 _ (by simp [basics])
    | bl x =>
      cases hty
      have e' : some (t == "bool" || t == "int") = some b := e
      rw [b1, b2] at e'
      cases e'
      exact h1 _ (by simp [basics])
    | int x =>
      cases hty
      have e' : some (t == "int") = some b := e
      rw [b1] at e'
      cases e'
      exact h1 _ (by simp [basics])
    | str x =>
      cases hty
      have e' : some (t == "str") = some b := e
      rw [b3] at e'
      cases e'
      exact h1 _ (by simp [basics])
    | tup x =>
      cases hty
      have e' : some (t == "tuple") = some b := e
      rw [b4] at e'
      cases e'
      exact h1 _ (by simp [basics])
    | fz x =>
      cases hty
      have e' : some (t == "list") = some b := e
      rw [b5] at e'
      cases e'
      exact h1 _ (by simp [basics])
    | ref a => exact hty.elim
    | exn c =>
      cases hty
      have e' : (if sub c c = true ∧ basicT t = false then some (sub c t) else none) = some b := e
      by_cases q : sub c c = true
      · rw [if_pos ⟨q, hb⟩] at e'
        rw [h2 c q, e']
      · rw [if_neg fun z => q z.1] at e'
        cases e'
  | o o =>
    cases o with
    | lst x =>
      cases hty
      have e' : some (t == "list") = some b := e
      rw [b5] at e'
      cases e'
      exact h1 _ (by simp [basics])
    | dct bt x =>
      obtain ⟨rfl, rfl⟩ := hty
      have e' : some (t == "dict") = some b := e
      rw [b6] at e'
      cases e'
      exact h1 _ (by simp [basics])
    | ins c f =>
      cases hty
      have e' : (if basicT t = false then up c t else none) = some b := e
      rw [if_pos hb] at e'
      exact h3 c b e'
    | lkd kvs => exact hty.elim
theorem tyOk_own {t : String} (F : ExF X.K X.mg G.sub) (C : ClsF X G) (ht : G.sub t t = true) (hg : Gl X (Str.ofString t)) (hd : (Str.ofString t == ("__debug__" : Str)) = false) : TyOk X G t := by
  have f := F.one t ht
  exact ⟨.ref (gaS X.K t), .ref (gaS X.K t), fun pos => pe_glob hg f.glo rfl hd, .own _, isi_exc f.nb (fun c b e => C.upo c t b e) f.bas fun c hc => (F.two c t hc ht).2⟩
theorem tyOk_cls {t : String} (C : ClsF X G) (f : ClU X.K X.mg G.sub G.cl.up t) (hg : Gl X (Str.ofString t)) (hd : (Str.ofString t == ("__debug__" : Str)) = false) : TyOk X G t :=
  ⟨.ref (gaS X.K t), .ref (gaS X.K t), fun pos => pe_glob hg f.glo rfl hd, .own _, isi_exc f.nb (fun c b e => C.upo c t b e) f.bas f.exc⟩
theorem tyOk_val (F : ExF X.K X.mg G.sub) (C : ClsF X G) (hg : Gl X "ValueError") : TyOk X G "ValueError" :=
  ⟨.ty "ValueError", .type "ValueError", fun pos => pe_bltn hg F.vfree (by decide +kernel) rfl (by decide +kernel) (by decide +kernel), .ty _, isi_exc (by decide) (fun c b e => by rw [C.nov c] at e; cases e) F.vbas fun c hc => (F.one c hc).val⟩
theorem pt_ife {c a b : Expr} {tc ta tb : TT} {pos : Pos} (hc : PT X c tc) (ha : PT X a ta) (hb : PT X b tb) : PT X (.IfExp c a b pos) (fun σ H Q => tc σ H fun k H1 => if k = true then ta σ H1 Q else tb σ H1 Q) := by
  refine ⟨fun pins s σ H Q I h => ?_⟩
  rw [PySem.isTrue]
  refine wpAny_bind (thn (hc.run pins s σ H _ I h) fun k s1 ⟨H1, I1, q1⟩ => ?_)
  cases k with
  | true => exact ha.run pins s1 σ H1 Q I1 q1
  | false => exact hb.run pins s1 σ H1 Q I1 q1
theorem st_ife {c a b : E} {ec ea eb : Expr} {pos : Pos} (hc : ST X G c ec) (ha : ST X G a ea) (hb : ST X G b eb) : ST X G (.ife c a b) (.IfExp ec ea eb pos) := fun Wx tk => by
  refine PT.imp (pt_ife (hc Wx tk) (ha Wx tk) (hb Wx tk)) ?_
  rintro σ H Q ⟨ρ, st, hR, h⟩
  simp only [tst] at h
  refine tB.bind hR h (fun _ _ x => x) fun t st1 H1 ρ1 s1 h => ?_
  cases t with
  | true => exact iteT ⟨ρ1, st1, s1.res, Wp.mono h (fun _ _ x => x.back s1) fun _ _ x => x.back s1⟩
  | false => exact iteF ⟨ρ1, st1, s1.res, Wp.mono h (fun _ _ x => x.back s1) fun _ _ x => x.back s1⟩
end

/-! ### the check -/
def chkK : D → Const → Bool
  | .non, .none => true
  | .bl b, .bool b' => b == b'
  | .int i, .int j => i == j
  | .str x, .str y => x == y
  | _, _ => false
def PlainIxB : Expr → Bool
  | .Slice _ _ _ _ => false
  | _ => true
/-- the comprehension's block -/
def blkB (N : List Str) (sc scope : Scope) (own : List (Str × Nat)) : Bool :=
  (scope.kind == .function) && (scope.names.all fun y => scope.names.lookup y.1 == some y.2) && (own.all fun p => N[p.2]? == some p.1) &&
  (scope.names.all fun y => !(y.2 == .free) || sc.names.lookup y.1 == some .cell || sc.names.lookup y.1 == some .free) &&
  (scope.names.all fun y => !(y.2 == .local || y.2 == .cell) || (own.map (·.1)).contains y.1 || !N.contains y.1)
def Ck.blk (c : Ck) (scope : Scope) : Ck := { c with sc := relS scope c.sc, fnc := fun x => scope.names.lookup x == some .cell }
def ownOf (N : List Str) (vs : List Nat) : List (Str × Nat) := vs.map fun i => (N.getD i "", i)
def notSet : Expr → Bool
  | .Set _ _ _ => false
  | _ => true
def isTupE : Expr → Bool
  | .Tuple _ _ _ => true
  | _ => false
/-- the classes of isinstance's second argument -/
def chkC (c : Ck) (t : String) : Expr → Bool
  | .Name x _ => (x == Str.ofString t) && (tyBi t || t == "ValueError" || (subOf c.gt.exs t t && !(x == ("__debug__" : Str))) || (c.gt.cls.contains t && !(x == ("__debug__" : Str)))) && c.glo x
  | _ => false
def chkCs (c : Ck) : List String → List Expr → Bool
  | [], [] => true
  | t :: ts, e :: es => chkC c t e && chkCs c ts es
  | _, _ => false
def Ck.fn (c : Ck) (f : String) : Bool := c.gt.fns.contains f
mutual
def D.same : D → D → Bool
  | .non, .non => true
  | .bl b, .bl b' => b == b'
  | .int i, .int j => i == j
  | .str x, .str y => x == y
  | .tup ds, .tup es => D.sames ds es
  | _, _ => false
def D.sames : List D → List D → Bool
  | [], [] => true
  | d :: ds, e :: es => D.same d e && D.sames ds es
  | _, _ => false
end
mutual
theorem D.same_eq : ∀ (a b : D), D.same a b = true → a = b
  | .non, b, h => by cases b <;> first | rfl | cases h
  | .bl x, b, h => by cases b <;> first | (rw [eq_of_beq (show (x == _) = true from h)]) | cases h
  | .int x, b, h => by cases b <;> first | (rw [eq_of_beq (show (x == _) = true from h)]) | cases h
  | .str x, b, h => by cases b <;> first | (rw [eq_of_beq (show (x == _) = true from h)]) | cases h
  | .tup ds, b, h => by
    cases b with
    | tup es => rw [D.sames_eq ds es h]
    | _ => cases h
  | .ref a, b, h => by cases b <;> cases h
  | .fz a, b, h => by cases b <;> cases h
  | .exn a, b, h => by cases b <;> cases h
theorem D.sames_eq : ∀ (a b : List D), D.sames a b = true → a = b
  | [], b, h => by cases b <;> first | rfl | cases h
  | d :: ds, b, h => by
    cases b with
    | nil => cases h
    | cons e es =>
      have h' : (D.same d e && D.sames ds es) = true := h
      rw [Bool.and_eq_true] at h'
      rw [D.same_eq d e h'.1, D.sames_eq ds es h'.2]
end
def isNo : E → Bool
  | .no => true
  | _ => false
def isIt : E → Bool
  | .it _ _ => true
  | _ => false
def isiOk (c : Ck) (ts : List String) (et : Expr) : Bool := match et with
  | .Tuple es _ _ => decide (ts.length ≤ 100) && !ts.isEmpty && chkCs c ts es
  | e => (match ts with
    | [t] => chkC c t e
    | _ => false)
def methForm (m : String) (ms : List E) (es : List Expr) : Bool :=
  (m == "append" && ms.length == 1 && es.length == 1) || (m == "clear" && ms.length == 0 && es.length == 0) || (m == "pop" && ms.length == 0 && es.length == 0) || (m == "get" && ms.length == 2 && es.length == 2) || (m == "setdefault" && ms.length == 2 && es.length == 2) || (m == "insert" && ms.length == 2 && es.length == 2)
def smForm (m : String) (ms : List E) (es : List Expr) : Bool :=
  (m == "find" && ms.length == 1 && es.length == 1) || (m == "join" && ms.length == 1 && es.length == 1) || (m == "upper" && ms.length == 0 && es.length == 0)
def itCall (k : I) (x : Str) (es : List Expr) : Bool := match k with
  | .range => (x == ("range" : Str)) && decide (1 ≤ es.length) && decide (es.length ≤ 3)
  | .enumerate => (x == ("enumerate" : Str)) && decide (es.length = 1)
  | .zip => (x == ("zip" : Str)) && decide (es.length = 2)
  | .reversed => (x == ("reversed" : Str)) && decide (es.length = 1)
  | _ => false
def tgOk (m : E) (tg : Expr) : Bool := match m with
  | .it .enumerate _ => isTupE tg
  | .it .zip _ => isTupE tg
  | _ => true
/-- reversed(e) -/
def isRev (c : Ck) : Expr → Bool
  | .Call (.Name y _) [ea] [] _ => (y == ("reversed" : Str)) && c.glo y && noStar ea
  | _ => false
def argOf : Expr → Expr
  | .Call _ (ea :: _) _ _ => ea
  | e => e
theorem isRev_ok {c : Ck} {e : Expr} (h : isRev c e = true) : ∃ p ea pos, e = .Call (.Name "reversed" p) [ea] [] pos ∧ c.glo "reversed" = true ∧ noStar ea = true ∧ argOf e = ea := by
  unfold isRev at h
  split at h
  · simp only [Bool.and_eq_true, beq_iff_eq] at h
    obtain ⟨⟨rfl, h2⟩, h3⟩ := h
    exact ⟨_, _, _, rfl, h2, h3, rfl⟩
  · cases h
/-- a name that is walked -/
def lckN (c : Ck) (i : Nat) : Expr → Bool
  | .Name x _ => (c.N[i]? == some x) && c.vis x && !(x == ("__debug__" : Str)) && !(x == ("__classdict__" : Str))
  | _ => false
theorem lckN_ok {c : Ck} {i : Nat} {e : Expr} (h : lckN c i e = true) : ∃ x p, e = .Name x p ∧ (c.N[i]? == some x) = true ∧ c.vis x = true ∧ (x == ("__debug__" : Str)) = false ∧ (x == ("__classdict__" : Str)) = false := by
  cases e with
  | Name x p =>
    simp only [lckN, Bool.and_eq_true, Bool.not_eq_true'] at h
    obtain ⟨⟨⟨h1, h2⟩, h3⟩, h4⟩ := h
    exact ⟨x, p, rfl, h1, h2, h3, h4⟩
  | _ => cases h
mutual
def chk (c : Ck) (w : Bool) : E → Expr → Bool
  | .k d, .Constant k _ _ => chkK d k
  | .g n d, .Name x _ => (x == Str.ofString n) && c.glo x && !(x == ("__debug__" : Str)) && (match c.gt.cs.lookup n with | some d' => D.same d d' | none => false)
  | .v i, .Name x _ => (c.N[i]? == some x) && c.vis x && !(x == ("__debug__" : Str)) && !(x == ("__classdict__" : Str))
  | .tup ms, .Tuple es _ _ => chks c ms es
  | .lst ms, .List es _ => chks c ms es
  | .bin op a b, .BinOp ea op' eb _ => (op == op') && chk c false a ea && chk c false b eb
  | .neg a, .UnaryOp .USub ea _ => chk c false a ea
  | .not a, .UnaryOp .Not ea _ => chk c false a ea
  | .and a b, .BoolOp .And (ea :: eb :: er) pos => chk c false a ea && chk c false b (match er with | [] => eb | _ => .BoolOp .And (eb :: er) pos)
  | .or a b, .BoolOp .Or (ea :: eb :: er) pos => chk c false a ea && chk c false b (match er with | [] => eb | _ => .BoolOp .Or (eb :: er) pos)
  | .ife t a b, .IfExp et ea eb _ => chk c false t et && chk c false a ea && chk c false b eb
  | .cmp op a b, .Compare ea [op'] [eb] _ => (op == op') && !(behindInMarks op eb) && chk c false a ea && chk c false b eb
  | .chn op op2 a b d, .Compare ea [op', op2'] [eb, ed] _ => (op == op') && (op2 == op2') && !(lastMarks [op, op2] [eb, ed]) && chk c false a ea && chk c false b eb && chk c false d ed
  | .idx a i, .Subscript ea ei _ => PlainIxB ei && chk c false a ea && chk c false i ei
  | .sl a lo hi, .Subscript ea (.Slice elo ehi none _) _ => chk c false a ea && (match elo with | none => isNo lo | some e => !isNo lo && chk c false lo e) && (match ehi with | none => isNo hi | some e => !isNo hi && chk c false hi e)
  | .call f ms, .Call (.Name x _) es [] _ => (x == Str.ofString f) && c.glo x && !(x == ("__debug__" : Str)) && c.fn f && !es.isEmpty && chks c ms es
  | .bi b ms, .Call (.Name x _) es [] _ => (x == biN b) && c.glo x && c.calm && !es.isEmpty && chks c ms es
  | .isi a ts, .Call (.Name x _) [ea, et] [] _ => (x == ("isinstance" : Str)) && c.glo x && noStar ea && chk c false a ea && isiOk c ts et
  | .meth m o ms, .Call (.Attribute eo at_ apos) es [] pos => (at_ == Str.ofString m) && notCall0 eo && (apos.endLine == pos.line) && chk c false o eo && methForm m ms es && chks c ms es
  | .sm m o ms, .Call (.Attribute eo at_ apos) es [] pos => (at_ == Str.ofString m) && notCall0 eo && (apos.endLine == pos.line) && chk c false o eo && smForm m ms es && chks c ms es
  | .dct t ks _, .Dict eks evs _ => (ks.isEmpty && eks.isEmpty && evs.isEmpty) || (!t && !eks.isEmpty && decide (eks.length ≤ 15) && (match flatE eks evs with | some es => chks c ks es | none => false))
  | .lc elt tg src cond, .ListComp eelt [⟨etg, eiter, ifs, k⟩] scope _ => c.calm && (k == 0) && chk c true src eiter && tgOk src etg && notSet eiter && blkB c.N c.sc scope (ownOf c.N tg.vars) && chkT (c.blk scope) tg etg && chk (c.blk scope) false elt eelt &&
      (match ifs with | [] => isNo cond | [e] => !isNo cond && chk (c.blk scope) false cond e | _ => false)
  | .lck elt tg i, .ListComp eelt [⟨etg, eiter, [], k⟩] scope _ => c.calm && (k == 0) && lckN c i eiter && blkB c.N c.sc scope (ownOf c.N tg.vars) && chkT (c.blk scope) tg etg && chk (c.blk scope) false elt eelt
  | .lrv a, .Call (.Name x _) [e1] [] _ => c.calm && (x == ("list" : Str)) && c.glo x && isRev c e1 && chk c false a (argOf e1)
  | .trv a, .Call (.Name x _) [e1] [] _ => c.calm && (x == ("tuple" : Str)) && c.glo x && isRev c e1 && chk c false a (argOf e1)
  | .bid a d, .Call (.Name x _) [ea] [⟨some y, ed, _⟩] _ => c.calm && (x == ("max" : Str)) && (y == ("default" : Str)) && c.glo x && noStar ea && chk c false a ea && chk c false d ed
  | .ext o a, .Call (.Attribute eo at_ apos) [ea] [] pos => (at_ == ("extend" : Str)) && notCall0 eo && noStar ea && (apos.endLine == pos.line) && chk c false o eo && chk c false a ea
  | .fld a f, .Attribute ea at_ _ => (at_ == Str.ofString f) && notCall0 ea && chk c false a ea
  | .dcl o, .Call (.Attribute eo at_ apos) [] [] pos => (at_ == ("clear" : Str)) && notCall0 eo && (apos.endLine == pos.line) && chk c false o eo
  | .new f ms, .Call (.Name x _) es [] _ => (x == Str.ofString f) && c.glo x && !(x == ("__debug__" : Str)) && c.gt.cls.contains f && chks c ms es
  | .mc m o ms, .Call (.Attribute eo at_ apos) es [] pos => (at_ == Str.ofString m) && notCall0 eo && (apos.endLine == pos.line) && decide (es.length ≤ 20) && chk c false o eo && chks c ms es
  | .it k ms, .Call (.Name x _) es [] _ => w && c.glo x && itCall k x es && chks c ms es
  | _, _ => false
def chks (c : Ck) : List E → List Expr → Bool
  | [], [] => true
  | m :: ms, e :: es => noStar e && chk c false m e && chks c ms es
  | _, _ => false
end
end EW

-- part: Sound12
set_option maxHeartbeats 1000000
/-! the check of expressions is sound -/
namespace EW
open PySem PySem.Spec PyProof.Rows L2
theorem ff {P : Prop} (h : false = true) : P := nomatch h
/-- a def that may be called -/
def FnAt (X : Cx) (G : Gam) (f : String) : Prop := ∃ (k : Nat) (fa : Addr), FnR X.prog X.w X.K X.mg X.base (L2.CX X.prog X.w) k fa (spV X.K X.mg (G.call f)) ∧ Room k X.A ∧ X.mg (Str.ofString f) = some (.ref fa) ∧ PySem.W.keepIn X.K (.ref fa) = true
/-- a built-in's name that this program does not shadow -/
def Nob (mg : Str → Option Value) : Prop := (∀ b, mg (biN b) = none) ∧ mg "range" = none ∧ mg "enumerate" = none ∧ mg "zip" = none ∧ mg "reversed" = none ∧ mg "isinstance" = none ∧ ∀ t, tyBi t = true → mg (Str.ofString t) = none
structure CtE (X : Cx) (G : Gam) (c : Ck) : Prop where
  ok : CtOk X c
  deep : Deep X
  nob : Nob X.mg
  cs : ∀ n d, c.gt.cs.lookup n = some d → ∃ v u, X.mg (Str.ofString n) = some u ∧ RelV v u ∧ ∀ ρ H, VR X.K ρ H d v
  fns : ∀ f, f ∈ c.gt.fns → FnAt X G f
  sub : G.sub = subOf c.gt.exs
  exF : ExF X.K X.mg G.sub
  cls : ClsF X G
  clo : ∀ t, t ∈ c.gt.cls → G.cl.up t t = some true
section
variable {X : Cx} {G : Gam} {c : Ck}
theorem CtE.blk (h : CtE X G c) {s : Shared} {H : Hp} {scope : Scope} {cl : List (Str × Addr)} {C : Addr} {fp : List Addr} : CtE (X.blk s H scope (compEnvC scope cl C X.env) fp) G (c.blk scope) where
  ok := ⟨h.ok.N, h.ok.nd, by
    show relS scope X.env.scope = relS scope c.sc
    rw [h.ok.sc], fun x e => e, h.ok.calm⟩
  deep := h.deep
  nob := h.nob
  cs := h.cs
  fns := h.fns
  sub := h.sub
  exF := h.exF
  cls := ⟨h.cls.fl, h.cls.mt, h.cls.nw, h.cls.up, h.cls.upo, h.cls.nov⟩
  clo := h.clo
theorem blkB_ok {N : List Str} {sc scope : Scope} {own : List (Str × Nat)} (h : blkB N sc scope own = true) : BlkOk N sc scope own := by
  unfold blkB at h
  simp only [Bool.and_eq_true, List.all_eq_true, beq_iff_eq, Bool.or_eq_true, Bool.not_eq_true', beq_eq_false_iff_ne, List.contains_eq_mem, decide_eq_true_eq, decide_eq_false_iff_not] at h
  obtain ⟨⟨⟨⟨h1, h2⟩, h3⟩, h4⟩, h5⟩ := h
  refine ⟨h1, h2, h3, fun y hy e => ?_, fun y hy e => ?_⟩
  · rcases h4 y hy with (z | z) | z
    · exact absurd e z
    · exact .inl z
    · exact .inr z
  · rcases h5 y hy with (z | z) | z
    · rw [Bool.or_eq_false_iff] at z
      rcases e with e | e
      · simp [e] at z
      · simp [e] at z
    · exact .inl z
    · exact .inr z
theorem ownOf_snd {N : List Str} {vs : List Nat} : (ownOf N vs).map (·.2) = vs := by
  unfold ownOf
  rw [List.map_map]
  exact List.map_id _
def isBoolE : Expr → Bool
  | .BoolOp _ _ _ => true
  | _ => false
structure SX (X : Cx) (G : Gam) (m : E) (e : Expr) : Prop where
  se : SE X G m e
  st : ST X G m e
  sw : isBoolE e = true → SW X G m e
/-- no and, or, not, if-else, comparison -/
def plainE : Expr → Bool
  | .BoolOp _ _ _ => false
  | .UnaryOp .Not _ _ => false
  | .IfExp _ _ _ _ => false
  | .Compare _ _ _ _ => false
  | _ => true
theorem plainE_tru {e : Expr} {env : Env} (h : plainE e = true) (whole : Sem Value) : PySem.isTrue e env whole = (do let v ← whole; standAt e.pos; holding [v] (truthy v)) := by
  cases e with
  | UnaryOp op a p => cases op <;> first | rfl | exact ff h
  | BoolOp op vs p => exact ff h
  | IfExp a b d p => exact ff h
  | Compare a b d p => exact ff h
  | _ => rfl
theorem plainE_bool {e : Expr} (h : plainE e = true) : isBoolE e = false := by
  cases e with
  | BoolOp op vs p => exact ff h
  | _ => rfl
theorem SX.of {m : E} {e : Expr} (h : SE X G m e) (hp : plainE e = true)
    (hm : ∀ st, tst G m st = (ev G m st).bind fun v st1 => match (rd st1 v).bind truthW with | some t => .ok t st1 | none => .bad) : SX X G m e :=
  ⟨h, st_tru (fun w => plainE_tru hp w) hm h, fun z => by rw [plainE_bool hp] at z; cases z⟩
theorem SX.of2 {m : E} {e : Expr} (h : SE X G m e) (t : ST X G m e) (hp : isBoolE e = false) : SX X G m e := ⟨h, t, fun z => by rw [hp] at z; cases z⟩
theorem chkK_ok {d : D} {k : Const} {j : Nat} {p : Pos} (h : chkK d k = true) : SE X G (.k d) (.Constant k j p) := by
  cases d with
  | non => cases k <;> first | exact se_k (d := .non) (v := .non) pe_non (fun _ _ => rfl) (fun st => by simp only [ev]) | exact ff h
  | bl b =>
    cases k with
    | bool b' =>
      have e := eq_of_beq (show (b == b') = true from h)
      subst e
      exact se_k (d := .bl b) (v := .bl b) pe_bl (fun _ _ => rfl) (fun st => by simp only [ev])
    | _ => exact ff h
  | int b =>
    cases k with
    | int b' =>
      have e := eq_of_beq (show (b == b') = true from h)
      subst e
      exact se_k (d := .int b) (v := .int b) pe_int (fun _ _ => rfl) (fun st => by simp only [ev])
    | _ => exact ff h
  | str b =>
    cases k with
    | str b' =>
      have e := eq_of_beq (show (b == b') = true from h)
      subst e
      exact se_k (d := .str b) (v := .str b) pe_str (fun _ _ => rfl) (fun st => by simp only [ev])
    | _ => exact ff h
  | _ => cases k <;> exact ff h
theorem chkC_ty (h : CtE X G c) {t : String} {x : Str} {p : Pos} (q : chkC c t (.Name x p) = true) : x = Str.ofString t ∧ TyOk X G t := by
  have q2 : ((x == Str.ofString t) && (tyBi t || t == "ValueError" || (subOf c.gt.exs t t && !(x == ("__debug__" : Str))) || (c.gt.cls.contains t && !(x == ("__debug__" : Str)))) && c.glo x) = true := q
  obtain ⟨q2, b2⟩ := Bool.and_eq_true_iff.mp q2
  obtain ⟨q2, b1⟩ := Bool.and_eq_true_iff.mp q2
  have ex := eq_of_beq q2
  subst ex
  refine ⟨rfl, ?_⟩
  rw [Bool.or_eq_true, Bool.or_eq_true, Bool.or_eq_true] at b1
  rcases b1 with ((b1 | b1) | b1) | b1
  · exact tyOk_bi b1 (h.ok.glo b2) (h.nob.2.2.2.2.2.2 _ b1)
  · have e := eq_of_beq b1
    subst e
    exact tyOk_val h.exF h.cls (h.ok.glo b2)
  · obtain ⟨b1, b3⟩ := Bool.and_eq_true_iff.mp b1
    refine tyOk_own h.exF h.cls ?_ (h.ok.glo b2) ?_
    · rw [h.sub]
      exact b1
    · simpa using b3
  · obtain ⟨b1, b3⟩ := Bool.and_eq_true_iff.mp b1
    exact tyOk_cls h.cls (h.cls.up _ (h.clo _ (by simpa using b1))) (h.ok.glo b2) (by simpa using b3)
theorem chkCs_ok (h : CtE X G c) : ∀ {ts : List String} {es : List Expr}, chkCs c ts es = true → (∀ t ∈ ts, TyOk X G t) ∧ ∃ ps : List Pos, ps.length = ts.length ∧ es = (ts.zip ps).map fun q => .Name (Str.ofString q.1) q.2
  | [], es, q => by
    cases es with
    | nil => exact ⟨fun t ht => by simp at ht, [], rfl, rfl⟩
    | cons e es => exact ff q
  | t :: ts, es, q => by
    cases es with
    | nil => exact ff q
    | cons e es =>
      have q' : (chkC c t e && chkCs c ts es) = true := q
      rw [Bool.and_eq_true] at q'
      obtain ⟨g1, ps, g2, g3⟩ := chkCs_ok h q'.2
      have q1 := q'.1
      cases e with
      | Name x p =>
        obtain ⟨rfl, b1⟩ := chkC_ty h q1
        refine ⟨fun t' ht => ?_, p :: ps, by simp [g2], by rw [g3]; rfl⟩
        rcases List.mem_cons.mp ht with z | z
        · subst z
          exact b1
        · exact g1 t' z
      | _ => exact ff q1
theorem isNo_eq {m : E} (h : isNo m = true) : m = .no := by
  cases m <;> first | rfl | exact ff h
theorem isNo_ne {m : E} (h : (!isNo m) = true) : m ≠ .no := fun z => by
  subst z
  exact ff h
theorem plainIx_ok {e : Expr} (h : PlainIxB e = true) : PlainIx e := by
  intro o i
  cases e with
  | Slice a b d p => exact ff h
  | _ => rfl
theorem notSet_ok {e : Expr} {env : Env} (h : notSet e = true) (x : Value) : foldedSetIterable e env x = pure x := by
  cases e with
  | Set a b d => exact ff h
  | _ => rfl

theorem si_it (h : CtE X G c) {k : I} {tg : Expr} {x : Str} {p pos : Pos} {es : List Expr} {ms : List E} (hx : c.glo x = true) (hc : itCall k x es = true) (ht : tgOk (.it k ms) tg = true) (g1 : SA X G ms es) (g2 : es.all noStar = true) (g3 : es.length = ms.length) (h1 : ∀ a ea, ms[0]? = some a → es[0]? = some ea → SE X G a ea) : SI X G (.it k ms) tg (.Call (.Name x p) es [] pos) := by
  have hg := h.ok.glo hx
  have st1 : ∀ {a : Expr} {r : List Expr}, es = a :: r → starEach (a :: r) X.env = (false, eval a X.env) :: starEach r X.env := fun {a r} e => by
    rw [e, List.all_cons, Bool.and_eq_true] at g2
    exact star_cons g2.1
  cases k with
  | range =>
    simp only [itCall, Bool.and_eq_true, beq_iff_eq, decide_eq_true_eq] at hc
    obtain ⟨⟨rfl, l1⟩, l2⟩ := hc
    match es, ms, g3 with
    | [ea], [a], _ => exact si_range1 hg h.nob.2.1 (by rw [st1 rfl]; rfl) g1
    | [ea, eb], [a, b], _ =>
      have z : noStar ea = true ∧ noStar eb = true := by simpa using g2
      exact si_range2 hg h.nob.2.1 (by rw [star_cons z.1, star_cons z.2]; rfl) (by rw [star_cons z.2]; rfl) g1
    | [ea, eb, ed], [a, b, d], _ =>
      have z : noStar ea = true ∧ noStar eb = true ∧ noStar ed = true := by simpa using g2
      exact si_range3 hg h.nob.2.1 (star_cons z.1) (star_plain (by simp [z])) g1
    | [], _, _ => simp at l1
    | _ :: _ :: _ :: _ :: _, _, _ => simp at l2
  | enumerate =>
    simp only [itCall, Bool.and_eq_true, beq_iff_eq, decide_eq_true_eq] at hc
    obtain ⟨rfl, l2⟩ := hc
    cases tg with
    | Tuple elts kk tpos =>
      match es, ms, g3 with
      | [ea], [a], _ => exact si_enum hg h.nob.2.2.1 (by rw [st1 rfl]; rfl) g1
      | [], _, _ => simp at l2
      | _ :: _ :: _, _, _ => simp at l2
    | _ => exact ff ht
  | zip =>
    simp only [itCall, Bool.and_eq_true, beq_iff_eq, decide_eq_true_eq] at hc
    obtain ⟨rfl, l2⟩ := hc
    cases tg with
    | Tuple elts kk tpos =>
      match es, ms, g3 with
      | [ea, eb], [a, b], _ =>
        have z : noStar ea = true ∧ noStar eb = true := by simpa using g2
        exact si_zip hg h.nob.2.2.2.1 (star_cons z.1) (star_plain (by simp [z])) g1
      | [], _, _ => simp at l2
      | [_], _, _ => simp at l2
      | _ :: _ :: _ :: _, _, _ => simp at l2
    | _ => exact ff ht
  | reversed =>
    simp only [itCall, Bool.and_eq_true, beq_iff_eq, decide_eq_true_eq] at hc
    obtain ⟨rfl, l2⟩ := hc
    match es, ms, g3 with
    | [ea], [a], _ => exact si_rev hg h.nob.2.2.2.2.1 (st1 rfl) (h1 a ea rfl rfl)
    | [], _, _ => simp at l2
    | _ :: _ :: _, _, _ => simp at l2
  | items => simp [itCall] at hc
  | values => simp [itCall] at hc
theorem se_lrv {a : E} {ea : Expr} {p p2 pos pos2 : Pos} (hc : X.calm = true) (hg : Gl X "list") (hm : X.mg "list" = none) (hg2 : Gl X "reversed") (hm2 : X.mg "reversed" = none) (hn : noStar ea = true) (ha : SE X G a ea) :
    SE X G (.lrv a) (.Call (.Name "list" p) [.Call (.Name "reversed" p2) [ea] [] pos2] [] pos) := fun Wx tk => by
  refine PE.imp (pe_listRev hc hg hm hg2 hm2 (ha Wx tk) (star_cons hn) rfl) ?_
  rintro σ H Q ⟨ρ, st, hR, h⟩
  rw [ev] at h
  refine tE.bind hR h (fun _ _ x => x) fun va st1 v1 H1 ρ1 s1 r1 n1 h => ?_
  cases q1 : rd st1 va with
  | none =>
    rw [q1] at h
    exact h.elim
  | some w =>
    rw [q1] at h
    cases w with
    | d d => exact h.elim
    | o ob =>
      cases ob with
      | ins c fs => exact h.elim
      | lkd kvs => exact h.elim
      | dct t kvs => exact h.elim
      | lst ds =>
        obtain ⟨b, rfl, ws, hb, hw⟩ := rd_sound s1.res r1 q1
        exact ⟨b, ws, rfl, .of hb, fun q hq' => EQ.fin h s1 (same_new hq') (NewR.lst hq' hw.reverse)⟩
theorem se_trv {a : E} {ea : Expr} {p p2 pos pos2 : Pos} (hc : X.calm = true) (hg : Gl X "tuple") (hm : X.mg "tuple" = none) (hg2 : Gl X "reversed") (hm2 : X.mg "reversed" = none) (hn : noStar ea = true) (ha : SE X G a ea) :
    SE X G (.trv a) (.Call (.Name "tuple" p) [.Call (.Name "reversed" p2) [ea] [] pos2] [] pos) := fun Wx tk => by
  refine PE.imp (PE.or (RT.pe_tupRev hc hg hm hg2 hm2 (ha Wx tk) (star_cons hn) rfl) (pe_tupRevT hc hg hm hg2 hm2 (ha Wx tk) (star_cons hn) rfl)) ?_
  rintro σ H Q ⟨ρ, st, hR, h⟩
  rw [ev] at h
  cases q : ev G a st with
  | bad =>
    rw [q] at h
    exact h.elim
  | ex c st1 =>
    rw [q] at h
    refine .inl ⟨ρ, st, hR, ?_⟩
    rw [q]
    exact h
  | ok va st1 =>
    rw [q] at h
    have h : Wp (match (rd st1 va).bind seqL with
      | some ds => Out.ok (EV.d (.tup ds.reverse)) st1
      | none => .bad) _ _ := h
    cases q1 : rd st1 va with
    | none =>
      rw [q1] at h
      exact h.elim
    | some w =>
      rw [q1] at h
      cases q2 : seqL w with
      | none =>
        rw [Option.bind_some, q2] at h
        exact h.elim
      | some ds =>
        rw [Option.bind_some, q2] at h
        obtain ⟨e1, e2⟩ := seqL_seq q2
        by_cases ht : ∃ es, w = .d (.tup es)
        · refine .inr ⟨ρ, st, hR, ?_⟩
          rw [q]
          intro v H1 ρ1 s r n
          obtain ⟨a', vs, rfl, hv, hh⟩ := (rd_sound s.res r q1).sq e1 e2
          rcases hh with ⟨_, z⟩ | ⟨hq, _⟩
          · obtain ⟨es, z'⟩ := ht
            exact (z es z').elim
          · exact ⟨a', vs, rfl, hq, fun q hq' => EQ.fin h s (same_new hq') (NewR.tup hq' hv.reverse)⟩
        · refine .inl ⟨ρ, st, hR, ?_⟩
          rw [q]
          intro v H1 ρ1 s r n
          obtain ⟨a', vs, rfl, hv, hh⟩ := (rd_sound s.res r q1).sq e1 e2
          rcases hh with ⟨hq, _⟩ | ⟨_, z⟩
          · exact ⟨a', vs, rfl, hq, fun q hq' => EQ.fin h s (same_new hq') (NewR.tup hq' hv.reverse)⟩
          · exact (ht z).elim
end
end EW

-- part: Sound13
set_option maxHeartbeats 4000000
/-! every checked expression is sound -/
namespace EW
open PySem PySem.Spec PyProof.Rows L2
theorem or2 {a b : Bool} (h : (a || b) = true) : a = true ∨ b = true := by rw [Bool.or_eq_true] at h; exact h
theorem and2 {a b : Bool} (h : (a && b) = true) : a = true ∧ b = true := by rw [Bool.and_eq_true] at h; exact h
theorem nbeq {x y : Str} (h : (!(x == y)) = true) : (x == y) = false := by
  cases q : x == y with
  | true => rw [q] at h; cases h
  | false => rfl
theorem bool_of {op : BoolOp} {vs : List Expr} {p : Pos} : isBoolE (.BoolOp op vs p) = true := rfl
theorem nit {c : Ck} {m : E} {e : Expr} (q : chk c false m e = true) : isIt m = false := by
  cases m with
  | it k ms =>
    cases e with
    | Call ef es kws p =>
      cases ef with
      | Name x p2 =>
        cases kws with
        | nil =>
          have q' : (false && c.glo x && itCall k x es && chks c ms es) = true := q
          simp at q'
        | cons kw kws => exact ff q
      | _ => exact ff q
    | _ => exact ff q
  | _ => rfl
structure SY (X : Cx) (G : Gam) (m : E) (e : Expr) : Prop where
  x : isIt m = false → SX X G m e
  i : ∀ tg, tgOk m tg = true → SI X G m tg e
theorem SY.mk' {X : Cx} {G : Gam} {m : E} {e : Expr} (h : SX X G m e) : SY X G m e := ⟨fun _ => h, fun tg _ => si_plain h.se⟩
mutual
theorem chk_ok : ∀ (m : E) {w : Bool} {X : Cx} {G : Gam} {c : Ck} {e : Expr}, CtE X G c → chk c w m e = true → SY X G m e
  | .no, w, X, G, c, e, h, q => by cases e <;> exact ff q
  | .k d, w, X, G, c, e, h, q => by
    refine .mk' ?_
    cases e with
    | Constant k j p => exact .of (chkK_ok q) rfl (fun st => by first | (simp only [tst]; done) | (simp only [tst]; rfl))
    | _ => exact ff q
  | .v i, w, X, G, c, e, h, q => by
    refine .mk' ?_
    cases e with
    | Name x p =>
      obtain ⟨q, q4⟩ := and2 q
      obtain ⟨q, q3⟩ := and2 q
      obtain ⟨q1, q2⟩ := and2 q
      exact .of (se_v (pe_var (h.ok.ix q1) (h.ok.vis q2) (nbeq q3) (nbeq q4))) rfl (fun st => by first | (simp only [tst]; done) | (simp only [tst]; rfl))
    | _ => exact ff q
  | .g n d, w, X, G, c, e, h, q => by
    refine .mk' ?_
    cases e with
    | Name x p =>
      obtain ⟨q, q4⟩ := and2 q
      obtain ⟨q, q3⟩ := and2 q
      obtain ⟨q1, q2⟩ := and2 q
      have ex := eq_of_beq q1
      subst ex
      cases z : c.gt.cs.lookup n with
      | none =>
        rw [z] at q4
        exact ff q4
      | some d' =>
        rw [z] at q4
        have ed := D.same_eq d d' q4
        subst ed
        obtain ⟨v, u, a1, a2, a3⟩ := h.cs n d z
        exact .of (se_k (pe_glob (h.ok.glo q2) a1 a2 (nbeq q3)) a3 (fun st => by simp only [ev])) rfl (fun st => by first | (simp only [tst]; done) | (simp only [tst]; rfl))
    | _ => exact ff q
  | .tup ms, w, X, G, c, e, h, q => by
    refine .mk' ?_
    cases e with
    | Tuple es k p => exact .of (se_tup (chks_ok ms h q).1) rfl (fun st => by first | (simp only [tst]; done) | (simp only [tst]; rfl))
    | _ => exact ff q
  | .lst ms, w, X, G, c, e, h, q => by
    refine .mk' ?_
    cases e with
    | List es p => exact .of (se_lst (chks_ok ms h q).1) rfl (fun st => by first | (simp only [tst]; done) | (simp only [tst]; rfl))
    | _ => exact ff q
  | .dct t ks vs, w, X, G, c, e, h, q => by
    refine .mk' ?_
    cases e with
    | Dict eks evs p =>
      rcases or2 q with q | q
      · obtain ⟨q, q3⟩ := and2 q
        obtain ⟨q1, q2⟩ := and2 q
        have e1 := List.isEmpty_iff.mp q1
        have e2 := List.isEmpty_iff.mp q2
        have e3 := List.isEmpty_iff.mp q3
        subst e1 e2 e3
        exact .of se_dct0 rfl (fun st => by first | (simp only [tst]; done) | (simp only [tst]; rfl))
      · obtain ⟨q, q4⟩ := and2 q
        obtain ⟨q, q3⟩ := and2 q
        obtain ⟨q1, q2⟩ := and2 q
        have e1 : t = false := by simpa using q1
        subst e1
        have e2 : eks ≠ [] := fun z => by
          subst z
          cases q2
        cases z : flatE eks evs with
        | none =>
          rw [z] at q4
          cases q4
        | some es =>
          rw [z] at q4
          obtain ⟨_, _, z3, z4⟩ := chks_ok ks h q4
          exact .of (se_dsp z z3 e2 (of_decide_eq_true q3) z4) rfl (fun st => by first | (simp only [tst]; done) | (simp only [tst]; rfl))
    | _ => exact ff q
  | .bin op a b, w, X, G, c, e, h, q => by
    refine .mk' ?_
    cases e with
    | BinOp ea op' eb p =>
      obtain ⟨q, q3⟩ := and2 q
      obtain ⟨q1, q2⟩ := and2 q
      have eo := eq_of_beq q1
      subst eo
      exact .of (se_bin ((chk_ok a h q2).x (nit q2)).se ((chk_ok b h q3).x (nit q3)).se) rfl (fun st => by first | (simp only [tst]; done) | (simp only [tst]; rfl))
    | _ => exact ff q
  | .neg a, w, X, G, c, e, h, q => by
    refine .mk' ?_
    cases e with
    | UnaryOp op ea p =>
      cases op with
      | USub => exact .of (se_neg ((chk_ok a h q).x (nit q)).se) rfl (fun st => by first | (simp only [tst]; done) | (simp only [tst]; rfl))
      | _ => exact ff q
    | _ => exact ff q
  | .not a, w, X, G, c, e, h, q => by
    refine .mk' ?_
    cases e with
    | UnaryOp op ea p =>
      cases op with
      | Not =>
        have z := (chk_ok a h q).x (nit q)
        exact .of2 (se_not z.se) (st_not z.st) rfl
      | _ => exact ff q
    | _ => exact ff q
  | .and a b, w, X, G, c, e, h, q => by
    refine .mk' ?_
    cases e with
    | BoolOp op vs p =>
      cases op with
      | And =>
        match vs, q with
        | [], q => exact ff q
        | [_], q => exact ff q
        | [ea, eb], q =>
          obtain ⟨q1, q2⟩ := and2 q
          have z1 := (chk_ok a h q1).x (nit q1)
          have z2 := (chk_ok b h q2).x (nit q2)
          have w : SW X G (.and a b) (.BoolOp .And [ea, eb] p) := sw_and z1.st (sw_and1 z2.st)
          exact ⟨se_and z1.se (se_one z2.se), w.st, fun _ => w⟩
        | ea :: eb :: ed :: er, q =>
          obtain ⟨q1, q2⟩ := and2 q
          have z1 := (chk_ok a h q1).x (nit q1)
          have z2 := (chk_ok b h q2).x (nit q2)
          have w : SW X G (.and a b) (.BoolOp .And (ea :: eb :: ed :: er) p) := sw_and z1.st (z2.sw rfl)
          exact ⟨se_and z1.se z2.se, w.st, fun _ => w⟩
      | Or => exact ff q
    | _ => exact ff q
  | .or a b, w, X, G, c, e, h, q => by
    refine .mk' ?_
    cases e with
    | BoolOp op vs p =>
      cases op with
      | Or =>
        match vs, q with
        | [], q => exact ff q
        | [_], q => exact ff q
        | [ea, eb], q =>
          obtain ⟨q1, q2⟩ := and2 q
          have z1 := (chk_ok a h q1).x (nit q1)
          have z2 := (chk_ok b h q2).x (nit q2)
          have w : SW X G (.or a b) (.BoolOp .Or [ea, eb] p) := sw_or z1.st (sw_or1 z2.st)
          exact ⟨se_or z1.se (se_one z2.se), w.st, fun _ => w⟩
        | ea :: eb :: ed :: er, q =>
          obtain ⟨q1, q2⟩ := and2 q
          have z1 := (chk_ok a h q1).x (nit q1)
          have z2 := (chk_ok b h q2).x (nit q2)
          have w : SW X G (.or a b) (.BoolOp .Or (ea :: eb :: ed :: er) p) := sw_or z1.st (z2.sw rfl)
          exact ⟨se_or z1.se z2.se, w.st, fun _ => w⟩
      | And => exact ff q
    | _ => exact ff q
  | .ife t a b, w, X, G, c, e, h, q => by
    refine .mk' ?_
    cases e with
    | IfExp et ea eb p =>
      obtain ⟨q, q3⟩ := and2 q
      obtain ⟨q1, q2⟩ := and2 q
      have z1 := (chk_ok t h q1).x (nit q1)
      have z2 := (chk_ok a h q2).x (nit q2)
      have z3 := (chk_ok b h q3).x (nit q3)
      exact .of2 (se_ife z1.st z2.se z3.se) (st_ife z1.st z2.st z3.st) rfl
    | _ => exact ff q
  | .cmp op a b, w, X, G, c, e, h, q => by
    refine .mk' ?_
    cases e with
    | Compare ea ops es p =>
      match ops, es, q with
      | [], _, q => exact ff q
      | [_], [], q => exact ff q
      | [op'], [eb], q =>
        obtain ⟨q, q4⟩ := and2 q
        obtain ⟨q, q3⟩ := and2 q
        obtain ⟨q1, q2⟩ := and2 q
        have eo := eq_of_beq q1
        subst eo
        have q2' : behindInMarks op eb = false := by simpa using q2
        have z1 := (chk_ok a h q3).x (nit q3)
        have z2 := (chk_ok b h q4).x (nit q4)
        exact .of2 (se_cmp h.deep q2' z1.se z2.se) (st_cmp h.deep q2' z1.se z2.se) rfl
      | [_], _ :: _ :: _, q => exact ff q
      | _ :: _ :: _, _, q => exact ff q
    | _ => exact ff q
  | .chn op op2 a b d, w, X, G, c, e, h, q => by
    refine .mk' ?_
    cases e with
    | Compare ea ops es p =>
      match ops, es, q with
      | [], _, q => exact ff q
      | [_], _, q => exact ff q
      | [_, _], [], q => exact ff q
      | [_, _], [_], q => exact ff q
      | [op', op2'], [eb, ed], q =>
        obtain ⟨q, q6⟩ := and2 q
        obtain ⟨q, q5⟩ := and2 q
        obtain ⟨q, q4⟩ := and2 q
        obtain ⟨q, q3⟩ := and2 q
        obtain ⟨q1, q2⟩ := and2 q
        have eo := eq_of_beq q1
        have eo2 := eq_of_beq q2
        subst eo eo2
        have q3' : lastMarks [op, op2] [eb, ed] = false := by simpa using q3
        have z1 := (chk_ok a h q4).x (nit q4)
        have z2 := (chk_ok b h q5).x (nit q5)
        have z3 := (chk_ok d h q6).x (nit q6)
        exact .of2 (se_chn h.deep q3' z1.se z2.se z3.se) (st_chn h.deep q3' z1.se z2.se z3.se) rfl
      | [_, _], _ :: _ :: _ :: _, q => exact ff q
      | _ :: _ :: _ :: _, _, q => exact ff q
    | _ => exact ff q
  | .idx a i, w, X, G, c, e, h, q => by
    refine .mk' ?_
    cases e with
    | Subscript ea ei p =>
      have q' : (PlainIxB ei && chk c false a ea && chk c false i ei) = true := by
        cases ei <;> exact q
      obtain ⟨q, q3⟩ := and2 q'
      obtain ⟨q1, q2⟩ := and2 q
      exact .of (se_idx h.deep (plainIx_ok q1) ((chk_ok a h q2).x (nit q2)).se ((chk_ok i h q3).x (nit q3)).se) rfl (fun st => by first | (simp only [tst]; done) | (simp only [tst]; rfl))
    | _ => exact ff q
  | .sl a lo hi, w, X, G, c, e, h, q => by
    refine .mk' ?_
    cases e with
    | Subscript ea ei p =>
      cases ei with
      | Slice elo ehi es p2 =>
        cases es with
        | none =>
          obtain ⟨q, q3⟩ := and2 q
          obtain ⟨q1, q2⟩ := and2 q
          have l : SO X G lo elo := by
            cases elo with
            | none =>
              rw [isNo_eq q2]
              exact so_no
            | some e =>
              obtain ⟨b1, b2⟩ := and2 q2
              exact so_some (isNo_ne b1) ((chk_ok lo h b2).x (nit b2)).se
          have u : SO X G hi ehi := by
            cases ehi with
            | none =>
              rw [isNo_eq q3]
              exact so_no
            | some e =>
              obtain ⟨b1, b2⟩ := and2 q3
              exact so_some (isNo_ne b1) ((chk_ok hi h b2).x (nit b2)).se
          exact .of (se_sl ((chk_ok a h q1).x (nit q1)).se l u) rfl (fun st => by first | (simp only [tst]; done) | (simp only [tst]; rfl))
        | some s => exact ff q
      | _ => exact ff q
    | _ => exact ff q
  | .fld a f, w, X, G, c, e, h, q => by
    refine .mk' ?_
    cases e with
    | Attribute ea at_ p =>
      obtain ⟨q, q3⟩ := and2 q
      obtain ⟨q1, q2⟩ := and2 q
      have ex := eq_of_beq q1
      subst ex
      exact .of (se_fld q2 ((chk_ok a h q3).x (nit q3)).se) rfl (fun st => by first | (simp only [tst]; done) | (simp only [tst]; rfl))
    | _ => exact ff q
  | .dcl o, w, X, G, c, e, h, q => by
    refine .mk' ?_
    cases e with
    | Call ef es kws pos =>
      cases ef with
      | Attribute eo at_ apos =>
        cases es with
        | nil =>
          cases kws with
          | nil =>
            obtain ⟨q, q4⟩ := and2 q
            obtain ⟨q, q3⟩ := and2 q
            obtain ⟨q1, q2⟩ := and2 q
            have ex := eq_of_beq q1
            subst ex
            exact .of (se_dcl q2 q3 ((chk_ok o h q4).x (nit q4)).se) rfl (fun st => by first | (simp only [tst]; done) | (simp only [tst]; rfl))
          | cons kw kws => exact ff q
        | cons e es => exact ff q
      | _ => exact ff q
    | _ => exact ff q
  | .new cl ms, w, X, G, c, e, h, q => by
    refine .mk' ?_
    cases e with
    | Call ef es kws p =>
      cases ef with
      | Name x p2 =>
        cases kws with
        | nil =>
          obtain ⟨q, q5⟩ := and2 q
          obtain ⟨q, q4⟩ := and2 q
          obtain ⟨q, q3⟩ := and2 q
          obtain ⟨q1, q2⟩ := and2 q
          have ex := eq_of_beq q1
          subst ex
          obtain ⟨z1, z2, z3, z4⟩ := chks_ok ms h q5
          have cu := h.cls.up cl (h.clo cl (by simpa using q4))
          cases es with
          | nil =>
            cases ms with
            | nil => exact .of (se_new0 h.cls (h.ok.glo q2) cu.glo cu.keep (nbeq q3)) rfl (fun st => by first | (simp only [tst]; done) | (simp only [tst]; rfl))
            | cons m ms => simp at z3
          | cons e es =>
            obtain ⟨y1, y2⟩ := and2 (show (noStar e && es.all noStar) = true from z2)
            exact .of (se_new h.cls (h.ok.glo q2) cu.glo cu.keep (nbeq q3) (star_cons y1) (star_plain y2) z1) rfl (fun st => by first | (simp only [tst]; done) | (simp only [tst]; rfl))
        | cons kw kws => exact ff q
      | _ => exact ff q
    | _ => exact ff q
  | .mc m o ms, w, X, G, c, e, h, q => by
    refine .mk' ?_
    cases e with
    | Call ef es kws pos =>
      cases ef with
      | Attribute eo at_ apos =>
        cases kws with
        | nil =>
          obtain ⟨q, q6⟩ := and2 q
          obtain ⟨q, q5⟩ := and2 q
          obtain ⟨q, q4⟩ := and2 q
          obtain ⟨q, q3⟩ := and2 q
          obtain ⟨q1, q2⟩ := and2 q
          have ex := eq_of_beq q1
          subst ex
          have z := ((chk_ok o h q5).x (nit q5)).se
          obtain ⟨z1, z2, z3, z4⟩ := chks_ok ms h q6
          cases es with
          | nil =>
            cases ms with
            | nil => exact .of (se_mc0 h.cls q2 q3 z) rfl (fun st => by first | (simp only [tst]; done) | (simp only [tst]; rfl))
            | cons m ms => simp at z3
          | cons e es => exact .of (se_mc h.cls q2 z2 (of_decide_eq_true q4) q3 z z1) rfl (fun st => by first | (simp only [tst]; done) | (simp only [tst]; rfl))
        | cons kw kws => exact ff q
      | _ => exact ff q
    | _ => exact ff q
  | .it k ms, w, X, G, c, e, h, q => by
    cases e with
    | Call ef es kws p =>
      cases ef with
      | Name x p2 =>
        cases kws with
        | nil =>
          obtain ⟨q, q3⟩ := and2 q
          obtain ⟨q, q2⟩ := and2 q
          obtain ⟨q0, q1⟩ := and2 q
          obtain ⟨z1, z2, z3, z4⟩ := chks_ok ms h q3
          exact ⟨fun z => by (cases z), fun tg ht => si_it h q1 q2 ht z1 z2 z3 (z4 0)⟩
        | cons kw kws => exact ff q
      | _ => exact ff q
    | _ => exact ff q
  | .call f ms, w, X, G, c, e, h, q => by
    refine .mk' ?_
    cases e with
    | Call ef es kws p =>
      cases ef with
      | Name x p2 =>
        cases kws with
        | nil =>
          obtain ⟨q, q6⟩ := and2 q
          obtain ⟨q, q5⟩ := and2 q
          obtain ⟨q, q4⟩ := and2 q
          obtain ⟨q, q3⟩ := and2 q
          obtain ⟨q1, q2⟩ := and2 q
          have ex := eq_of_beq q1
          subst ex
          obtain ⟨z1, z2, z3, z4⟩ := chks_ok ms h q6
          obtain ⟨k, fa, F, r, a1, a2⟩ := h.fns f (by simpa [Ck.fn] using q4)
          cases es with
          | nil => exact ff q5
          | cons e es =>
            obtain ⟨y1, y2⟩ := and2 (show (noStar e && es.all noStar) = true from z2)
            exact .of (se_call F r (h.ok.glo q2) a1 a2 (nbeq q3) (star_cons y1) (star_plain y2) z1) rfl (fun st => by first | (simp only [tst]; done) | (simp only [tst]; rfl))
        | cons kw kws => exact ff q
      | _ => exact ff q
    | _ => exact ff q
  | .bi b ms, w, X, G, c, e, h, q => by
    refine .mk' ?_
    cases e with
    | Call ef es kws p =>
      cases ef with
      | Name x p2 =>
        cases kws with
        | nil =>
          obtain ⟨q, q5⟩ := and2 q
          obtain ⟨q, q4⟩ := and2 q
          obtain ⟨q, q3⟩ := and2 q
          obtain ⟨q1, q2⟩ := and2 q
          have ex := eq_of_beq q1
          subst ex
          obtain ⟨z1, z2, z3, z4⟩ := chks_ok ms h q5
          cases es with
          | nil => exact ff q4
          | cons e es =>
            obtain ⟨y1, y2⟩ := and2 (show (noStar e && es.all noStar) = true from z2)
            exact .of (se_bi (h.ok.calm q3) h.deep (h.ok.glo q2) (h.nob.1 b) (star_cons y1) (star_plain y2) z1) rfl (fun st => by first | (simp only [tst]; done) | (simp only [tst]; rfl))
        | cons kw kws => exact ff q
      | _ => exact ff q
    | _ => exact ff q
  | .isi a ts, w, X, G, c, e, h, q => by
    refine .mk' ?_
    cases e with
    | Call ef es kws p =>
      cases ef with
      | Name x p2 =>
        match es, kws, q with
        | [], _, q => exact ff q
        | [_], _, q => exact ff q
        | [_, _], _ :: _, q => exact ff q
        | _ :: _ :: _ :: _, _, q => exact ff q
        | [ea, et], [], q =>
          obtain ⟨q, q5⟩ := and2 q
          obtain ⟨q, q4⟩ := and2 q
          obtain ⟨q, q3⟩ := and2 q
          obtain ⟨q1, q2⟩ := and2 q
          have ex := eq_of_beq q1
          subst ex
          have z := ((chk_ok a h q4).x (nit q4)).se
          have hm := h.nob.2.2.2.2.2.1
          cases et with
          | Tuple es k p3 =>
            obtain ⟨b1, b2⟩ := and2 q5
            obtain ⟨b1, b3⟩ := and2 b1
            have b3 : ts ≠ [] := fun z => by rw [z] at b3; cases b3
            obtain ⟨g1, ps, g2, rfl⟩ := chkCs_ok h b2
            exact .of (se_isiT (of_decide_eq_true b1) b3 (h.ok.glo q2) hm q3 g1 g2 z) rfl (fun st => by first | (simp only [tst]; done) | (simp only [tst]; rfl))
          | Name y p3 =>
            match ts, q5 with
            | [], q5 => exact ff q5
            | _ :: _ :: _, q5 => exact ff q5
            | [t], q5 =>
              have q5' : chkCs c [t] [.Name y p3] = true := by
                show (chkC c t (.Name y p3) && true) = true
                rw [Bool.and_true]
                exact q5
              obtain ⟨g1, ps, g2, g3⟩ := chkCs_ok h q5'
              match ps, g2, g3 with
              | [p4], _, g3 =>
                cases g3
                exact .of (se_isi1 (h.ok.glo q2) hm q3 (g1 t (by simp)) z) rfl (fun st => by first | (simp only [tst]; done) | (simp only [tst]; rfl))
          | _ =>
            match ts, q5 with
            | [], q5 => exact ff q5
            | _ :: _ :: _, q5 => exact ff q5
            | [t], q5 => exact ff q5
      | _ => exact ff q
    | _ => exact ff q
  | .meth m o ms, w, X, G, c, e, h, q => by
    refine .mk' ?_
    cases e with
    | Call ef es kws pos =>
      cases ef with
      | Attribute eo at_ apos =>
        cases kws with
        | nil =>
          obtain ⟨q, q6⟩ := and2 q
          obtain ⟨q, q5⟩ := and2 q
          obtain ⟨q, q4⟩ := and2 q
          obtain ⟨q, q3⟩ := and2 q
          obtain ⟨q1, q2⟩ := and2 q
          have ex := eq_of_beq q1
          subst ex
          have z := ((chk_ok o h q4).x (nit q4)).se
          obtain ⟨z1, z2, z3, z4⟩ := chks_ok ms h q6
          unfold methForm at q5
          simp only [Bool.or_eq_true, Bool.and_eq_true, beq_iff_eq] at q5
          rcases q5 with ((((⟨⟨rfl, l1⟩, l2⟩ | ⟨⟨rfl, l1⟩, l2⟩) | ⟨⟨rfl, l1⟩, l2⟩) | ⟨⟨rfl, l1⟩, l2⟩) | ⟨⟨rfl, l1⟩, l2⟩) | ⟨⟨rfl, l1⟩, l2⟩
          · match ms, es, l1, l2, q6, z2 with
            | [a], [ea], _, _, q6, z2 =>
              have y1 : noStar ea = true := by simpa using z2
              have q6' : (noStar ea && chk c false a ea && true) = true := q6
              rw [Bool.and_true] at q6'
              exact .of (se_append q2 y1 q3 z ((chk_ok a h (and2 q6').2).x (nit (and2 q6').2)).se) rfl (fun st => by first | (simp only [tst]; done) | (simp only [tst]; rfl))
          · match ms, es, l1, l2 with
            | [], [], _, _ => exact .of (se_clear q2 q3 z) rfl (fun st => by first | (simp only [tst]; done) | (simp only [tst]; rfl))
          · match ms, es, l1, l2 with
            | [], [], _, _ => exact .of (se_pop q2 q3 z) rfl (fun st => by first | (simp only [tst]; done) | (simp only [tst]; rfl))
          · match ms, es, l1, l2, q6, z2 with
            | [a, b], [ea, eb], _, _, q6, z2 =>
              obtain ⟨y1, y2⟩ := and2 (show (noStar ea && chk c false a ea && (noStar eb && chk c false b eb && true)) = true from q6)
              rw [Bool.and_true] at y2
              obtain ⟨y1, y3⟩ := and2 y1
              obtain ⟨y2, y4⟩ := and2 y2
              exact .of (se_get h.deep q2 y1 y2 q3 z ((chk_ok a h y3).x (nit y3)).se ((chk_ok b h y4).x (nit y4)).se) rfl (fun st => by first | (simp only [tst]; done) | (simp only [tst]; rfl))
          · match ms, es, l1, l2, q6, z2 with
            | [a, b], [ea, eb], _, _, q6, z2 =>
              obtain ⟨y1, y2⟩ := and2 (show (noStar ea && chk c false a ea && (noStar eb && chk c false b eb && true)) = true from q6)
              rw [Bool.and_true] at y2
              obtain ⟨y1, y3⟩ := and2 y1
              obtain ⟨y2, y4⟩ := and2 y2
              exact .of (se_setd q2 y1 y2 q3 z ((chk_ok a h y3).x (nit y3)).se ((chk_ok b h y4).x (nit y4)).se) rfl (fun st => by first | (simp only [tst]; done) | (simp only [tst]; rfl))
          · match ms, es, l1, l2, q6, z2 with
            | [a, b], [ea, eb], _, _, q6, z2 =>
              obtain ⟨y1, y2⟩ := and2 (show (noStar ea && chk c false a ea && (noStar eb && chk c false b eb && true)) = true from q6)
              rw [Bool.and_true] at y2
              obtain ⟨y1, y3⟩ := and2 y1
              obtain ⟨y2, y4⟩ := and2 y2
              exact .of (se_insert q2 y1 y2 q3 z ((chk_ok a h y3).x (nit y3)).se ((chk_ok b h y4).x (nit y4)).se) rfl (fun st => by first | (simp only [tst]; done) | (simp only [tst]; rfl))
        | cons kw kws => exact ff q
      | _ => exact ff q
    | _ => exact ff q
  | .sm m o ms, w, X, G, c, e, h, q => by
    refine .mk' ?_
    cases e with
    | Call ef es kws pos =>
      cases ef with
      | Attribute eo at_ apos =>
        cases kws with
        | nil =>
          obtain ⟨q, q6⟩ := and2 q
          obtain ⟨q, q5⟩ := and2 q
          obtain ⟨q, q4⟩ := and2 q
          obtain ⟨q, q3⟩ := and2 q
          obtain ⟨q1, q2⟩ := and2 q
          have ex := eq_of_beq q1
          subst ex
          have z := ((chk_ok o h q4).x (nit q4)).se
          obtain ⟨z1, z2, z3, z4⟩ := chks_ok ms h q6
          unfold smForm at q5
          simp only [Bool.or_eq_true, Bool.and_eq_true, beq_iff_eq] at q5
          rcases q5 with (⟨⟨rfl, l1⟩, l2⟩ | ⟨⟨rfl, l1⟩, l2⟩) | ⟨⟨rfl, l1⟩, l2⟩
          · match ms, es, l1, l2, q6, z2 with
            | [a], [ea], _, _, q6, z2 =>
              have y1 : noStar ea = true := by simpa using z2
              have q6' : (noStar ea && chk c false a ea && true) = true := q6
              rw [Bool.and_true] at q6'
              exact .of (se_find q2 y1 q3 z ((chk_ok a h (and2 q6').2).x (nit (and2 q6').2)).se) rfl (fun st => by first | (simp only [tst]; done) | (simp only [tst]; rfl))
          · match ms, es, l1, l2, q6, z2 with
            | [a], [ea], _, _, q6, z2 =>
              have y1 : noStar ea = true := by simpa using z2
              have q6' : (noStar ea && chk c false a ea && true) = true := q6
              rw [Bool.and_true] at q6'
              exact .of (se_join q2 y1 q3 z ((chk_ok a h (and2 q6').2).x (nit (and2 q6').2)).se) rfl (fun st => by first | (simp only [tst]; done) | (simp only [tst]; rfl))
          · match ms, es, l1, l2 with
            | [], [], _, _ => exact .of (se_upper q2 q3 z) rfl (fun st => by first | (simp only [tst]; done) | (simp only [tst]; rfl))
        | cons kw kws => exact ff q
      | _ => exact ff q
    | _ => exact ff q
  | .lc elt tg src cond, w, X, G, c, e, h, q => by
    refine .mk' ?_
    cases e with
    | ListComp eelt gens scope pos =>
      match gens, q with
      | [], q => exact ff q
      | ⟨_, _, _, _⟩ :: _ :: _, q => exact ff q
      | [⟨etg, eiter, ifs, k⟩], q =>
        obtain ⟨q, q8⟩ := and2 q
        obtain ⟨q, q7⟩ := and2 q
        obtain ⟨q, q6⟩ := and2 q
        obtain ⟨q, q5⟩ := and2 q
        obtain ⟨q, q4⟩ := and2 q
        obtain ⟨q, q3'⟩ := and2 q
        obtain ⟨q, q3⟩ := and2 q
        obtain ⟨q1, q2⟩ := and2 q
        have ek := eq_of_beq q2
        subst ek
        have hc := h.ok.calm q1
        have hi : SI X G src etg eiter := (chk_ok src h q3).i etg q3'
        refine .of (se_lc hc h.ok.nd hi (own := ownOf c.N tg.vars) ?_ ownOf_snd (fun s H C cl fp => chkT_ok h.blk.ok hc tg etg q6) (fun s H C cl fp => ?_) (fun s H C cl fp => ((chk_ok elt h.blk q7).x (nit q7)).se) (notSet_ok q4)) rfl (fun st => by first | (simp only [tst]; done) | (simp only [tst]; rfl))
        · have b := blkB_ok q5
          rw [← h.ok.N, ← h.ok.sc] at b
          rw [h.ok.N] at b ⊢
          exact b
        · match ifs, q8 with
          | [], q8 => exact .inl ⟨isNo_eq q8, rfl⟩
          | [ec], q8 =>
            obtain ⟨b1, b2⟩ := and2 q8
            exact .inr ⟨isNo_ne b1, ec, rfl, ((chk_ok cond h.blk b2).x (nit b2)).st⟩
          | _ :: _ :: _, q8 => exact ff q8
    | _ => exact ff q
  | .lck elt tg i, w, X, G, c, e, h, q => by
    refine .mk' ?_
    cases e with
    | ListComp eelt gens scope pos =>
      match gens, q with
      | [], q => exact ff q
      | ⟨_, _, [], _⟩ :: _ :: _, q => exact ff q
      | ⟨_, _, _ :: _, _⟩ :: _ :: _, q => exact ff q
      | [⟨etg, eiter, _ :: _, k⟩], q => exact ff q
      | [⟨etg, eiter, [], k⟩], q =>
        obtain ⟨q, q6⟩ := and2 q
        obtain ⟨q, q5⟩ := and2 q
        obtain ⟨q, q4⟩ := and2 q
        obtain ⟨q, q3⟩ := and2 q
        obtain ⟨q1, q2⟩ := and2 q
        have ek := eq_of_beq q2
        subst ek
        obtain ⟨x, p, rfl, g1, g2, g3, g4⟩ := lckN_ok q3
        have hc := h.ok.calm q1
        refine .of (se_lck hc h.ok.nd (h.ok.ix g1) (h.ok.vis g2) g3 g4 (own := ownOf c.N tg.vars) ?_ ownOf_snd (fun s H C cl fp => chkT_ok h.blk.ok hc tg etg q5) (fun s H C cl fp => ((chk_ok elt h.blk q6).x (nit q6)).se)) rfl (fun st => by first | (simp only [tst]; done) | (simp only [tst]; rfl))
        have b := blkB_ok q4
        rw [← h.ok.N, ← h.ok.sc] at b
        rw [h.ok.N] at b ⊢
        exact b
    | _ => exact ff q
  | .bid a d, w, X, G, c, e, h, q => by
    refine .mk' ?_
    cases e with
    | Call ef es kws p =>
      cases ef with
      | Name x p2 =>
        match es, kws, q with
        | [], _, q => exact ff q
        | _ :: _ :: _, _, q => exact ff q
        | [_], [], q => exact ff q
        | [_], ⟨none, _, _⟩ :: _ :: _, q => exact ff q
        | [_], ⟨some _, _, _⟩ :: _ :: _, q => exact ff q
        | [_], [⟨none, _, _⟩], q => exact ff q
        | [ea], [⟨some y, ed, kp⟩], q =>
          obtain ⟨q, q7⟩ := and2 q
          obtain ⟨q, q6⟩ := and2 q
          obtain ⟨q, q5⟩ := and2 q
          obtain ⟨q, q4⟩ := and2 q
          obtain ⟨q, q3⟩ := and2 q
          obtain ⟨q1, q2⟩ := and2 q
          have ex := eq_of_beq q2
          have ey := eq_of_beq q3
          subst ex ey
          exact .of (se_bid (h.ok.calm q1) h.deep (h.ok.glo q4) (h.nob.1 .max) q5 ((chk_ok a h q6).x (nit q6)).se ((chk_ok d h q7).x (nit q7)).se) rfl (fun st => by first | (simp only [tst]; done) | (simp only [tst]; rfl))
      | _ => exact ff q
    | _ => exact ff q
  | .ext o a, w, X, G, c, e, h, q => by
    refine .mk' ?_
    cases e with
    | Call ef es kws pos =>
      cases ef with
      | Attribute eo at_ apos =>
        match es, kws, q with
        | [], _, q => exact ff q
        | _ :: _ :: _, _, q => exact ff q
        | [_], _ :: _, q => exact ff q
        | [ea], [], q =>
          obtain ⟨q, q6⟩ := and2 q
          obtain ⟨q, q5⟩ := and2 q
          obtain ⟨q, q4⟩ := and2 q
          obtain ⟨q, q3⟩ := and2 q
          obtain ⟨q1, q2⟩ := and2 q
          have ex := eq_of_beq q1
          subst ex
          exact .of (se_ext q2 q3 q4 ((chk_ok o h q5).x (nit q5)).se ((chk_ok a h q6).x (nit q6)).se) rfl (fun st => by first | (simp only [tst]; done) | (simp only [tst]; rfl))
      | _ => exact ff q
    | _ => exact ff q
  | .lrv a, w, X, G, c, e, h, q => by
    refine .mk' ?_
    cases e with
    | Call ef es kws p =>
      cases ef with
      | Name x p2 =>
        match es, kws, q with
        | [], _, q => exact ff q
        | _ :: _ :: _, _, q => exact ff q
        | [e1], _ :: _, q => exact ff q
        | [e1], [], q =>
          obtain ⟨q, q5⟩ := and2 q
          obtain ⟨q, q4⟩ := and2 q
          obtain ⟨q, q3⟩ := and2 q
          obtain ⟨q1, q2⟩ := and2 q
          have ex := eq_of_beq q2
          subst ex
          obtain ⟨p3, ea, p4, rfl, g1, g2, g3⟩ := isRev_ok q4
          rw [g3] at q5
          exact .of (se_lrv (h.ok.calm q1) (h.ok.glo q3) (h.nob.1 .list) (h.ok.glo g1) h.nob.2.2.2.2.1 g2 ((chk_ok a h q5).x (nit q5)).se) rfl (fun st => by first | (simp only [tst]; done) | (simp only [tst]; rfl))
      | _ => exact ff q
    | _ => exact ff q
  | .trv a, w, X, G, c, e, h, q => by
    refine .mk' ?_
    cases e with
    | Call ef es kws p =>
      cases ef with
      | Name x p2 =>
        match es, kws, q with
        | [], _, q => exact ff q
        | _ :: _ :: _, _, q => exact ff q
        | [e1], _ :: _, q => exact ff q
        | [e1], [], q =>
          obtain ⟨q, q5⟩ := and2 q
          obtain ⟨q, q4⟩ := and2 q
          obtain ⟨q, q3⟩ := and2 q
          obtain ⟨q1, q2⟩ := and2 q
          have ex := eq_of_beq q2
          subst ex
          obtain ⟨p3, ea, p4, rfl, g1, g2, g3⟩ := isRev_ok q4
          rw [g3] at q5
          exact .of (se_trv (h.ok.calm q1) (h.ok.glo q3) (h.nob.1 .tuple) (h.ok.glo g1) h.nob.2.2.2.2.1 g2 ((chk_ok a h q5).x (nit q5)).se) rfl (fun st => by first | (simp only [tst]; done) | (simp only [tst]; rfl))
      | _ => exact ff q
    | _ => exact ff q
theorem chks_ok : ∀ (ms : List E) {X : Cx} {G : Gam} {c : Ck} {es : List Expr}, CtE X G c → chks c ms es = true → SA X G ms es ∧ es.all noStar = true ∧ es.length = ms.length ∧ ∀ (i : Nat) (m : E) (e : Expr), ms[i]? = some m → es[i]? = some e → SE X G m e
  | [], X, G, c, es, h, q => by
    cases es with
    | nil => exact ⟨sa_nil, rfl, rfl, fun i m e z => by simp at z⟩
    | cons e es => exact ff q
  | m :: ms, X, G, c, es, h, q => by
    cases es with
    | nil => exact ff q
    | cons e es =>
      obtain ⟨q, q3⟩ := and2 q
      obtain ⟨q1, q2⟩ := and2 q
      obtain ⟨z1, z2, z3, z4⟩ := chks_ok ms h q3
      have z := ((chk_ok m h q2).x (nit q2)).se
      refine ⟨sa_cons (star_cons q1) z z1, by simp [q1, z2], by simp [z3], fun i m' e' e1 e2 => ?_⟩
      cases i with
      | zero =>
        simp at e1 e2
        subst e1 e2
        exact z
      | succ i => exact z4 i m' e' (by simpa using e1) (by simpa using e2)
end
end EW

-- part: Sound14
set_option maxHeartbeats 1000000
/-! statements -/
namespace EW
open PySem PySem.Spec PyProof.Rows L2 RZ RT
/-- what a body gives back -/
def RetR (K : PySem.W.Frag) (ρ : List Addr) (H : Hp) (st : St) (σ : L2.St) (ρ' : List Addr) (H' : Hp) : EV → V → Prop
  | .d x, v => VR K ρ' H' x v
  | .o x, v => ∃ p, v = .ref p ∧ OR K ρ' H' p x ∧ p ∉ ρ' ∧ (H p = none ∨ Dom st σ ρ p)
  | _, _ => False
/-- what is wanted behind a statement; vs: the slots that it may store to -/
def FQ (X : Cx) (ρ : List Addr) (H : Hp) (st : St) (σ : L2.St) (vs : List Nat) (D : Ends) (f : Fl) (st' : St) : Prop := match f with
  | .nx => ∀ σ' H' ρ', Step X.K ρ H st σ ρ' H' st' σ' → (∀ j, j ∉ vs → σ'[j]? = σ[j]?) → D.nx σ' H'
  | .ct => ∀ σ' H' ρ', Step X.K ρ H st σ ρ' H' st' σ' → (∀ j, j ∉ vs → σ'[j]? = σ[j]?) → D.ct σ' H'
  | .rt r => ∀ v σ' H' ρ', Step X.K ρ H st σ ρ' H' st' σ' → RetR X.K ρ H st σ ρ' H' r v → D.rt v H'
def XS (X : Cx) (ρ : List Addr) (H : Hp) (st : St) (σ : L2.St) (vs : List Nat) (Wx : WX) (c : String) (st' : St) : Prop :=
  ∀ cls σ' H' ρ', Step X.K ρ H st σ ρ' H' st' σ' → (∀ j, j ∉ vs → σ'[j]? = σ[j]?) → ClsIs X c cls → Wx cls none σ' H'
def tS (X : Cx) (f : St → Out Fl) (vs : List Nat) (Wx : WX) : TS := fun D σ H => ∃ ρ st, Res X.K ρ H st σ ∧ Wp (f st) (FQ X ρ H st σ vs D) (XS X ρ H st σ vs Wx)
def SS (X : Cx) (G : Gam) (m : S) (s : Stmt) : Prop := ∀ Wx, Takes X Wx → PassesOwn (model X.prog X.w) X.A X.env X.xe → PS X s (tS X (ex G m) m.asgs Wx)
def SSs (X : Cx) (G : Gam) (ms : List S) (ss : List Stmt) : Prop := ∀ Wx, Takes X Wx → PassesOwn (model X.prog X.w) X.A X.env X.xe → PSs X ss (tS X (exs G ms) (S.asgss ms) Wx)
section
variable {X : Cx} {G : Gam} {Wx : WX} {ρ ρ1 : List Addr} {H H1 : Hp} {st st1 : St} {σ σ1 : L2.St} {vs vs' : List Nat} {D D' : Ends}
theorem new_back {K : PySem.W.Frag} (s : Step K ρ H st σ ρ1 H1 st1 σ1) {p : Addr} (h : H1 p = none ∨ Dom st1 σ1 ρ1 p) : H p = none ∨ Dom st σ ρ p := by
  rcases h with h | h
  · cases e : H p with
    | none => exact .inl rfl
    | some o =>
      by_cases n : Dom st σ ρ p
      · exact .inr n
      · rw [s.frame p o e n] at h
        cases h
  · rcases s.grow p h with z | z
    · exact .inr z
    · exact .inl z
theorem RetR.back {K : PySem.W.Frag} {ρ' : List Addr} {H' : Hp} {r : EV} {v : V} (s : Step K ρ H st σ ρ1 H1 st1 σ1) (h : RetR K ρ1 H1 st1 σ1 ρ' H' r v) : RetR K ρ H st σ ρ' H' r v := by
  cases r with
  | d x => exact h
  | o x =>
    obtain ⟨p, e, h1, n, h2⟩ := h
    exact ⟨p, e, h1, n, new_back s h2⟩
  | pl i => exact h
  | it k vs => exact h
theorem FQ.back {f : Fl} {st' : St} (s : Step X.K ρ H st σ ρ1 H1 st1 σ1) (ag : ∀ j, j ∉ vs → σ1[j]? = σ[j]?) (h : FQ X ρ H st σ vs D f st') : FQ X ρ1 H1 st1 σ1 vs D f st' := by
  cases f with
  | nx => exact fun σ' H' ρ' s' ag' => h σ' H' ρ' (s.trans s') fun j hj => (ag' j hj).trans (ag j hj)
  | ct => exact fun σ' H' ρ' s' ag' => h σ' H' ρ' (s.trans s') fun j hj => (ag' j hj).trans (ag j hj)
  | rt r => exact fun v σ' H' ρ' s' hr => h v σ' H' ρ' (s.trans s') (hr.back s)
theorem FQ.slots {f : Fl} {st' : St} (hs : ∀ j, j ∈ vs' → j ∈ vs) (h : FQ X ρ H st σ vs D f st') : FQ X ρ H st σ vs' D f st' := by
  cases f with
  | nx => exact fun σ' H' ρ' s' ag' => h σ' H' ρ' s' fun j hj => ag' j fun z => hj (hs j z)
  | ct => exact fun σ' H' ρ' s' ag' => h σ' H' ρ' s' fun j hj => ag' j fun z => hj (hs j z)
  | rt r => exact h
theorem XS.back {c : String} {st' : St} (s : Step X.K ρ H st σ ρ1 H1 st1 σ1) (ag : ∀ j, j ∉ vs → σ1[j]? = σ[j]?) (h : XS X ρ H st σ vs Wx c st') : XS X ρ1 H1 st1 σ1 vs Wx c st' := fun cls σ' H' ρ' s' ag' hc => h cls σ' H' ρ' (s.trans s') (fun j hj => (ag' j hj).trans (ag j hj)) hc
theorem XS.slots {c : String} {st' : St} (hs : ∀ j, j ∈ vs' → j ∈ vs) (h : XS X ρ H st σ vs Wx c st') : XS X ρ H st σ vs' Wx c st' := fun cls σ' H' ρ' s' ag hc => h cls σ' H' ρ' s' (fun j hj => ag j fun z => hj (hs j z)) hc
theorem XS.xq {c : String} {st' : St} (h : XS X ρ H st σ vs Wx c st') : XQ X ρ H st σ Wx c st' := fun cls H' ρ' s' hc => h cls σ H' ρ' s' (fun _ _ => rfl) hc
/-- an expression, then the rest of the statement -/
theorem tE.bindS {α : Type} {f : St → Out EV} {g : EV → St → Out α} {P : α → St → Prop} {R : VK} (hR : Res X.K ρ H st σ) (h : Wp ((f st).bind g) P (XS X ρ H st σ vs Wx))
    (k : ∀ r st1 v H1 ρ1, Step X.K ρ H st σ ρ1 H1 st1 σ → ER X.K ρ1 H1 st1 σ r v → New ρ H st σ r v → Wp (g r st1) P (XS X ρ H st σ vs Wx) → R v H1) : tE X f Wx σ H R :=
  tE.bind hR h (fun _ _ x => x.xq) k
theorem tB.bindS {α : Type} {f : St → Out Bool} {g : Bool → St → Out α} {P : α → St → Prop} {R : Bool → Hp → Prop} (hR : Res X.K ρ H st σ) (h : Wp ((f st).bind g) P (XS X ρ H st σ vs Wx))
    (k : ∀ b st1 H1 ρ1, Step X.K ρ H st σ ρ1 H1 st1 σ → Wp (g b st1) P (XS X ρ H st σ vs Wx) → R b H1) : tB X f Wx σ H R :=
  tB.bind hR h (fun _ _ x => x.xq) k
theorem ss_pass {pos : Pos} : SS X G .pass (.Pass pos) := fun Wx tk po => PS.imp ps_pass (by
  rintro D σ H ⟨ρ, st, hR, h⟩
  simp only [ex] at h
  exact h σ H ρ (Step.refl hR) fun _ _ => rfl)
theorem ss_cont {pos : Pos} : SS X G .cont (.Continue pos) := fun Wx tk po => PS.imp ps_continue (by
  rintro D σ H ⟨ρ, st, hR, h⟩
  simp only [ex] at h
  exact h σ H ρ (Step.refl hR) fun _ _ => rfl)
theorem sss_nil : SSs X G [] [] := fun Wx tk po => PSs.imp pss_nil (by
  rintro D σ H ⟨ρ, st, hR, h⟩
  simp only [exs] at h
  exact h σ H ρ (Step.refl hR) fun _ _ => rfl)
theorem sss_cons {m : S} {ms : List S} {s : Stmt} {ss : List Stmt} (h1 : SS X G m s) (h2 : SSs X G ms ss) : SSs X G (m :: ms) (s :: ss) := fun Wx tk po => by
  refine PSs.imp (pss_cons (h1 Wx tk po) (h2 Wx tk po)) ?_
  rintro D σ H ⟨ρ, st, hR, h⟩
  simp only [exs] at h
  refine ⟨ρ, st, hR, (Wp.bind.mp h).mono (fun f st1 h => ?_) fun _ _ x => x.slots fun j hj => by simp [S.asgss, hj]⟩
  cases f with
  | nx =>
    intro σ1 H1 ρ1 s1 ag
    have ag' : ∀ j, j ∉ S.asgss (m :: ms) → σ1[j]? = σ[j]? := fun j hj => ag j fun z => hj (by simp [S.asgss, z])
    exact ⟨ρ1, st1, s1.res, Wp.mono h (fun f st2 x => (x.back s1 ag').slots fun j hj => by simp [S.asgss, hj]) fun _ _ x => (x.back s1 ag').slots fun j hj => by simp [S.asgss, hj]⟩
  | ct => exact fun σ1 H1 ρ1 s1 ag => h σ1 H1 ρ1 s1 fun j hj => ag j fun z => hj (by simp [S.asgss, z])
  | rt r => exact h
theorem ss_ife {c : E} {a b : List S} {ec : Expr} {ea eb : List Stmt} {pos : Pos} (hc : ST X G c ec) (ha : SSs X G a ea) (hb : SSs X G b eb) : SS X G (.ife c a b) (.If ec ea eb pos) := fun Wx tk po => by
  refine PS.imp (ps_if (hc Wx tk) (ha Wx tk po) (hb Wx tk po)) ?_
  rintro D σ H ⟨ρ, st, hR, h⟩
  simp only [ex] at h
  refine tB.bindS hR h fun t st1 H1 ρ1 s1 h => ?_
  cases t with
  | true => exact iteT ⟨ρ1, st1, s1.res, Wp.mono h (fun f st2 x => (x.back s1 fun _ _ => rfl).slots fun j hj => by simp [S.asgs, hj]) fun _ _ x => (x.back s1 fun _ _ => rfl).slots fun j hj => by simp [S.asgs, hj]⟩
  | false => exact iteF ⟨ρ1, st1, s1.res, Wp.mono h (fun f st2 x => (x.back s1 fun _ _ => rfl).slots fun j hj => by simp [S.asgs, hj]) fun _ _ x => (x.back s1 fun _ _ => rfl).slots fun j hj => by simp [S.asgs, hj]⟩
theorem ss_ret {m : E} {e : Expr} {pos : Pos} (he : SE X G m e) : SS X G (.ret m) (.Return (some e) pos) := fun Wx tk po => by
  refine PS.imp (ps_ret (he Wx tk)) ?_
  rintro D σ H ⟨ρ, st, hR, h⟩
  simp only [ex] at h
  refine tE.bindS hR h fun r st1 v H1 ρ1 s1 r1 n1 h => ?_
  cases q : leave r st1 with
  | none =>
    rw [q] at h
    exact h.elim
  | some r' =>
    rw [q] at h
    refine h v σ H1 ρ1 s1 ?_
    cases r with
    | d x =>
      cases q
      exact r1
    | o x =>
      cases q
      obtain ⟨p, e, h1, n⟩ := r1
      refine ⟨p, e, h1, fun z => n (.inl z), ?_⟩
      exact n1 x p rfl e
    | it k vs => cases q
    | pl i =>
      have hi : σ[i]? = some (some v) := r1
      simp only [leave] at q
      cases q1 : st1.σ[i]? with
      | none =>
        rw [q1] at q
        cases q
      | some sl =>
        rw [q1] at q
        have z := s1.res.sl i sl q1
        cases sl with
        | un => cases q
        | d x =>
          cases q
          obtain ⟨v', e1, h1⟩ := z
          rw [hi] at e1
          cases e1
          exact h1
        | o x =>
          cases q
          obtain ⟨p, e1, h1, n⟩ := z
          rw [hi] at e1
          cases e1
          exact ⟨p, rfl, h1, n, new_back s1 (.inr (.inr ⟨i, x, q1, hi⟩))⟩
theorem ss_retN {pos : Pos} : SS X G (.ret (.k .non)) (.Return none pos) := fun Wx tk po => by
  refine PS.imp ps_retN ?_
  rintro D σ H ⟨ρ, st, hR, h⟩
  simp only [ex, ev] at h
  exact h .non σ H ρ (Step.refl hR) rfl

/-- raise C(text) -/
theorem ss_rse {c : String} {m : Str} {j : Nat} {p p2 p1 pos : Pos} (hc : X.calm = true) (F : ExC1 X.K X.mg G.sub c) (hg : Gl X (Str.ofString c)) (hd : (Str.ofString c == ("__debug__" : Str)) = false) :
    SS X G (.rse c) (.Raise (some (.Call (.Name (Str.ofString c) p) [.Constant (.str m) j p2] [] p1)) none pos) := fun Wx tk po => by
  refine PS.imp (ps_raise hc tk (pmk_own PySem.F.excBase_ValueError F.exc F.glo F.keep (raises_own F.sbe F.typ) hg hd)) ?_
  rintro D σ H ⟨ρ, st, hR, h⟩
  simp only [ex] at h
  exact h _ σ H ρ (Step.refl hR) (fun _ _ => rfl) ⟨_, F.glo, rfl⟩
/-! ### assignments -/
theorem bindV_sound {tg : Tg} {r : EV} {v : V} {st2 : St} {Q : L2.St → Hp → Prop} (s1 : Step X.K ρ H st σ ρ1 H1 st1 σ) (r1 : ER X.K ρ1 H1 st1 σ r v) (n1 : New ρ H st σ r v) (e : bindV tg r st1 = some st2)
    (k : ∀ σ' ρ', Step X.K ρ H st σ ρ' H1 st2 σ' → (∀ j, j ∉ tg.vars → σ'[j]? = σ[j]?) → Q σ' H1) : gTg X.K tg v σ H1 Q := by
  cases tg with
  | v i =>
    have ag : ∀ w, ∀ j, j ∉ Tg.vars (.v i) → (σ.set i (some w))[j]? = σ[j]? := fun w j hj => by
      have hj' : j ≠ i := by simpa [Tg.vars] using hj
      exact List.getElem?_set_ne (Ne.symm hj')
    show Q (σ.set i (some v)) H1
    cases r with
    | d x =>
      cases e
      obtain ⟨g1, g2⟩ := Res.setD (i := i) s1.res r1
      exact k _ ρ1 (s1.trans (Step.of_res g1 g2)) (ag v)
    | o x =>
      cases e
      obtain ⟨p, rfl, h1, n⟩ := r1
      obtain ⟨g1, g2⟩ := Res.setO (i := i) s1.res h1 n
      refine k _ ρ1 ⟨g1, s1.pre, s1.frame, fun a d => ?_, s1.frz⟩ (ag _)
      rcases g2 a d with z | z
      · exact s1.grow a z
      · subst z
        rcases n1 x a rfl rfl with z | z
        · exact .inr z
        · exact .inl z
    | it k' vs => cases e
    | pl j =>
      simp only [bindV, put] at e
      cases q : toD (.pl j) st1 with
      | none =>
        rw [q] at e
        cases e
      | some xs =>
        obtain ⟨x, st'⟩ := xs
        rw [q] at e
        cases e
        obtain ⟨ρ', g1, g2, g3, g4⟩ := toD_core s1.res r1 q
        have s2 : Step X.K ρ1 H1 st1 σ ρ' H1 st' σ := ⟨g1, g2, fun _ _ e _ => e, fun a d => by
          rcases g4 a d with z | ⟨y, z, _⟩
          · exact .inl z
          · exact (nomatch z), fun _ _ _ e => e⟩
        obtain ⟨g5, g6⟩ := Res.setD (i := i) g1 g3
        exact k _ ρ' ((s1.trans s2).trans (Step.of_res g5 g6)) (ag v)
  | tup ts =>
    simp only [bindV] at e
    cases q : rd st1 r with
    | none =>
      rw [q] at e
      cases e
    | some w =>
      rw [q] at e
      cases w with
      | o o =>
        cases o with
        | lst ds =>
          obtain ⟨a, rfl, vs, hs, hr⟩ := rd_sound s1.res r1 q
          refine .inr ⟨a, vs, rfl, .of hs, by rw [hr.length]; exact bindDs_len (K := X.K) (ρ := ρ1) (H := H1) ts ds st1 st2 e, gTgs_sound (v := .non) ts ds vs st1 st2 σ Q s1.res hr e fun σ' g1 g2 g3 g4 => k σ' ρ1 (s1.trans (Step.of_res g1 g4)) (by simpa [Tg.vars] using g2)⟩
        | _ => cases e
      | d d =>
        cases d with
        | tup ds =>
          obtain ⟨hv, _⟩ := rd_sound s1.res r1 q
          refine gTg_sound (v := v) (.tup ts) (.tup ds) v st1 st2 σ Q s1.res hv e fun σ' g1 g2 g3 g4 => k σ' ρ1 (s1.trans (Step.of_res g1 g4)) g2
        | _ => cases e
theorem tS_asg {tg : Tg} {m : E} {te : TE} (hte : ∀ σ H Q, tE X (ev G m) Wx σ H Q → te σ H Q) : ∀ D σ H, tS X (ex G (.asg tg m)) (S.asgs (.asg tg m)) Wx D σ H → tAsg te (gTg X.K tg) D σ H := by
  rintro D σ H ⟨ρ, st, hR, h⟩
  simp only [ex] at h
  refine hte _ _ _ (tE.bindS hR h fun r st1 v H1 ρ1 s1 r1 n1 h => ?_)
  cases q : bindV tg r st1 with
  | none =>
    rw [q] at h
    exact h.elim
  | some st2 =>
    rw [q] at h
    exact bindV_sound s1 r1 n1 q fun σ' ρ' s' ag => h σ' H1 ρ' s' ag
theorem ss_asg {tg : Tg} {m : E} {t e : Expr} {pos : Pos} (he : SE X G m e) (hg : PG X t (gTg X.K tg)) (hs : swapsWithSole [t] e pos.line X.env = pure false) (hw : swappedStores [t] e X.env = pure none)
    (h1 : (assignEach [t] X.env).map (·.2) = [assign t X.env]) : SS X G (.asg tg m) (.Assign [t] e pos) := fun Wx tk po => PS.imp (ps_asg (he Wx tk) hg hs hw h1) (tS_asg fun _ _ _ x => x)
theorem ss_ex {m : E} {e : Expr} {pos : Pos} (he : SE X G m e) (hs : swapsWith e none pos.line X.env = pure false) : SS X G (.ex m) (.Expr e pos) := fun Wx tk po => by
  refine PS.imp (ps_expr (he Wx tk) hs) ?_
  rintro D σ H ⟨ρ, st, hR, h⟩
  simp only [ex] at h
  exact tE.bindS hR h fun r st1 v H1 ρ1 s1 r1 n1 h => h σ H1 ρ1 s1 fun _ _ => rfl

theorem ss_aug {i : Nat} {op : Operator} {m : E} {e : Expr} {x : Str} {p pos : Pos} (hN : X.N.Nodup) (hi : X.N[i]? = some x) (hx : Loc X.env.scope x) (hf : X.fn x = true ∨ X.env.scope.names.lookup x = some .local) (ho : (op == .Add || op == .Sub) = true) (he : SE X G m e) :
    SS X G (.aug i op m) (.AugAssign (.Name x p) op e pos) := fun Wx tk po => by
  have key : ∀ f : Int → Int → Int, PIp X op (ipI f) → (∀ a b : Int, (match op with | .Add => some (a + b) | .Sub => some (a - b) | _ => none) = some (f a b)) → PS X (.AugAssign (.Name x p) op e pos) (tS X (ex G (.aug i op m)) (S.asgs (.aug i op m)) Wx) := by
    intro f hp hop
    refine PS.imp (ps_aug hN hi hx (he Wx tk) hp hf) ?_
    rintro D σ H ⟨ρ, st, hR, h⟩
    simp only [ex] at h
    cases q : st.σ[i]? with
    | none =>
      rw [q] at h
      exact h.elim
    | some s =>
      rw [q] at h
      cases s with
      | d d =>
        cases d with
        | int a =>
          obtain ⟨v, e1, hv⟩ := hR.sl i _ q
          cases (show v = .int a from hv)
          refine ⟨.int a, e1, ?_⟩
          refine tE.bindS hR h fun r st1 v H1 ρ1 s1 r1 n1 h => ?_
          cases q2 : (rd st1 r).bind intW with
          | none =>
            rw [q2] at h
            exact h.elim
          | some b =>
            rw [q2] at h
            cases q3 : rd st1 r with
            | none =>
              rw [q3] at q2
              cases q2
            | some w =>
              rw [q3] at q2
              cases intW_of (rd_sound s1.res r1 q3) q2
              refine ⟨a, b, rfl, rfl, ?_⟩
              have fin : ∀ c : Int, Wp (Out.ok Fl.nx (st1.set i (.d (.int c)))) (FQ X ρ H st σ (S.asgs (.aug i op m)) D) (XS X ρ H st σ (S.asgs (.aug i op m)) Wx) → D.nx (σ.set i (some (.int c))) H1 := fun c h => by
                obtain ⟨g1, g2⟩ := Res.setD (i := i) (d := .int c) (v := .int c) s1.res rfl
                exact h _ H1 ρ1 (s1.trans (Step.of_res g1 g2)) fun j hj => by
                  have hj' : j ≠ i := by simpa [S.asgs] using hj
                  exact List.getElem?_set_ne (Ne.symm hj')
              have z := hop a b
              cases op <;> first | (rw [← Option.some.inj z]; exact fin _ h) | cases z
        | _ => exact h.elim
      | _ => exact h.elim
  cases op with
  | Add => exact key _ ip_add fun a b => rfl
  | Sub => exact key _ ip_sub fun a b => rfl
  | _ => cases ho

/-! ### loops -/
theorem ss_whl {c : E} {b : List S} {ec : Expr} {eb : List Stmt} {pos : Pos} (hc : ST X G c ec) (hb : SSs X G b eb) : SS X G (.whl c b) (.While ec eb [] pos) := fun Wx tk po => by
  refine PS.imp (ps_while po (hc Wx tk) (hb Wx tk po)) ?_
  rintro D σ H ⟨ρ, st, hR, h⟩
  simp only [ex] at h
  refine ⟨fun n σi Hi => ∃ ρi sti, Step X.K ρ H st σ ρi Hi sti σi ∧ (∀ j, j ∉ S.asgss b → σi[j]? = σ[j]?) ∧ Wp (whL (tst G c) (exs G b) n sti) (FQ X ρ H st σ (S.asgss b) D) (XS X ρ H st σ (S.asgss b) Wx), ⟨G.W, ρ, st, Step.refl hR, fun _ _ => rfl, h⟩, ?_⟩
  rintro n σi Hi ⟨ρi, sti, s1, ag, hw⟩
  cases n with
  | zero => exact hw.elim
  | succ n =>
    unfold whL at hw
    refine tB.bind s1.res hw (fun _ _ x => (x.back s1 ag).xq) fun t st1 H1 ρ1 s2 hw => ?_
    have s3 := s1.trans s2
    cases t with
    | false =>
      refine iteF ?_
      simp only [Bool.false_eq_true, if_false] at hw
      exact hw σi H1 ρ1 s3 ag
    | true =>
      refine iteT ⟨fun σ' H' => ∃ ρ' st', Step X.K ρ H st σ ρ' H' st' σ' ∧ (∀ j, j ∉ S.asgss b → σ'[j]? = σ[j]?) ∧ Wp (whL (tst G c) (exs G b) n st') (FQ X ρ H st σ (S.asgss b) D) (XS X ρ H st σ (S.asgss b) Wx), fun σ' H' ⟨ρ', st', a1, a2, a3⟩ => ⟨n, Nat.lt_succ_self n, ρ', st', a1, a2, a3⟩, ?_⟩
      simp only [if_true] at hw
      refine ⟨ρ1, st1, s2.res, (Wp.bind.mp hw).mono (fun f st2 hf => ?_) fun _ _ x => x.back s3 ag⟩
      cases f with
      | nx => exact fun σ' H' ρ' s4 ag' => ⟨ρ', st2, s3.trans s4, fun j hj => (ag' j hj).trans (ag j hj), hf⟩
      | ct => exact fun σ' H' ρ' s4 ag' => ⟨ρ', st2, s3.trans s4, fun j hj => (ag' j hj).trans (ag j hj), hf⟩
      | rt r => exact fun v σ' H' ρ' s4 hr => hf v σ' H' ρ' (s3.trans s4) (hr.back s3)
open Classical in
theorem ss_for {tg : Tg} {src : E} {b : List S} {etg eiter : Expr} {eb : List Stmt} {pos : Pos} (hc : X.calm = true) (hi : SI X G src etg eiter) (hg : PG X etg (gTg X.K tg)) (hb : SSs X G b eb) (hs : ∀ x, foldedSetIterable eiter X.env x = pure x) :
    SS X G (.for_ tg src b) (.For etg eiter eb [] pos) := fun Wx tk po => by
  refine PS.imp (ps_for po hc (hi Wx tk) hg (hb Wx tk po) hs) ?_
  rintro D σ H ⟨ρ, st, hR, h⟩
  simp only [ex] at h
  refine ⟨ρ, st, hR, (Wp.bind.mp h).mono (fun v st1 h => ?_) (fun _ _ x => x.xq)⟩
  cases q : items st1 v with
  | none =>
    rw [q] at h
    exact h.elim
  | some xs =>
    rw [q] at h
    simp only at h
    split at h
    · rename_i hp
      simp only [List.all_eq_true, Bool.not_eq_true', List.contains_eq_mem, decide_eq_false_iff_not] at hp
      have hvs : S.asgs (.for_ tg src b) = tg.vars ++ S.asgss b := by simp [S.asgs]
      rw [hvs] at h
      refine ⟨xs, rfl, fun J H1 ρ1 us s1 hsrc goes => ?_⟩
      refine ⟨fun i m σi Hi => i ≤ xs.length ∧ m = xs.length - i ∧ ∃ ρi sti, Step X.K ρ H st σ ρi Hi sti σi ∧ Step X.K ρ1 H1 st1 σ ρi Hi sti σi ∧ (∀ j, j ∉ tg.vars ++ S.asgss b → σi[j]? = σ[j]?) ∧
        Wp (foL (fun s => items s v = some xs) tg (exs G b) (xs.drop i) sti) (FQ X ρ H st σ (tg.vars ++ S.asgss b) D) (XS X ρ H st σ (tg.vars ++ S.asgss b) Wx), ⟨_, Nat.zero_le _, rfl, ρ1, st1, s1, Step.refl s1.res, fun _ _ => rfl, h⟩, ?_⟩
      rintro i m σi Hi ⟨hi, rfl, ρi, sti, s2, s2', ag, hw⟩
      have hst : items sti v = some xs := by
        cases q : xs.drop i with
        | nil =>
          rw [q] at hw
          unfold foL at hw
          split at hw
          · assumption
          · exact hw.elim
        | cons x r =>
          rw [q] at hw
          unfold foL at hw
          split at hw
          · assumption
          · exact hw.elim
      have hsrc' : Src X.K ρi Hi sti σi v us := Src.later s2' (Step.pers s1.res s2') (fun j hj => ag j (hp j hj)) hsrc
      have g := goes ρi Hi sti σi s2.res hsrc' hst
      by_cases hlt : i < xs.length
      · refine .inr ⟨g.go i hlt, fun σ' H' => ∃ ρ' st', Step X.K ρ H st σ ρ' H' st' σ' ∧ Step X.K ρ1 H1 st1 σ ρ' H' st' σ' ∧ (∀ j, j ∉ tg.vars ++ S.asgss b → σ'[j]? = σ[j]?) ∧
          Wp (foL (fun s => items s v = some xs) tg (exs G b) (xs.drop (i + 1)) st') (FQ X ρ H st σ (tg.vars ++ S.asgss b) D) (XS X ρ H st σ (tg.vars ++ S.asgss b) Wx), fun σ' H' ⟨ρ', st', a1, a2, a3, a4⟩ => ⟨xs.length - (i + 1), by omega, by omega, rfl, ρ', st', a1, a2, a3, a4⟩, fun x H' hy => ?_⟩
        obtain ⟨same, d, hd, hv⟩ := g.yld i x H' hlt hy
        have e : xs.drop i = d :: xs.drop (i + 1) := by
          rw [List.drop_eq_getElem_cons hlt]
          rw [List.getElem?_eq_getElem hlt] at hd
          cases hd
          rfl
        rw [e] at hw
        unfold foL at hw
        rw [if_pos hst] at hw
        have s3 := Step.ext s2.res same
        cases q : bindD tg d sti with
        | none =>
          rw [q] at hw
          exact hw.elim
        | some st2 =>
          rw [q] at hw
          refine gTg_sound (v := x) tg d x sti st2 σi _ s3.res hv q fun σ2 r2 g1 g2 g3 => ?_
          have s4 := s3.trans (Step.of_res r2 g3)
          have s5 := s2.trans s4
          have s5' := s2'.trans s4
          have ag2 : ∀ j, j ∉ tg.vars ++ S.asgss b → σ2[j]? = σ[j]? := fun j hj => (g1 j fun z => hj (by simp [z])).trans (ag j hj)
          refine ⟨ρi, st2, r2, (Wp.bind.mp hw).mono (fun f st3 hf => ?_) fun _ _ x => fun cls σ' H' ρ' s6 ag' hc => x cls σ' H' ρ' (s5.trans s6) (fun j hj => (ag' j fun z => hj (by simp [z])).trans (ag2 j hj)) hc⟩
          cases f with
          | nx => exact fun σ' H' ρ' s6 ag' => ⟨ρ', st3, s5.trans s6, s5'.trans s6, fun j hj => (ag' j fun z => hj (by simp [z])).trans (ag2 j hj), hf⟩
          | ct => exact fun σ' H' ρ' s6 ag' => ⟨ρ', st3, s5.trans s6, s5'.trans s6, fun j hj => (ag' j fun z => hj (by simp [z])).trans (ag2 j hj), hf⟩
          | rt r => exact fun v σ' H' ρ' s6 hr => hf v σ' H' ρ' (s5.trans s6) (hr.back s5)
      · have e : i = xs.length := by omega
        subst e
        refine .inl ⟨g.stop, ?_⟩
        rw [List.drop_length] at hw
        unfold foL at hw
        rw [if_pos hst] at hw
        exact hw σi Hi ρi s2 ag
    · exact h.elim
/-! ### o[i] = e -/
theorem assign_sub {o i : Expr} {pos : Pos} {env : Env} (h : PlainIxB i = true) (v : Value) : assign (.Subscript o i pos) env v = (do
      let ov ← holding [v] (eval o env)
      let iv ← holding [v, ov] (eval i env)
      standAt pos
      holding [v, ov, iv] (setItem ov iv v)
      release [v, ov, iv] []) := by
  cases i with
  | Slice a b d p => exact ff h
  | _ => rfl
theorem ER.put {K : PySem.W.Frag} {ρ ρ' : List Addr} {st' st2 : St} {vo r : EV} {v : V} {f : O → Option (O × EV)} (h : ER K ρ H st σ vo v) (hp : ρ <+: ρ') (e : change vo f st' = some (r, st2)) : ER K ρ' H st' σ vo v := by
  cases vo with
  | d x => exact VR.mono ⟨fun _ _ e => e, fun _ _ _ _ e => e, fun _ _ e => e⟩ hp x v h
  | o x => cases e
  | it k vs => cases e
  | pl i => exact h
theorem setO_lst {w : Wv} {x : EW.D} {xs : List EW.D} {y : O} {r : EV} (e : setO w x (.lst xs) = some (y, r)) : ∃ i j, w = .d (.int i) ∧ L2.ixN xs.length i = some j ∧ y = .lst (xs.set j x) ∧ r = .d .non := by
  cases w with
  | o o => cases e
  | d d =>
    cases d with
    | int i =>
      simp only [setO] at e
      split at e
      · cases e
        exact ⟨_, _, rfl, by assumption, rfl, rfl⟩
      · cases e
    | _ => cases e
theorem setO_dct {w : Wv} {x : EW.D} {t : Bool} {kvs : List (EW.D × EW.D)} {y : O} {r : EV} (e : setO w x (.dct t kvs) = some (y, r)) : ∃ k, w = .d k ∧ (kkey t k).isSome = true ∧ kvs.length < lim ∧ y = .dct t (dput t kvs k x) ∧ r = .d .non := by
  cases w with
  | o o => cases e
  | d d =>
    simp only [setO] at e
    split at e
    · rename_i c
      cases e
      exact ⟨_, rfl, c.1, c.2, rfl, rfl⟩
    · cases e
theorem set_seq (hu : Deep X) : PSet X (fun o i v H Q => rSetL o i v H Q ∨ rSetD o i v H Q) := by
  intro pins s σ H o i v ov iv u Q I ro ri rv h
  rcases h with h | h
  · exact set_list pins s σ H o i v ov iv u Q I ro ri rv h
  · unfold Deep at hu
    exact set_dict (by omega) pins s σ H o i v ov iv u Q I ro ri rv h
theorem ss_sub {o i m : E} {eo ei e : Expr} {p pos : Pos} (hu : Deep X) (ho : SE X G o eo) (hi : SE X G i ei) (he : SE X G m e) (hp : PlainIxB ei = true) (hs : swapsWithSole [.Subscript eo ei p] e pos.line X.env = pure false) :
    SS X G (.sub o i m) (.Assign [.Subscript eo ei p] e pos) := fun Wx tk po => by
  refine PS.imp (ps_asg (he Wx tk) (pg_sub (ho Wx tk) (hi Wx tk) (set_seq hu) (fun v => assign_sub hp v)) hs rfl rfl) ?_
  rintro D σ H ⟨ρ, st, hR, h⟩
  have lln := lim_line
  simp only [ex] at h
  refine tE.bindS hR h fun r st1 v H1 ρ1 s1 r1 n1 h => ?_
  refine tE.bind s1.res h (fun _ _ x => (x.back s1 fun _ _ => rfl).xq) fun vo st2 v2 H2 ρ2 s2 r2 n2 h => ?_
  refine tE.bind s2.res h (fun _ _ x => (x.back (s1.trans s2) fun _ _ => rfl).xq) fun vi st3 v3 H3 ρ3 s3 r3 n3 h => ?_
  have s13 := (s1.trans s2).trans s3
  have r1' := ER.step s1.res (s2.trans s3) r1
  have r2' := ER.step s2.res s3 r2
  cases q1 : rd st3 vi with
  | none =>
    rw [q1] at h
    exact h.elim
  | some wi =>
    rw [q1] at h
    obtain ⟨x, st4, e4, h⟩ := wp_of2 (Wp.bind.mp h)
    obtain ⟨r5, st5, e5, h⟩ := wp_of2 (Wp.bind.mp h)
    obtain ⟨ρ4, s4, pre4, hx, _⟩ := toD_sound s13 r1' n1 e4
    have r2'' := ER.put r2' pre4 e5
    obtain ⟨pa, x', y, rfl, hob, hf, k⟩ := change_sound (fun _ => by cases wi <;> rfl) s4.res r2'' e5
    have hw := rd_sound s3.res r3 q1
    have fin : ∀ H', Step X.K ρ4 H3 st4 σ ρ4 H' st5 σ → D.nx σ H' := fun H' s5 => h σ H' ρ4 (s4.trans s5) fun _ _ => rfl
    cases x' with
    | ins c fs => cases hf
    | lkd kvs => cases hf
    | lst xs =>
      obtain ⟨ii, j, rfl, hj, rfl, rfl⟩ := setO_lst hf
      cases (show v3 = .int ii from hw.1)
      obtain ⟨vs, g1, g2⟩ := hob
      refine .inl ⟨pa, vs, ii, j, rfl, rfl, g1, by rw [g2.length]; exact hj, fin _ (k _ (fun b hb => upd_ne hb) fun ps => ⟨_, upd_same, VRs.set (hx.mono ps (List.prefix_refl _)) j (g2.pers ps)⟩)⟩
    | dct t kvs =>
      obtain ⟨kd, rfl, hk, hl, rfl, rfl⟩ := setO_dct hf
      have hkv : VR X.K ρ4 H3 kd v3 := VR.mono ⟨fun _ _ e => e, fun _ _ _ _ e => e, fun _ _ e => e⟩ pre4 kd v3 hw.1
      obtain ⟨H', g1, g2, g3⟩ := hob.put hkv hx hk (by omega)
      exact .inr ⟨pa, H', rfl, g1, fin _ (k H' g2 g3)⟩
end
end EW

-- part: TryK
set_option maxHeartbeats 2000000
/-! try .. except C as e: x = e; the caught object is known from then on -/
namespace EW
open PySem PySem.Spec PyProof.Rows L2
/-- what is wished of the body's refusals: slot i is the clause's name, slot k the name that keeps what was caught -/
def wK (K : PySem.W.Frag) (c : Value) (i k : Nat) (Wout : WX) (D : Ends) : WX := fun cls d σ H =>
  ∃ b, PySem.W.exmOne K cls c = some b ∧ (b = true → ∃ C, cls = .ref C ∧ d = none ∧ ∀ a, H a = none → D.nx ((σ.set i none).set k (some (.ref a))) (upd H a (exT C a))) ∧ (b = false → Wout cls d σ H)
section
variable {X : Cx} {x n y : Str} {c : Value} {i k : Nat} {body : List Stmt} {np pos pos' q1 q2 q3 : Pos} {tb : WX → TS} {Wout : WX}
/-- y = n, in the clause's suite -/
theorem keep_one (hN : X.N.Nodup) (hi : X.N[i]? = some n) (hk : X.N[k]? = some y) (hln : X.env.kindOf n = some .local) (hly : X.env.kindOf y = some .local) (hd : (n == ("__debug__" : Str)) = false) (hcd : (n == ("__classdict__" : Str)) = false) :
    PSs X [.Assign [.Name y q1] (.Name n q2) q3] (fun D σ H => ∃ v, σ[i]? = some (some v) ∧ D.nx (σ.set k (some v)) H) := by
  have p := ps_set (pos := q3) (pos' := q1) hN hk (.inl hly) (pe_var (pos := q2) hi (.inl hln) hd hcd) rfl (.inr hly)
  refine PSs.imp (pss_cons p pss_nil) ?_
  rintro D σ H ⟨v, e, q⟩
  exact ⟨v, e, q⟩
/-- try: body / except x as n: y = n -/
theorem ps_try_keep (hx : X.ex = []) (hs : X.stack = X.env :: X.outer) (hf : X.env.frame = some X.env.locals) (hN : X.N.Nodup) (hi : X.N[i]? = some n) (hk : X.N[k]? = some y) (hik : i ≠ k) (hln : X.env.kindOf n = some .local) (hly : X.env.kindOf y = some .local)
    (hd : (n == ("__debug__" : Str)) = false) (hcd : (n == ("__classdict__" : Str)) = false) (hc : Names X x c) (tk : Takes X Wout)
    (hb : ∀ (W : WX) (pn : List (Addr × Obj)) (xe : Value → Shared → Prop), Takes (X.tr pn xe) W → PassesOwn (model X.prog X.w) X.A X.env xe → PSs (X.tr pn xe) body (tb W)) :
    PS X (.Try body [.ExceptHandler (some (.Name x np)) (some n) [.Assign [.Name y q1] (.Name n q2) q3] pos'] [] [] pos) (fun D σ H => tb (wK X.K c i k Wout D) D σ H) := by
  refine ⟨fun pins s σ H D I h => ?_⟩
  have ok := I.ok
  have hfr : X.A.frames = some (X.env :: X.outer) := by rw [ok.frames, hs]
  refine wpAny_Try_except ?_
  have run := (hb (wK X.K c i k Wout D) (X.pn ++ pins) (fun e s₁ => wpAny (model X.prog X.w) X.A (noteFrame e X.env) (fun _ s₂ => wpAny (model X.prog X.w) X.A (setFlight e none) (fun _ s₃ =>
    wpAny (model X.prog X.w) X.A (handleBy e X.env [.ExceptHandler (some (.Name x np)) (some n) [.Assign [.Name y q1] (.Name n q2) q3] pos']) (SP X pins D) X.xe s₃) X.xe s₂) X.xe s₁) (fun u s' xx => ?_) PassesOwn.looking).run [] s σ H D (I.toTry _) h
  · refine wpAny_mono run (fun f s1 hsp => ?_) (fun e s1 he => he)
    cases f with
    | next =>
      obtain ⟨σ', H', J, q⟩ := hsp
      exact wpAny_execs_nil ⟨σ', H', J.ofTry ok, q⟩
    | brk =>
      obtain ⟨σ', H', J, q⟩ := hsp
      exact ⟨σ', H', J.ofTry ok, q⟩
    | cont =>
      obtain ⟨σ', H', J, q⟩ := hsp
      exact ⟨σ', H', J.ofTry ok, q⟩
    | ret u =>
      obtain ⟨v, σ', H', J, r, q⟩ := hsp
      exact ⟨v, σ', H', J.ofTry ok, r, q⟩
  · obtain ⟨a, B, sI, pins', σ', H', cls, d, rfl, J0, nb, up, sky, na, os, ag, b, m1, yes, no⟩ := xx
    have J : Inv X pins σ' H' sI := J0.ofTry ok
    have sky2 : Sky B (X.env :: X.outer) a (Zc cls d) X.env.locals s'.heap := by rw [← hs]; exact sky
    show wpAny (model X.prog X.w) X.A (noteFrame (.ref a) X.env) _ _ _
    refine Sky.land Zc.steady hfr hf sky2 fun h3 f3 u3 => ?_
    have J3 : Inv X pins σ' H' { s' with heap := h3 } := J.landed nb f3.1 (up.trans u3) os ag
    obtain ⟨o3, v3, e3, z3, d3⟩ := f3.there
    have nfr : a ∉ frs (X.env :: X.outer) := fun hm => by
      obtain ⟨_, o', e', hnf⟩ := f3.2.2.1.mem hm
      rw [e3] at e'
      cases e'
      exact hnf _ d3
    have nL : a ≠ X.env.locals := fun z => nfr (List.mem_filterMap.mpr ⟨X.env, List.mem_cons_self, by rw [hf, z]⟩)
    have nF : a ∉ X.fs := fun hm => by
      obtain ⟨e, he, q⟩ := List.mem_filterMap.mp hm
      exact nfr (List.mem_filterMap.mpr ⟨e, List.mem_cons_of_mem _ he, q⟩)
    have nI : sI.heap.get? a = none := by
      cases q : sI.heap.get? a with
      | none => rfl
      | some o =>
        have z := nb a o q (by rw [hs]; exact nfr)
        rw [f3.2.1] at z
        cases z
    have n0 : X.s_0.heap.get? a = none := by
      cases q : X.s_0.heap.get? a with
      | none => rfl
      | some o =>
        obtain ⟨o', z⟩ := J.base.there a o q (by rw [hx]; exact fun z => nomatch z)
        rw [nI] at z
        cases z
    have S3 := J3.suite e3 d3 na nL nF
    refine wpAny_handleBy_cons (codeAny_handlers_test ?_) (by intro q; cases q)
    have LT : PySem.W.Looks (model X.prog X.w) h3 (typeOf (.ref a)) cls := fun A Q E s k q => wpAny_typeOf_ref (k _ _ e3) (by rw [z3.1]; exact q)
    have LM := PySem.W.exm_one (M := model X.prog X.w) J3.kIn LT m1
    have nm : ∀ {Q : Value → Shared → Prop} {E : Value → Shared → Prop}, Q c { s' with heap := h3 } → wpAny (model X.prog X.w) (X.A.mark (some (.ref a))) (eval (.Name x np) X.env) Q E { s' with heap := h3 } := fun {Q E} q => by
      obtain ⟨g, dbg, m | ⟨m, v, nn⟩⟩ := hc
      · exact ld_glob (X := X.suite a ((a, o3) :: (X.pn ++ pins))) S3 g m q dbg
      · exact ld_blt (X := X.suite a ((a, o3) :: (X.pn ++ pins))) S3 g m v q nn dbg
    refine nm (LM.here ?_)
    cases b with
    | true =>
      obtain ⟨C, rfl, rfl, fin⟩ := yes rfl
      refine codeAny_handlers_suite_as ?_
      refine HandSPX.lands_againZ f3 fun h4 f4 u4 => ?_
      have J4 : Inv X pins σ' H' { s' with heap := h4 } := J.landed nb f4.1 ((up.trans u3).trans u4) os ag
      obtain ⟨o4, v4, e4, z4, d4⟩ := f4.there
      have S4 := J4.suite e4 d4 na nL nF
      refine store_ok (X := X.suite a ((a, o4) :: (X.pn ++ pins))) (v := .ref a) S4 hN hi (.inl hln) rfl (fun s5 S5 => ?_) (.inr hln)
      have hlen : i < σ'.length := by
        have : σ'.length = X.N.length := S4.len
        have z := (List.getElem?_eq_some_iff.mp hi).1
        omega
      refine wpAny_mono ((keep_one (X := X.suite a ((a, o4) :: (X.pn ++ pins))) hN hi hk hln hly hd hcd).run [] s5 _ H' ⟨fun σ6 H6 => σ6 = (σ'.set i (some (.ref a))).set k (some (.ref a)) ∧ H6 = H', fun _ _ => False, fun _ _ => False, fun _ _ => False⟩ S5 ⟨.ref a, List.getElem?_set_self hlen, rfl, rfl⟩) (fun f s6 hsp => ?_) (fun _ _ z => z.elim)
      cases f with
      | next =>
        obtain ⟨σ6, H6, S6, rfl, rfl⟩ := hsp
        obtain ⟨p1, p2, p3, p4, p5⟩ := S6.pin (a, o4) (List.mem_append.mpr (.inl List.mem_cons_self))
        have J6 := S6.unsuite ok
        have J7 := track (C := C) J6 n0 na nL (fun z cc e y => by
          obtain ⟨w, oo, g1, g2⟩ := J6.cell z cc e
          subst y
          rw [p1] at g1
          cases g1
          rw [d4] at g2
          cases g2) (fun p hp y => by
          have z := S6.pin p (List.mem_append_left _ (List.mem_cons_of_mem _ hp))
          obtain ⟨_, z2, _⟩ := J0.pin p (List.mem_append_left _ hp)
          obtain ⟨z1, _⟩ := J.pin p hp
          rw [y, nI] at z1
          cases z1) p1 z4 d4
        refine gone_ok J7 hN hi hln fun s7 J8 => ?_
        refine ⟨_, _, J8, ?_⟩
        have es : ((σ'.set i (some (V.ref a))).set k (some (V.ref a))).set i none = (σ'.set i none).set k (some (V.ref a)) := by
          rw [List.set_comm _ _ (Ne.symm hik), List.set_set]
        rw [es]
        exact fin a na
      | brk => exact hsp.elim fun _ z => z.elim fun _ z => z.2.elim
      | cont => exact hsp.elim fun _ z => z.elim fun _ z => z.2.elim
      | ret u => exact hsp.elim fun _ z => z.elim fun _ z => z.elim fun _ z => z.2.2.elim
    | false =>
      show wpAny _ X.A (handleBy (.ref a) X.env []) _ _ _
      refine wpAny_handleBy_nil ?_
      obtain ⟨k1, k2, k3, oe, vs, T, oT, ts', he, hz, hd', h1, hr⟩ := id f3
      unfold PySem.passOn
      refine wpAny_bind (wpAny_field he hd' h1 ?_)
      rw [if_neg (show ¬ ((Value.ref T == Value.none) = true) from by simp)]
      have fin : wpAny (model X.prog X.w) X.A (setFlight (.ref a) X.env.frame) (fun _ s4 => wpAny (model X.prog X.w) X.A (throw (.ref a) : Sem Flow) (SP X pins D) X.xe s4) X.xe { s' with heap := h3 } := by
        rw [hf]
        refine HandSPX.setFlight_upZ f3 fun h4 g4 u4 => wpAny_throw (tk _ _ ?_)
        exact ⟨a, B, sI, pins, σ', H', cls, d, rfl, J, nb, (up.trans u3).trans u4, .inr (.inr (by rw [hs]; exact g4)), na, os, ag, no rfl⟩
      first
        | exact wpAny_bind (wpAny_pure (wpAny_bind fin))
        | exact wpAny_bind fin
end
section
variable {K : PySem.W.Frag} {ρ : List Addr} {H : Hp} {st : St} {σ : L2.St}
/-- a name is unbound -/
theorem Res.setU {i : Nat} (hR : Res K ρ H st σ) : Res K ρ H (st.set i .un) (σ.set i none) ∧ ∀ a, Dom (st.set i .un) (σ.set i none) ρ a → Dom st σ ρ a := by
  have old : ∀ {j : Nat} {y : O}, (st.set i .un).σ[j]? = some (.o y) → j ≠ i ∧ st.σ[j]? = some (.o y) := fun {j y} h => by
    simp only [St.set] at h
    by_cases hj : j = i
    · subst hj
      rw [List.getElem?_set] at h
      simp only [if_true] at h
      split at h <;> cases h
    · rw [List.getElem?_set_ne (Ne.symm hj)] at h
      exact ⟨hj, h⟩
  refine ⟨⟨hR.hr, by simp [St.set, hR.len], fun j s h => ?_, fun j k x y p hjk h1 h2 h3 h4 => ?_⟩, fun a h => ?_⟩
  · by_cases hj : j = i
    · subst hj
      simp only [St.set] at h
      rw [List.getElem?_set] at h
      simp only [if_true] at h
      split at h
      · cases h
        trivial
      · cases h
    · simp only [St.set] at h
      rw [List.getElem?_set_ne (Ne.symm hj)] at h
      have z := hR.sl j s h
      have e : (σ.set i none)[j]? = σ[j]? := List.getElem?_set_ne (Ne.symm hj)
      cases s with
      | un => trivial
      | d x =>
        obtain ⟨w, e1, h1⟩ := z
        exact ⟨w, e.trans e1, h1⟩
      | o x =>
        obtain ⟨p, e1, h1⟩ := z
        exact ⟨p, e.trans e1, h1⟩
  · obtain ⟨g1, g2⟩ := old h1
    obtain ⟨g3, g4⟩ := old h2
    rw [List.getElem?_set_ne (Ne.symm g1)] at h3
    rw [List.getElem?_set_ne (Ne.symm g3)] at h4
    exact hR.sep j k x y p hjk g2 g4 h3 h4
  · rcases h with h | ⟨j, x, h1, h2⟩
    · exact .inl h
    · obtain ⟨g1, g2⟩ := old h1
      rw [List.getElem?_set_ne (Ne.symm g1)] at h2
      exact .inr ⟨j, x, g2, h2⟩
end
/-- what a statement's frame must be -/
structure FrS (X : Cx) : Prop where
  ex : X.ex = []
  st : X.stack = X.env :: X.outer
  fr : X.env.frame = some X.env.locals
theorem ss_try {X : Cx} {G : Gam} {b : List EW.S} {body : List Stmt} {t : String} {n y : Str} {i k : Nat} {np pos pos' q1 q2 q3 : Pos} (F : ExF X.K X.mg G.sub) (fr : FrS X) (ht : G.sub t t = true) (hg : Gl X (Str.ofString t)) (hdt : (Str.ofString t == ("__debug__" : Str)) = false)
    (hN : X.N.Nodup) (hi : X.N[i]? = some n) (hk : X.N[k]? = some y) (hik : i ≠ k) (hln : X.env.kindOf n = some .local) (hly : X.env.kindOf y = some .local) (hd : (n == ("__debug__" : Str)) = false) (hcd : (n == ("__classdict__" : Str)) = false)
    (hb : ∀ (pn : List (Addr × Obj)) (xe : Value → Shared → Prop), SSs (X.tr pn xe) G b body) :
    SS X G (.tr b [t] (some i) [.asg (.v k) (.v i)]) (.Try body [.ExceptHandler (some (.Name (Str.ofString t) np)) (some n) [.Assign [.Name y q1] (.Name n q2) q3] pos'] [] [] pos) := fun Wx tk po => by
  refine PS.imp (ps_try_keep fr.ex fr.st fr.fr hN hi hk hik hln hly hd hcd (c := .ref (gaS X.K t)) ⟨hg, hdt, .inl (F.one t ht).glo⟩ tk (tb := fun W => tS X (exs G b) (S.asgss b) W) (fun W pn xe tkW poW => hb pn xe W tkW poW)) ?_
  rintro D σ H ⟨ρ, st, hR, h⟩
  simp only [ex] at h
  refine ⟨ρ, st, hR, ?_⟩
  cases q : exs G b st with
  | bad =>
    rw [q] at h
    exact h.elim
  | ok f st' =>
    rw [q] at h
    have h : FQ X ρ H st σ (S.asgs (.tr b [t] (some i) [.asg (.v k) (.v i)])) D f st' := h
    exact h.slots fun j hj => by simp [S.asgs, hj]
  | ex c' st' =>
    rw [q] at h
    intro cls σ' H' ρ' s' ag hc
    unfold handle at h
    simp only [List.all_cons, List.all_nil, Bool.and_true, List.any_cons, List.any_nil, Bool.or_false] at h
    by_cases hk' : G.sub c' c' = true
    · rw [if_pos ⟨hk', ht⟩] at h
      have f := F.one c' hk'
      obtain ⟨a0, g1, rfl⟩ := hc
      rw [f.glo] at g1
      cases g1
      refine ⟨G.sub c' t, (F.two c' t hk' ht).1, fun hb => ?_, fun hb => ?_⟩
      · rw [if_pos hb] at h
        refine ⟨gaS X.K c', rfl, rfl, fun a na => ?_⟩
        by_cases hlen : i < st'.σ.length
        case neg =>
          simp only [if_neg hlen] at h
          exact h.elim
        simp only [if_pos hlen] at h
        have ev1 : exs G [.asg (.v k) (.v i)] (st'.set i (.d (.exn c'))) = .ok .nx ((st'.set i (.d (.exn c'))).set k (.d (.exn c'))) := by
          have e : (st'.set i (.d (.exn c'))).σ[i]? = some (.d (.exn c')) := by
            simp only [St.set]
            exact List.getElem?_set_self hlen
          simp only [exs, ex, ev, e, Out.bind_ok, bindV, put]
        simp only [ev1, Out.bind_ok] at h
        have es : ((st'.set i (.d (.exn c'))).set k (.d (.exn c'))).set i .un = (st'.set i .un).set k (.d (.exn c')) := by
          simp only [St.set]
          congr 1
          rw [List.set_comm _ _ (Ne.symm hik), List.set_set]
        rw [es] at h
        have s2 := Step.ext s'.res (same_new (o := exT (gaS X.K c') a) na)
        obtain ⟨r3, d3⟩ := Res.setU (i := i) s2.res
        have hv : VR X.K ρ' (upd H' a (exT (gaS X.K c') a)) (.exn c') (.ref a) := ⟨a, rfl, upd_same, f.cls⟩
        obtain ⟨r4, d4⟩ := Res.setD (i := k) r3 hv
        have s4 := Step.of_res (st := st') (σ := σ') r4 fun x hx => d3 x (d4 x hx)
        refine h _ _ ρ' ((s'.trans s2).trans s4) fun j hj => ?_
        have h1 : j ≠ i := fun z => hj (by simp [S.asgs, z])
        have h2 : j ≠ k := fun z => hj (by simp [S.asgs, S.asgss, Tg.vars, z])
        rw [List.getElem?_set_ne (Ne.symm h2), List.getElem?_set_ne (Ne.symm h1)]
        exact ag j fun z => hj (by simp [S.asgs, z])
      · rw [if_neg (by rw [hb]; decide)] at h
        exact h _ σ' H' ρ' s' (fun j hj => ag j fun z => hj (by simp [S.asgs, z])) ⟨_, f.glo, rfl⟩
    · rw [if_neg fun z => hk' z.1] at h
      exact h.elim
end EW

-- part: LockT
set_option maxHeartbeats 2000000
/-! for x, y in d.items(): the dict locked, Mini's heap laid aside -/
namespace EW
open PySem PySem.Spec PyProof.Rows L2
theorem Wp.end_ {st : St} {o : Out Fl} {P : Fl → St → Prop} {E : String → St → Prop} (h : Wp (endI st o) P E) : Wp o (fun f st2 => f = .nx ∧ st2.h = [] ∧ st.σ.length = st2.σ.length ∧ P .nx ⟨unmS st.σ st2.σ, st.h⟩) fun _ _ => False := by
  cases o with
  | ok f st2 =>
    cases f with
    | nx =>
      obtain ⟨σ2, h2⟩ := st2
      cases h2 with
      | nil =>
        simp only [endI] at h
        split at h
        · rename_i hl
          exact ⟨rfl, rfl, hl, h⟩
        · exact h.elim
      | cons a r => exact h.elim
    | rt v => exact h.elim
    | ct => exact h.elim
  | ex c st2 => exact h.elim
  | bad => exact h.elim
/-- for x, y in name.items() -/
theorem ss_fori {X : Cx} {G : Gam} {tg : Tg} {i : Nat} {b : List EW.S} {x : Str} {elts : List Expr} {kk : Nat} {tpos npos apos cpos pos : Pos} {eb : List Stmt} (hc : X.calm = true) (hN : X.N[i]? = some x) (hv : Vis X.env.scope x) (hd : (x == ("__debug__" : Str)) = false) (hcd : (x == ("__classdict__" : Str)) = false)
    (hl : (apos.endLine == cpos.line) = true) (hg : PG X (.Tuple elts kk tpos) (gTg X.K tg)) (hb : SSs X G b eb) :
    SS X G (.fori tg i b) (.For (.Tuple elts kk tpos) (.Call (.Attribute (.Name x npos) "items" apos) [] [] cpos) eb [] pos) := fun Wx tk po => by
  refine PS.imp (ps_lock (ps_for po hc (pi_items (pe_var hN hv hd hcd) rfl hl) hg (hb (fun _ _ _ _ => False) (fun u s' ⟨_, _, _, _, _, _, _, _, _, _, _, _, _, _, _, _, w⟩ => w.elim) po) (fun _ => rfl))) ?_
  rintro D σ H ⟨ρ, st, hR, h⟩
  simp only [ex] at h
  cases q1 : st.σ[i]? with
  | none =>
    rw [q1] at h
    exact h.elim
  | some s =>
    rw [q1] at h
    cases s with
    | un => exact h.elim
    | o x => exact h.elim
    | d d =>
      cases d with
      | ref a =>
        simp only at h
        cases q2 : st.h[a]? with
        | none =>
          rw [q2] at h
          exact h.elim
        | some o =>
          rw [q2] at h
          cases o with
          | lst ds => exact h.elim
          | ins c fs => exact h.elim
          | lkd kvs => exact h.elim
          | dct t kvs =>
            cases t with
            | true => exact h.elim
            | false =>
              simp only at h
              split at h
              case isFalse => exact h.elim
              case isTrue hcond =>
              simp only [Bool.and_eq_true] at hcond
              obtain ⟨hbare, hvs⟩ := hcond
              have hvs' : ∀ j ∈ tg.vars ++ S.asgss b, asideB st.σ j = false := fun j hj => by
                have := List.all_eq_true.mp hvs j hj
                simpa using this
              obtain ⟨v, e1, p, e2, rfl⟩ := hR.sl i _ q1
              have hpρ : p ∈ ρ := List.mem_of_getElem? e2
              obtain ⟨ks, hd1, hkv⟩ := hR.hr.obj a p _ e2 q2
              have hk0 : KVs X.K [] H fkey kvs ks := hkv.bare hbare
              refine ⟨p, .dK ks, hd1, trivial, fun od => ?_⟩
              obtain ⟨m, dm⟩ := hR.mask hpρ (upd_frz (od := od) hd1)
              have hp1 := upd_frz (od := od) hd1
              have hk1 : KVs X.K [] (upd H p (.frz od (.dK ks))) fkey kvs ks := hk0.mono hp1 (List.prefix_refl _)
              have hlen := hk1.len
              refine ⟨.ref p, e1, p, od, ks, rfl, upd_same, ?_⟩
              have hvs2 : S.asgs (.fori tg i b) = tg.vars ++ S.asgss b := by simp [S.asgs]
              rw [hvs2] at h
              have h0 := h.end_
              refine ⟨fun i m σi Hi => i ≤ ks.length ∧ m = ks.length - i ∧ ∃ ρi sti, Step X.K [] (upd H p (.frz od (.dK ks))) ⟨maskS st.σ, []⟩ σ ρi Hi sti σi ∧ (∀ j, j ∉ tg.vars ++ S.asgss b → σi[j]? = σ[j]?) ∧
                Wp (foL (fun _ => True) tg (exs G b) ((kvs.map fun p => EW.D.tup [p.1, p.2]).drop i) sti) (fun f st2 => f = .nx ∧ st2.h = [] ∧ st.σ.length = st2.σ.length ∧ FQ X ρ H st σ (tg.vars ++ S.asgss b) D .nx ⟨unmS st.σ st2.σ, st.h⟩) (fun _ _ => False), ⟨_, Nat.zero_le _, rfl, [], _, Step.refl m, fun _ _ => rfl, h0⟩, ?_⟩
              rintro j m' σi Hi ⟨hj, rfl, ρi, sti, s1, ag, hw⟩
              have hHi : Hi p = some (.frz od (.dK ks)) := s1.frame p _ upd_same fun z => (dm p z).2 hpρ
              have psi : Pers (upd H p (.frz od (.dK ks))) Hi := Step.pers m s1
              by_cases hlt : j < ks.length
              · refine .inr ⟨⟨hHi, hlt⟩, fun σ' H' => ∃ ρ' st', Step X.K [] (upd H p (.frz od (.dK ks))) ⟨maskS st.σ, []⟩ σ ρ' H' st' σ' ∧ (∀ j, j ∉ tg.vars ++ S.asgss b → σ'[j]? = σ[j]?) ∧
                  Wp (foL (fun _ => True) tg (exs G b) ((kvs.map fun p => EW.D.tup [p.1, p.2]).drop (j + 1)) st') (fun f st2 => f = .nx ∧ st2.h = [] ∧ st.σ.length = st2.σ.length ∧ FQ X ρ H st σ (tg.vars ++ S.asgss b) D .nx ⟨unmS st.σ st2.σ, st.h⟩) (fun _ _ => False), fun σ' H' ⟨ρ', st', a1, a2, a3⟩ => ⟨ks.length - (j + 1), by omega, by omega, rfl, ρ', st', a1, a2, a3⟩, ?_⟩
                rintro u H' ⟨T, k, w, g1, rfl, g3, rfl⟩
                obtain ⟨dk, dv, e3, v1, v2⟩ := hk1.pair g1
                have same : Same Hi (upd Hi T (.tup [kV k, w])) := same_new g3
                have psT := Pers.same same
                have e4 : (kvs.map fun p => EW.D.tup [p.1, p.2]).drop j = .tup [dk, dv] :: (kvs.map fun p => EW.D.tup [p.1, p.2]).drop (j + 1) := by
                  have z : (kvs.map fun p => EW.D.tup [p.1, p.2])[j]? = some (.tup [dk, dv]) := by rw [List.getElem?_map, e3]; rfl
                  obtain ⟨z1, z2⟩ := List.getElem?_eq_some_iff.mp z
                  rw [List.drop_eq_getElem_cons z1, z2]
                rw [e4] at hw
                unfold foL at hw
                rw [if_pos trivial] at hw
                have s3 := Step.ext s1.res same
                have hu : VR X.K ρi (upd Hi T (.tup [kV k, w])) (.tup [dk, dv]) (.ref T) := ⟨T, [kV k, w], rfl, upd_same, .cons (VR.mono (psi.trans psT) List.nil_prefix _ _ v1) (.cons (VR.mono (psi.trans psT) List.nil_prefix _ _ v2) .nil)⟩
                cases q : bindD tg (.tup [dk, dv]) sti with
                | none =>
                  rw [q] at hw
                  exact hw.elim
                | some st2 =>
                  rw [q] at hw
                  refine gTg_sound (v := .ref T) tg (.tup [dk, dv]) (.ref T) sti st2 σi _ s3.res hu q fun σ2 r2 g1 g2 g3 => ?_
                  have s5 := s1.trans (s3.trans (Step.of_res r2 g3))
                  have ag2 : ∀ l, l ∉ tg.vars ++ S.asgss b → σ2[l]? = σ[l]? := fun l hl => (g1 l fun z => hl (by simp [z])).trans (ag l hl)
                  refine ⟨ρi, st2, r2, (Wp.bind.mp hw).mono (fun f st3 hf => ?_) fun _ _ x => x.elim⟩
                  cases f with
                  | nx => exact fun σ' H' ρ' s6 ag' => ⟨ρ', st3, s5.trans s6, fun l hl => (ag' l fun z => hl (by simp [z])).trans (ag2 l hl), hf⟩
                  | ct => exact fun σ' H' ρ' s6 ag' => ⟨ρ', st3, s5.trans s6, fun l hl => (ag' l fun z => hl (by simp [z])).trans (ag2 l hl), hf⟩
                  | rt r => exact absurd hf.1 (by simp)
              · have e : j = ks.length := by omega
                subst e
                refine .inl ⟨⟨hHi, Nat.le_refl _⟩, ?_⟩
                rw [List.drop_eq_nil_of_le (by simp; omega)] at hw
                unfold foL at hw
                rw [if_pos trivial] at hw
                obtain ⟨_, hh, hl2, hq⟩ := hw
                have hρ : ρi = [] := by
                  have z := s1.res.hr.len
                  rw [hh] at z
                  exact List.length_eq_zero_iff.mp z
                subst hρ
                obtain ⟨g1, g2⟩ := Step.unmask hR hpρ hd1 s1 ag hvs' hl2
                exact ⟨g1, hq σi _ ρ g2 ag⟩
      | _ => exact h.elim
end EW

-- part: SoundE
set_option maxHeartbeats 2000000
/-! o.f = e; for loops over a locked dict -/
namespace EW
open PySem PySem.Spec PyProof.Rows L2
theorem ss_fld {X : Cx} {G : Gam} (hc : ClsF X G) {o e : E} {f : String} {eo ee : Expr} {p pos : Pos} (hb : notCall0 eo = true) (ho : SE X G o eo) (he : SE X G e ee) (hs : swapsWith ee (some (.Attribute eo (Str.ofString f) p)) pos.line X.env = pure false) :
    SS X G (.fld o f e) (.Assign [.Attribute eo (Str.ofString f) p] ee pos) := fun Wx tk po => by
  refine PS.imp (ps_fld (ho Wx tk) (he Wx tk) hs) ?_
  rintro D σ H ⟨ρ, st, hR, h⟩
  simp only [ex] at h
  refine tE.bindS hR h fun r st1 v H1 ρ1 s1 r1 n1 h => ?_
  refine tE.bind s1.res h (fun _ _ x => (x.back s1 fun _ _ => rfl).xq) fun vo st2 v2 H2 ρ2 s2 r2 n2 h => ?_
  have s12 := s1.trans s2
  have r1' := ER.step s1.res s2 r1
  obtain ⟨x, st3, e3, h⟩ := wp_of2 (Wp.bind.mp h)
  obtain ⟨r5, st4, e4, h⟩ := wp_of2 (Wp.bind.mp h)
  obtain ⟨ρ3, s3, pre3, hx, _⟩ := toD_sound s12 r1' n1 e3
  have r2'' := ER.put r2 pre3 e4
  obtain ⟨pa, x', y, rfl, hob, hf, k⟩ := change_sound (fun _ => rfl) s3.res r2'' e4
  cases x' with
  | ins c fs =>
    simp only [setA] at hf
    split at hf
    case isFalse => cases hf
    case isTrue hz =>
    cases hf
    obtain ⟨dx, vs, g1, g2, g3, g4⟩ := hob
    have nf := hc.fl c f hz.2
    refine ⟨pa, _, dx, vs, rfl, g1, g3.cl, nf, by rw [g2.length]; omega, ?_⟩
    refine h σ _ ρ3 (s3.trans (k _ (fun b hb => upd_ne hb) fun ps => ⟨dx, _, upd_same, FVs.set (hx.mono ps (List.prefix_refl _) x v) (g2.mono ps (List.prefix_refl _)), g3, fun q hq => ?_⟩)) fun _ _ => rfl
    rcases setF_mem hq with z | z
    · rw [z]
      exact nf
    · exact g4 q z
  | _ => cases hf

/-! ### for loops over a locked dict -/
theorem openO_of {x y : O} {r : EV} (h : openO x = some (y, r)) : ∃ kvs, x = .lkd kvs ∧ y = .dct false kvs := by
  cases x with
  | lkd kvs =>
    cases h
    exact ⟨kvs, rfl, rfl⟩
  | _ => cases h
theorem lockO_of {x y : O} {r : EV} (h : lockO x = some (y, r)) : ∃ kvs, x = .dct false kvs ∧ y = .lkd kvs := by
  cases x with
  | dct t kvs =>
    cases t with
    | false =>
      cases h
      exact ⟨kvs, rfl, rfl⟩
    | true => cases h
  | _ => cases h
section
variable {K : PySem.W.Frag} {ρ ρ' : List Addr} {H : Hp} {st st1 st2 st3 : St} {σ σ' : L2.St}
/-- behind the lock -/
theorem unlock {p : Addr} {ks : List (Key × V)} {od : Obj} {H' : Hp} {v : EV} {r : EV} (hd : H p = some (.dK ks)) (s : Step K ρ (upd H p (.frz od (.dK ks))) st1 σ ρ' H' st2 σ') (hpd : Dom st σ ρ p) (hdom : ∀ a, Dom st1 σ ρ a → Dom st σ ρ a)
    (hv : ER K ρ' H' st2 σ' v (.ref p)) (e : change v openO st2 = some (r, st3)) :
    H' p = some (.frz od (.dK ks)) ∧ Step K ρ H st σ ρ' (upd H' p (.dK ks)) st3 σ' ∧ Pers H' (upd H' p (.dK ks)) := by
  have hH' : H' p = some (.frz od (.dK ks)) := s.frz p od _ upd_same
  obtain ⟨p', x, y, e1, hx, hf, hpd', k⟩ := change_res s.res hv e
  cases e1
  obtain ⟨kvs, rfl, rfl⟩ := openO_of hf
  obtain ⟨od', ks', g1, g2⟩ := hx
  rw [hH'] at g1
  cases g1
  have ps := upd_dK (ks' := ks) hH'
  obtain ⟨k1, k2⟩ := k (upd H' p (.dK ks)) (fun b hb => upd_ne hb) ps ⟨ks, upd_same, g2.mono ps (List.prefix_refl _)⟩
  refine ⟨hH', ⟨k1, s.pre, fun a o e n => ?_, fun a d => ?_, fun a o u e => ?_⟩, ps⟩
  · have ne : a ≠ p := fun z => n (z ▸ hpd)
    rw [upd_ne ne]
    exact s.frame a o (by rw [upd_ne ne]; exact e) fun d => n (hdom a d)
  · rcases s.grow a (k2 a d) with z | z
    · exact .inl (hdom a z)
    · by_cases ne : a = p
      · subst ne
        exact .inl hpd
      · rw [upd_ne ne] at z
        exact .inr z
  · have ne : a ≠ p := fun z => by
      subst z
      rw [hd] at e
      cases e
    rw [upd_ne ne]
    exact s.frz a o u (by rw [upd_ne ne]; exact e)
end
theorem endD_wp {v : EV} {o : Out Fl} {P : Fl → St → Prop} {F : String → St → Prop} (h : Wp (endD v o) P F) : Wp o (fun f st2 => ∃ r st3, change v openO st2 = some (r, st3) ∧ P f st3 ∧ (f = .nx ∨ ∃ x, f = .rt (.d x) ∧ isD v = true)) fun _ _ => False := by
  cases o with
  | bad => exact h.elim
  | ex c st2 => exact h.elim
  | ok f st2 =>
    cases f with
    | ct => exact h.elim
    | nx =>
      obtain ⟨r, st3, e, h⟩ := wp_of2 (Wp.bind.mp h)
      exact ⟨r, st3, e, h, .inl rfl⟩
    | rt x =>
      simp only [endD] at h
      split at h
      case isFalse => exact h.elim
      case isTrue hz =>
      rw [Bool.and_eq_true] at hz
      obtain ⟨r, st3, e, h⟩ := wp_of2 (Wp.bind.mp h)
      refine ⟨r, st3, e, h, .inr ?_⟩
      cases x with
      | d x => exact ⟨x, rfl, hz.2⟩
      | _ => cases hz.1
/-- an iterator over a locked dict -/
structure GoesD (K : PySem.W.Frag) (J : It) (xs : List D) (p : Addr) (od : Obj) (kvs : List (D × D)) (ks : List (Key × V)) : Prop where
  go : ∀ i H, H p = some (.frz od (.dK ks)) → i < xs.length → J.go i H
  stop : ∀ H, H p = some (.frz od (.dK ks)) → J.stop xs.length H
  yld : ∀ i x (ρ : List Addr) (H H' : Hp), KVs K ρ H fkey kvs ks → i < xs.length → J.yld i H x H' → Same H H' ∧ ∃ d, xs[i]? = some d ∧ VR K ρ H' d x
theorem KVs.same_len {κ : Type} {f : D → Option κ} {K : PySem.W.Frag} {ρ : List Addr} {H : Hp} : ∀ {kvs : List (D × D)} {ks : List (κ × V)}, KVs K ρ H f kvs ks → ks.length = kvs.length
  | [], ks, h => by
    have e : ks = [] := h
    rw [e]
    rfl
  | q :: r, ks, h => by
    obtain ⟨k, v, t, e, h1, h2, h3⟩ := h
    rw [e, List.length_cons, List.length_cons, h3.same_len]
theorem goes_itk {K : PySem.W.Frag} {p : Addr} {od : Obj} {kvs : List (D × D)} {ks : List (Key × V)} (hl : ks.length = kvs.length) : GoesD K (Itk p od ks) (kvs.map (·.1)) p od kvs ks := by
  refine ⟨fun i H h hi => ⟨h, by rw [List.length_map] at hi; omega⟩, fun H h => ⟨h, by rw [List.length_map]; omega⟩, fun i x ρ H H' hk hi hy => ?_⟩
  obtain ⟨rfl, k, v, e, rfl⟩ := hy
  obtain ⟨d, g1, g2⟩ := KVs.keyAt (ρ' := ρ) (H' := H') hk e
  exact ⟨Same.refl _, d, g1, g2⟩
theorem goes_iti {K : PySem.W.Frag} {p : Addr} {od : Obj} {kvs : List (D × D)} {ks : List (Key × V)} (hl : ks.length = kvs.length) : GoesD K (Iti p od ks) (kvs.map fun p => .tup [p.1, p.2]) p od kvs ks := by
  refine ⟨fun i H h hi => ⟨h, by rw [List.length_map] at hi; omega⟩, fun H h => ⟨h, by rw [List.length_map]; omega⟩, fun i x ρ H H' hk hi hy => ?_⟩
  obtain ⟨T, k, w, e, rfl, hT, rfl⟩ := hy
  obtain ⟨dk, dv, e3, v1, v2⟩ := hk.pair e
  have same : Same H (upd H T (.tup [kV k, w])) := same_new hT
  have ps := Pers.same same
  exact ⟨same, .tup [dk, dv], by rw [List.getElem?_map, e3]; rfl, T, [kV k, w], rfl, upd_same, .cons (v1.mono ps (List.prefix_refl _) _ _) (.cons (v2.mono ps (List.prefix_refl _) _ _) .nil)⟩
/-- the loop under its lock -/
theorem ford_loop {X : Cx} {G : Gam} {tg : Tg} {b : List EW.S} {v : EV} {xs : List D} {kvs : List (D × D)} {ks : List (Key × V)} {p : Addr} {od : Obj} {J : It} {ρ : List Addr} {H : Hp} {st st1 : St} {σ : L2.St} {D : Ends} {Wx : WX}
    (hd : H p = some (.dK ks)) (hkv : KVs X.K ρ H fkey kvs ks) (hres : Res X.K ρ (upd H p (.frz od (.dK ks))) st1 σ) (hpd : Dom st σ ρ p) (hdom : ∀ a, Dom st1 σ ρ a → Dom st σ ρ a)
    (hv : ∀ ρ' H' st' σ', ρ <+: ρ' → (∀ j, j ∉ tg.vars ++ S.asgss b → σ'[j]? = σ[j]?) → ER X.K ρ' H' st' σ' v (.ref p)) (hvd : isD v = true → ∀ ρ' H' st' σ', ρ <+: ρ' → ER X.K ρ' H' st' σ' v (.ref p)) (g : GoesD X.K J xs p od kvs ks)
    (h : Wp (endD v (foL (fun _ => True) tg (exs G b) xs st1)) (FQ X ρ H st σ (tg.vars ++ S.asgss b) D) (XS X ρ H st σ (tg.vars ++ S.asgss b) Wx)) :
    ∃ W : Nat → Nat → L2.St → Hp → Prop, (∃ m, W 0 m σ (upd H p (.frz od (.dK ks)))) ∧ ∀ i m σi Hi, W i m σi Hi →
      (J.stop i Hi ∧ (Hi p = some (.frz od (.dK ks)) ∧ D.nx σi (upd Hi p (.dK ks)))) ∨ (J.go i Hi ∧ ∃ N : L2.St → Hp → Prop, (∀ σ' H', N σ' H' → ∃ m', m' < m ∧ W (i + 1) m' σ' H') ∧ ∀ x H', J.yld i Hi x H' → gTg X.K tg x σi H' fun σ2 H2 =>
        tS X (exs G b) (S.asgss b) (fun _ _ _ _ => False) ⟨N, fun v H' => H' p = some (.frz od (.dK ks)) ∧ D.rt v (upd H' p (.dK ks)), fun σ' H' => H' p = some (.frz od (.dK ks)) ∧ D.nx σ' (upd H' p (.dK ks)), N⟩ σ2 H2) := by
  have h0 := endD_wp h
  have ps0 := upd_frz (od := od) hd
  have hkv0 := hkv.mono ps0 (List.prefix_refl _)
  refine ⟨fun i m σi Hi => i ≤ xs.length ∧ m = xs.length - i ∧ ∃ ρi sti, Step X.K ρ (upd H p (.frz od (.dK ks))) st1 σ ρi Hi sti σi ∧ (∀ j, j ∉ tg.vars ++ S.asgss b → σi[j]? = σ[j]?) ∧
    Wp (foL (fun _ => True) tg (exs G b) (xs.drop i) sti) (fun f st2 => ∃ r st3, change v openO st2 = some (r, st3) ∧ FQ X ρ H st σ (tg.vars ++ S.asgss b) D f st3 ∧ (f = .nx ∨ ∃ x, f = .rt (.d x) ∧ isD v = true)) (fun _ _ => False), ⟨_, Nat.zero_le _, rfl, ρ, st1, Step.refl hres, fun _ _ => rfl, h0⟩, ?_⟩
  rintro i m σi Hi ⟨hi, rfl, ρi, sti, s1, ag, hw⟩
  have hHi : Hi p = some (.frz od (.dK ks)) := s1.frz p od _ upd_same
  have psi := Step.pers hres s1
  by_cases hlt : i < xs.length
  · refine .inr ⟨g.go i Hi hHi hlt, fun σ' H' => ∃ ρ' st', Step X.K ρ (upd H p (.frz od (.dK ks))) st1 σ ρ' H' st' σ' ∧ (∀ j, j ∉ tg.vars ++ S.asgss b → σ'[j]? = σ[j]?) ∧
      Wp (foL (fun _ => True) tg (exs G b) (xs.drop (i + 1)) st') (fun f st2 => ∃ r st3, change v openO st2 = some (r, st3) ∧ FQ X ρ H st σ (tg.vars ++ S.asgss b) D f st3 ∧ (f = .nx ∨ ∃ x, f = .rt (.d x) ∧ isD v = true)) (fun _ _ => False), fun σ' H' ⟨ρ', st', a1, a2, a3⟩ => ⟨xs.length - (i + 1), by omega, by omega, rfl, ρ', st', a1, a2, a3⟩, fun x H' hy => ?_⟩
    obtain ⟨same, d, hd', hvx⟩ := g.yld i x ρi Hi H' (hkv0.mono psi s1.pre) hlt hy
    have e : xs.drop i = d :: xs.drop (i + 1) := by
      rw [List.drop_eq_getElem_cons hlt]
      rw [List.getElem?_eq_getElem hlt] at hd'
      cases hd'
      rfl
    rw [e] at hw
    unfold foL at hw
    rw [if_pos trivial] at hw
    have s3 := Step.ext s1.res same
    cases q : bindD tg d sti with
    | none =>
      rw [q] at hw
      exact hw.elim
    | some st2 =>
      rw [q] at hw
      refine gTg_sound (v := x) tg d x sti st2 σi _ s3.res hvx q fun σ2 r2 g1 g2 g3 => ?_
      have s5 := s1.trans (s3.trans (Step.of_res r2 g3))
      have ag2 : ∀ j, j ∉ tg.vars ++ S.asgss b → σ2[j]? = σ[j]? := fun j hj => (g1 j fun z => hj (by simp [z])).trans (ag j hj)
      refine ⟨ρi, st2, r2, (Wp.bind.mp hw).mono (fun f st3 hf => ?_) fun _ _ x => x.elim⟩
      cases f with
      | nx => exact fun σ' H' ρ' s6 ag' => ⟨ρ', st3, s5.trans s6, fun j hj => (ag' j fun z => hj (by simp [z])).trans (ag2 j hj), hf⟩
      | ct => exact fun σ' H' ρ' s6 ag' => ⟨ρ', st3, s5.trans s6, fun j hj => (ag' j fun z => hj (by simp [z])).trans (ag2 j hj), hf⟩
      | rt r =>
        intro u σ' H' ρ' s6 hr
        obtain ⟨r', st4, e4, hq, hz⟩ := hf
        rcases hz with hz | ⟨y, hz, hvd'⟩
        · cases hz
        · cases hz
          have s7 := s5.trans s6
          obtain ⟨k1, k2, k3⟩ := unlock hd s7 hpd hdom (hvd hvd' ρ' H' st3 σ' s7.pre) e4
          exact ⟨k1, hq u σ' _ ρ' k2 (VR.mono k3 (List.prefix_refl _) y u hr)⟩
  · have e : i = xs.length := by omega
    subst e
    refine .inl ⟨g.stop Hi hHi, ?_⟩
    rw [List.drop_length] at hw
    unfold foL at hw
    rw [if_pos trivial] at hw
    obtain ⟨r', st4, e4, hq, _⟩ := hw
    obtain ⟨k1, k2, k3⟩ := unlock hd s1 hpd hdom (hv ρi Hi sti σi s1.pre ag) e4
    exact ⟨k1, hq σi _ ρi k2 ag⟩
/-- the place of a dict, in the state -/
def PlaceR (X : Cx) (i : Nat) (f : Option String) (tb : TE) : Prop := ∀ (ρ : List Addr) (H : Hp) (st : St) (σ : L2.St) (v : EV), Res X.K ρ H st σ → placeD st i f = some v → ∃ p, ER X.K ρ H st σ v (.ref p) ∧
  (∀ ρ' H' st' σ', ρ <+: ρ' → σ'[i]? = σ[i]? → ER X.K ρ' H' st' σ' v (.ref p)) ∧ (isD v = true → ∀ ρ' H' st' σ', ρ <+: ρ' → ER X.K ρ' H' st' σ' v (.ref p)) ∧
  ∀ ks od Q, H p = some (.dK ks) → Q (.ref p) (upd H p (.frz od (.dK ks))) → tb σ (upd H p (.frz od (.dK ks))) Q
theorem place_var {X : Cx} {i : Nat} : PlaceR X i none (tVar i) := by
  intro ρ H st σ v hR e
  simp only [placeD] at e
  cases q : st.σ[i]? with
  | none =>
    rw [q] at e
    cases e
  | some s =>
    rw [q] at e
    have z := hR.sl i s q
    cases s with
    | un => cases e
    | o x =>
      cases e
      obtain ⟨p, e1, h1, n⟩ := z
      exact ⟨p, e1, fun _ _ _ _ _ z => z.trans e1, fun z => (nomatch z), fun ks od Q _ hq => ⟨.ref p, e1, hq⟩⟩
    | d x =>
      cases x with
      | ref a =>
        cases e
        obtain ⟨u, e1, p, e2, rfl⟩ := z
        exact ⟨p, ⟨p, e2, rfl⟩, fun _ _ _ _ hp _ => ⟨p, pre_get hp e2, rfl⟩, fun _ _ _ _ _ hp => ⟨p, pre_get hp e2, rfl⟩, fun ks od Q _ hq => ⟨.ref p, e1, hq⟩⟩
      | _ => cases e
theorem place_fld {X : Cx} {i : Nat} {f : String} : PlaceR X i (some f) (tFld X.K (tVar i) (Str.ofString f)) := by
  intro ρ H st σ v hR e
  simp only [placeD] at e
  cases q : st.σ[i]? with
  | none =>
    rw [q] at e
    cases e
  | some s =>
    rw [q] at e
    have z := hR.sl i s q
    cases s with
    | d x =>
      cases x with
      | ref a =>
        simp only at e
        obtain ⟨u, e1, p0, e2, rfl⟩ := z
        cases q2 : st.h[a]? with
        | none =>
          rw [q2] at e
          cases e
        | some ob =>
          rw [q2] at e
          cases ob with
          | ins c fs =>
            simp only at e
            cases q3 : fs.lookup f with
            | none =>
              rw [q3] at e
              cases e
            | some y =>
              rw [q3] at e
              cases y with
              | ref b =>
                cases e
                obtain ⟨dx, vs, g1, g2, g3, g4⟩ := hR.hr.obj a p0 _ e2 q2
                obtain ⟨w, k1, p, k2, rfl⟩ := g2.look q3
                refine ⟨p, ⟨p, k2, rfl⟩, fun _ _ _ _ hp _ => ⟨p, pre_get hp k2, rfl⟩, fun _ _ _ _ _ hp => ⟨p, pre_get hp k2, rfl⟩, fun ks od Q hd hq => ⟨.ref p0, e1, p0, _, dx, vs, .ref p, rfl, ?_, g3.cl, g4 _ (FVs.mem q3), k1, hq⟩⟩
                have ne : p0 ≠ p := fun z => by
                  subst z
                  rw [hd] at g1
                  cases g1
                rw [upd_ne ne]
                exact g1
              | _ => cases e
          | _ => cases e
      | _ => cases e
    | _ => cases e
/-- what a dict's walk comes to under its lock -/
theorem ford_core {X : Cx} {G : Gam} {tg : Tg} {k : I} {i : Nat} {f : Option String} {b : List EW.S} {tb : TE} {wi : TI} {Wx : WX} (hp : PlaceR X i f tb)
    (hw : ∀ σ H R p od (kvs : List (D × D)) ks, (k = .items ∨ k = .range) → (∀ Q, Q (.ref p) (upd H p (.frz od (.dK ks))) → tb σ (upd H p (.frz od (.dK ks))) Q) → ks.length = kvs.length → (∀ J xs, rowsD k kvs = some xs → GoesD X.K J xs p od kvs ks → R J (upd H p (.frz od (.dK ks)))) → wi σ (upd H p (.frz od (.dK ks))) R) :
    ∀ D σ H, tS X (ex G (.ford tg k i f b)) (S.asgs (.ford tg k i f b)) Wx D σ H → tLock (tFor wi (gTg X.K tg) (tS X (exs G b) (S.asgss b) (fun _ _ _ _ => False))) D σ H := by
  rintro D σ H ⟨ρ, st, hR, h⟩
  simp only [ex] at h
  cases q1 : placeD st i f with
  | none =>
    rw [q1] at h
    exact h.elim
  | some v =>
    rw [q1] at h
    simp only at h
    obtain ⟨p, hv, hv1, hv2, hpl⟩ := hp ρ H st σ v hR q1
    cases q2 : rd st v with
    | none =>
      rw [q2] at h
      exact h.elim
    | some w =>
      rw [q2] at h
      cases w with
      | d d => exact h.elim
      | o ob =>
        cases ob with
        | dct t kvs =>
          cases t with
          | true => exact h.elim
          | false =>
            simp only at h
            obtain ⟨p', e, ks, hd, hkv⟩ := rd_sound hR hv q2
            cases e
            cases q3 : rowsD k kvs with
            | none =>
              rw [q3] at h
              exact h.elim
            | some xs =>
              rw [q3] at h
              cases q4 : change v lockO st with
              | none =>
                rw [q4] at h
                exact h.elim
              | some rs =>
                obtain ⟨r, st1⟩ := rs
                rw [q4] at h
                simp only at h
                split at h
                case isFalse => exact h.elim
                case isTrue hni =>
                have hni : i ∉ tg.vars ++ S.asgss b := by simpa using hni
                have hvs : S.asgs (.ford tg k i f b) = tg.vars ++ S.asgss b := by simp [S.asgs]
                rw [hvs] at h
                refine ⟨p, .dK ks, hd, trivial, fun od => ?_⟩
                have hk : k = .items ∨ k = .range := by cases k <;> first | exact .inl rfl | exact .inr rfl | cases q3
                refine hw σ H _ p od kvs ks hk (fun Q hq => hpl ks od Q hd hq) hkv.same_len fun J xs' e g => ?_
                rw [q3] at e
                cases e
                obtain ⟨p', x, y, e1, hx, hf, hpd, kk⟩ := change_res hR hv q4
                cases e1
                obtain ⟨kvs', rfl, rfl⟩ := lockO_of hf
                obtain ⟨ks', h1, h2⟩ := hx
                rw [hd] at h1
                cases h1
                have ps := upd_frz (od := od) hd
                obtain ⟨c1, c2⟩ := kk _ (fun b hb => upd_ne hb) ps ⟨od, ks, upd_same, h2.mono ps (List.prefix_refl _)⟩
                exact ford_loop hd hkv c1 hpd c2 (fun ρ' H' st' σ' a1 a2 => hv1 ρ' H' st' σ' a1 (a2 i hni)) hv2 g h
        | _ => exact h.elim
theorem noTakes {X : Cx} : Takes X (fun _ _ _ _ => False) := fun u s' ⟨_, _, _, _, _, _, _, _, _, _, _, _, _, _, _, _, w⟩ => w.elim
/-- for x in base -/
theorem ss_fordK {X : Cx} {G : Gam} {tg : Tg} {i : Nat} {f : Option String} {b : List EW.S} {eb0 etg : Expr} {tb : TE} {eb : List Stmt} {pos : Pos} (hc : X.calm = true) (hp : PlaceR X i f tb) (hb0 : PE X eb0 tb) (hs : ∀ x, foldedSetIterable eb0 X.env x = pure x) (hg : PG X etg (gTg X.K tg)) (hb : SSs X G b eb) :
    SS X G (.ford tg .range i f b) (.For etg eb0 eb [] pos) := fun Wx tk po =>
  PS.imp (ps_lock (ps_for po hc (pi_keys hb0) hg (hb _ noTakes po) hs)) (ford_core hp fun σ H R p od kvs ks hk hq hl hr => hq _ ⟨p, od, rfl, .inl ⟨ks, upd_same, hr (Itk p od ks) _ rfl (goes_itk hl)⟩⟩)
/-- for x, y in base.items() -/
theorem ss_fordI {X : Cx} {G : Gam} {tg : Tg} {i : Nat} {f : Option String} {b : List EW.S} {eb0 : Expr} {tb : TE} {elts : List Expr} {kk : Nat} {tpos apos cpos : Pos} {eb : List Stmt} {pos : Pos} (hc : X.calm = true) (hp : PlaceR X i f tb) (hb0 : PE X eb0 tb) (hbase : attributeBase eb0 "items" X.env (eval eb0 X.env) = eval eb0 X.env) (hl : (apos.endLine == cpos.line) = true) (hg : PG X (.Tuple elts kk tpos) (gTg X.K tg)) (hb : SSs X G b eb) :
    SS X G (.ford tg .items i f b) (.For (.Tuple elts kk tpos) (.Call (.Attribute eb0 "items" apos) [] [] cpos) eb [] pos) := fun Wx tk po =>
  PS.imp (ps_lock (ps_for po hc (pi_items hb0 hbase hl) hg (hb _ noTakes po) (fun _ => rfl))) (ford_core hp fun σ H R p od kvs ks hk hq hl hr => hq _ ⟨p, od, ks, rfl, upd_same, hr (Iti p od ks) _ rfl (goes_iti hl)⟩)
end EW

-- part: Sound15
set_option maxHeartbeats 4000000
/-! the check of statements, and that it is sound -/
namespace EW
open PySem PySem.Spec PyProof.Rows L2 RZ RT
def notComp : Expr → Bool
  | .ListComp _ _ _ _ => false
  | .SetComp _ _ _ _ => false
  | .DictComp _ _ _ _ _ => false
  | _ => true
theorem swaps_no {e : Expr} {t : Option Expr} {l : Nat} {env : Env} (h : notComp e = true) : swapsWith e t l env = pure false := by
  cases e <;> first | rfl | exact ff h
/-- name = [..] on one line -/
def swB (c : Ck) (t e : Expr) : Bool := match t, e with
  | .Name x p, .ListComp _ _ s p2 => c.sc.names.lookup x == some .local && p.line == p2.line && !(s.names.any fun (n, k) => n == x && (k == .local || k == .cell))
  | _, _ => false
def notTup : Expr → Expr → Bool
  | .Tuple _ _ _, .Tuple _ _ _ => false
  | .List _ _, .Tuple _ _ _ => false
  | _, _ => true
theorem swapped_no {t e : Expr} {env : Env} (h : notTup t e = true) : swappedStores [t] e env = pure none := by
  cases t <;> first | rfl | (cases e <;> first | rfl | exact ff h)
def lcOnly : Expr → Bool
  | .SetComp _ _ _ _ => false
  | .DictComp _ _ _ _ _ => false
  | _ => true
def notLck : E → Bool
  | .lck _ _ _ => false
  | _ => true
section
variable {X : Cx} {G : Gam} {c : Ck}
theorem swaps_is {x : Str} {p p2 : Pos} {elt : Expr} {gs : List Comprehension} {s : Scope} {l : Nat} (h : CtOk X c) (hk : c.sc.kind = .function) : swapsWith (.ListComp elt gs s p2) (some (.Name x p)) l X.env = pure (swB c (.Name x p) (.ListComp elt gs s p2)) := by
  have hb : X.env.blockKind = .function := by
    unfold Env.blockKind
    rw [h.sc, hk]
    rfl
  have e : X.env.kindOf x = c.sc.names.lookup x := by
    show X.env.scope.names.lookup x = _
    rw [h.sc]
  unfold swapsWith swB
  simp only [hb, e, Expr.pos]
  rfl
theorem ss_setLc {i : Nat} {elt cond src : E} {tg : Tg} {y : Str} {py : Pos} {eelt etg eiter : Expr} {ifs : List Expr} {scope : Scope} {own : List (Str × Nat)} {pos spos : Pos} (hc : X.calm = true) (hN : X.N.Nodup) (hy : X.N[i]? = some y) (hyl : X.env.scope.names.lookup y = some .local)
    (hsw : swapsWith (.ListComp eelt [⟨etg, eiter, ifs, 0⟩] scope pos) (some (.Name y py)) spos.line X.env = pure true) (hi : SI X G src etg eiter) (ok : BlkOk X.N X.env.scope scope own) (hv : own.map (·.2) = tg.vars)
    (hg : ∀ (s : Shared) (H : Hp) (C : Addr) (cl : List (Str × Addr)) (fp : List Addr), PG (X.blk s H scope (compEnvC scope cl C X.env) fp) etg (gTg X.K tg))
    (ht : ∀ (s : Shared) (H : Hp) (C : Addr) (cl : List (Str × Addr)) (fp : List Addr), (cond = .no ∧ ifs = []) ∨ (cond ≠ .no ∧ ∃ c, ifs = [c] ∧ ST (X.blk s H scope (compEnvC scope cl C X.env) fp) G cond c))
    (he : ∀ (s : Shared) (H : Hp) (C : Addr) (cl : List (Str × Addr)) (fp : List Addr), SE (X.blk s H scope (compEnvC scope cl C X.env) fp) G elt eelt) (hs : ∀ x, foldedSetIterable eiter X.env x = pure x) :
    SS X G (.asg (.v i) (.lc elt tg src cond)) (.Assign [.Name y py] (.ListComp eelt [⟨etg, eiter, ifs, 0⟩] scope pos) spos) := fun Wx tk po => by
  refine PS.imp (ps_setLc hc hN hy hyl hsw (hi Wx tk) ok hg (tt := tB X (lcTest G cond) W0) (te := tE X (ev G elt) W0) (fun s H C cl fp => ?_) (fun s H C cl fp => he s H C cl fp W0 takes_blk) hs) ?_
  · rcases ht s H C cl fp with ⟨rfl, rfl⟩ | ⟨hn, c, rfl, h⟩
    · refine PTs.imp pts_nil ?_
      rintro σ H Q ⟨ρ, st, hR, h⟩
      exact h H ρ (Step.refl hR)
    · have e : lcTest G cond = tst G cond := by
        funext s
        cases cond <;> first | rfl | exact absurd rfl hn
      rw [e]
      exact pts_one (h W0 takes_blk)
  · rw [hv]
    exact tS_asg (tg := .v i) fun σ H Q => tE_lc
end
/-- raise C(text) -/
def rseOk (c : Ck) (n : String) : Stmt → Bool
  | .Raise (some (.Call (.Name x _) [.Constant (.str _) _ _] [] _)) none _ => c.calm && (x == Str.ofString n) && c.glo x && !(x == ("__debug__" : Str)) && subOf c.gt.exs n n
  | _ => false
theorem rseOk_ok {c : Ck} {n : String} {s : Stmt} (h : rseOk c n s = true) : ∃ p m j p2 p1 pos, s = .Raise (some (.Call (.Name (Str.ofString n) p) [.Constant (.str m) j p2] [] p1)) none pos ∧ c.calm = true ∧ c.glo (Str.ofString n) = true ∧ (Str.ofString n == ("__debug__" : Str)) = false ∧ subOf c.gt.exs n n = true := by
  unfold rseOk at h
  split at h
  · simp only [Bool.and_eq_true, beq_iff_eq, Bool.not_eq_true'] at h
    obtain ⟨⟨⟨⟨h1, rfl⟩, h3⟩, h4⟩, h5⟩ := h
    exact ⟨_, _, _, _, _, _, rfl, h1, h3, h4, h5⟩
  · cases h
/-- except C as e: x = e -/
def trOk (c : Ck) (ts : List String) (i : Option Nat) (hb : List S) (hs : List ExceptHandler) (oe fb : List Stmt) : Bool := match ts, i, hb, hs, oe, fb with
  | [t], some i, [.asg (.v k) (.v i')], [.ExceptHandler (some (.Name x _)) (some n) [.Assign [.Name y _] (.Name n' _) _] _], [], [] =>
    (x == Str.ofString t) && c.glo x && !(x == ("__debug__" : Str)) && subOf c.gt.exs t t && (i == i') && !(i == k) && (n == n') && (c.N[i]? == some n) && (c.N[k]? == some y) && (c.sc.names.lookup n == some .local) && (c.sc.names.lookup y == some .local) && !(n == ("__debug__" : Str)) && !(n == ("__classdict__" : Str))
  | _, _, _, _, _, _ => false
theorem trOk_ok {c : Ck} {ts : List String} {i : Option Nat} {hb : List S} {hs : List ExceptHandler} {oe fb : List Stmt} (h : trOk c ts i hb hs oe fb = true) :
    ∃ t j k np n y q1 q2 q3 p, ts = [t] ∧ i = some j ∧ hb = [.asg (.v k) (.v j)] ∧ hs = [.ExceptHandler (some (.Name (Str.ofString t) np)) (some n) [.Assign [.Name y q1] (.Name n q2) q3] p] ∧ oe = [] ∧ fb = [] ∧
      c.glo (Str.ofString t) = true ∧ (Str.ofString t == ("__debug__" : Str)) = false ∧ subOf c.gt.exs t t = true ∧ j ≠ k ∧ (c.N[j]? == some n) = true ∧ (c.N[k]? == some y) = true ∧ c.sc.names.lookup n = some .local ∧ c.sc.names.lookup y = some .local ∧ (n == ("__debug__" : Str)) = false ∧ (n == ("__classdict__" : Str)) = false := by
  unfold trOk at h
  split at h
  · simp only [Bool.and_eq_true, beq_iff_eq, Bool.not_eq_true', beq_eq_false_iff_ne] at h
    obtain ⟨⟨⟨⟨⟨⟨⟨⟨⟨⟨⟨⟨rfl, h2⟩, h3⟩, h4⟩, rfl⟩, h6⟩, rfl⟩, h8⟩, h9⟩, h10⟩, h11⟩, h12⟩, h13⟩ := h
    exact ⟨_, _, _, _, _, _, _, _, _, _, rfl, rfl, rfl, rfl, rfl, rfl, h2, by simpa using h3, h4, h6, by rw [h8]; simp, by rw [h9]; simp, h10, h11, by simpa using h12, by simpa using h13⟩
  · cases h
/-- for x, y in name.items() -/
def itOk (c : Ck) (i : Nat) (etg eiter : Expr) (oe : List Stmt) : Bool := match etg, eiter, oe with
  | .Tuple _ _ _, .Call (.Attribute (.Name x _) m apos) [] [] cpos, [] => c.calm && (m == ("items" : Str)) && (apos.endLine == cpos.line) && (c.N[i]? == some x) && c.vis x && !(x == ("__debug__" : Str)) && !(x == ("__classdict__" : Str))
  | _, _, _ => false
theorem itOk_ok {c : Ck} {i : Nat} {etg eiter : Expr} {oe : List Stmt} (h : itOk c i etg eiter oe = true) : ∃ elts kk tpos x npos apos cpos, etg = .Tuple elts kk tpos ∧ eiter = .Call (.Attribute (.Name x npos) "items" apos) [] [] cpos ∧ oe = [] ∧ c.calm = true ∧ (apos.endLine == cpos.line) = true ∧ (c.N[i]? == some x) = true ∧ c.vis x = true ∧ (x == ("__debug__" : Str)) = false ∧ (x == ("__classdict__" : Str)) = false := by
  unfold itOk at h
  split at h
  · simp only [Bool.and_eq_true, Bool.not_eq_true'] at h
    obtain ⟨⟨⟨⟨⟨⟨h1, h2⟩, h3⟩, h4⟩, h5⟩, h6⟩, h7⟩ := h
    have h2 := eq_of_beq h2
    subst h2
    exact ⟨_, _, _, _, _, _, _, rfl, rfl, rfl, h1, h3, h4, h5, h6, h7⟩
  · cases h
/-- a dict's place: a name, an object's field -/
def plOk (c : Ck) (i : Nat) : Option String → Expr → Bool
  | none, e => lckN c i e
  | some f, .Attribute e at_ _ => (at_ == Str.ofString f) && lckN c i e
  | _, _ => false
def iterB : Expr → Option Expr
  | .Call (.Attribute e m apos) [] [] cpos => if ((m == ("items" : Str)) && (apos.endLine == cpos.line)) = true then some e else none
  | _ => none
def fordOk (c : Ck) (k : I) (i : Nat) (f : Option String) (etg eiter : Expr) : Bool := c.calm && match k with
  | .range => plOk c i f eiter
  | .items => isTupE etg && (match iterB eiter with | some e => plOk c i f e | none => false)
  | _ => false
theorem iterB_ok {e b : Expr} (h : iterB e = some b) : ∃ apos cpos, e = .Call (.Attribute b "items" apos) [] [] cpos ∧ (apos.endLine == cpos.line) = true := by
  unfold iterB at h
  split at h
  · split at h
    · rename_i hz
      cases h
      rw [Bool.and_eq_true] at hz
      have e := eq_of_beq hz.1
      subst e
      exact ⟨_, _, rfl, hz.2⟩
    · cases h
  · cases h
theorem plOk_ok {X : Cx} {c : Ck} (h : CtOk X c) {i : Nat} {f : Option String} {e : Expr} (q : plOk c i f e = true) : ∃ tb, PlaceR X i f tb ∧ PE X e tb ∧ (∀ x, foldedSetIterable e X.env x = pure x) ∧ ∀ m, attributeBase e m X.env (eval e X.env) = eval e X.env := by
  have var : ∀ {e : Expr}, lckN c i e = true → ∃ x p, e = .Name x p ∧ PE X e (tVar i) := fun {e} q => by
    obtain ⟨x, p, rfl, h1, h2, h3, h4⟩ := lckN_ok q
    exact ⟨x, p, rfl, pe_var (h.ix h1) (h.vis h2) h3 h4⟩
  cases f with
  | none =>
    obtain ⟨x, p, rfl, hv⟩ := var (show lckN c i e = true by cases e <;> exact q)
    exact ⟨_, place_var, hv, fun _ => rfl, fun _ => rfl⟩
  | some f =>
    cases e with
    | Attribute e at_ p =>
      obtain ⟨q1, q2⟩ := and2 q
      have e1 := eq_of_beq q1
      subst e1
      obtain ⟨x, p, rfl, hv⟩ := var q2
      exact ⟨_, place_fld, pe_fld hv rfl, fun _ => rfl, fun _ => rfl⟩
    | _ => exact ff q
theorem CtE.tr {X : Cx} {G : Gam} {c : Ck} {pn : List (Addr × Obj)} {xe : Value → Shared → Prop} (h : CtE X G c) : CtE (X.tr pn xe) G c where
  ok := ⟨h.ok.N, h.ok.nd, h.ok.sc, h.ok.fnc, h.ok.calm⟩
  deep := h.deep
  nob := h.nob
  cs := h.cs
  fns := h.fns
  sub := h.sub
  exF := h.exF
  cls := ⟨h.cls.fl, h.cls.mt, h.cls.nw, h.cls.up, h.cls.upo, h.cls.nov⟩
  clo := h.clo
theorem FrS.tr {X : Cx} {pn : List (Addr × Obj)} {xe : Value → Shared → Prop} (h : FrS X) : FrS (X.tr pn xe) := ⟨h.ex, h.st, h.fr⟩
mutual
def chkS (c : Ck) : S → Stmt → Bool
  | .pass, .Pass _ => true
  | .cont, .Continue _ => true
  | .asg tg m, .Assign [t] e _ => c.calm && (c.sc.kind == .function) && noStar t && (lcOnly e && notLck m) && notTup t e && chkT c tg t && chk c false m e
  | .ex m, .Expr e _ => notComp e && chk c false m e
  | .ret m, .Return (some e) _ => chk c false m e
  | .ret (.k .non), .Return none _ => true
  | .ife t a b, .If et ea eb _ => chk c false t et && chkSs c a ea && chkSs c b eb
  | .whl t b, .While et eb [] _ => chk c false t et && chkSs c b eb
  | .aug i op m, .AugAssign (.Name x _) op' e _ => (c.N[i]? == some x) && c.loc x && (op == op') && (op == .Add || op == .Sub) && chk c false m e
  | .rse n, s => rseOk c n s
  | .tr b ts i hb, .Try eb hs oe fb _ => chkSs c b eb && trOk c ts i hb hs oe fb
  | .fori tg i b, .For etg eiter eb oe _ => itOk c i etg eiter oe && chkT c tg etg && chkSs c b eb
  | .ford tg k i f b, .For etg eiter eb [] _ => fordOk c k i f etg eiter && chkT c tg etg && chkSs c b eb
  | .fld o f m, .Assign [.Attribute eo at_ _] e _ => (at_ == Str.ofString f) && notCall0 eo && notComp e && chk c false o eo && chk c false m e
  | .sub o i m, .Assign [.Subscript eo ei _] e _ => notComp e && PlainIxB ei && chk c false o eo && chk c false i ei && chk c false m e
  | .for_ tg src b, .For etg eiter eb [] _ => c.calm && chk c true src eiter && tgOk src etg && chkT c tg etg && notSet eiter && chkSs c b eb
  | _, _ => false
def chkSs (c : Ck) : List S → List Stmt → Bool
  | [], [] => true
  | m :: ms, s :: ss => chkS c m s && chkSs c ms ss
  | _, _ => false
end
section
variable {X : Cx} {G : Gam} {c : Ck}
theorem asg_one {t : Expr} {env : Env} (h : noStar t = true) : (assignEach [t] env).map (·.2) = [assign t env] := by
  rw [asg_cons h]
  rfl
theorem chkA_ok {tg : Tg} {m : E} {t e : Expr} {pos : Pos} (h : CtE X G c) (q : (c.calm && (c.sc.kind == .function) && noStar t && (lcOnly e && notLck m) && notTup t e && chkT c tg t && chk c false m e) = true) : SS X G (.asg tg m) (.Assign [t] e pos) := by
  obtain ⟨q, q7⟩ := and2 q
  obtain ⟨q, q6⟩ := and2 q
  obtain ⟨q, q5⟩ := and2 q
  obtain ⟨q, q4⟩ := and2 q
  obtain ⟨q, q3⟩ := and2 q
  obtain ⟨q1, q2⟩ := and2 q
  have hk := eq_of_beq q2
  have hc := h.ok.calm q1
  have hg := chkT_ok h.ok hc tg t q6
  have hm := ((chk_ok m h q7).x (nit q7)).se
  have plain : swapsWith e (some t) pos.line X.env = pure false → SS X G (.asg tg m) (.Assign [t] e pos) := fun z =>
    ss_asg hm hg z (swapped_no q5) (asg_one q3)
  cases z : notComp e with
  | true => exact plain (swaps_no z)
  | false =>
    cases e with
    | ListComp eelt gens scope p2 =>
      cases t with
      | Name x p =>
        cases z2 : swB c (.Name x p) (.ListComp eelt gens scope p2) with
        | false => exact plain (by rw [swaps_is h.ok hk, z2])
        | true =>
          cases m with
          | lc elt tg2 src cond =>
            match gens, q7, z2 with
            | [], q, _ => exact ff q
            | ⟨_, _, _, _⟩ :: _ :: _, q, _ => exact ff q
            | [⟨etg, eiter, ifs, k⟩], q, z2 =>
              have hsw := swaps_is (p := p) (p2 := p2) (elt := eelt) (gs := [⟨etg, eiter, ifs, k⟩]) (s := scope) (x := x) (l := pos.line) h.ok hk
              rw [z2] at hsw
              obtain ⟨q, q8⟩ := and2 q
              obtain ⟨q, d7⟩ := and2 q
              obtain ⟨q, d6⟩ := and2 q
              obtain ⟨q, d5⟩ := and2 q
              obtain ⟨q, d4⟩ := and2 q
              obtain ⟨q, d3'⟩ := and2 q
              obtain ⟨q, d3⟩ := and2 q
              obtain ⟨q1, q2⟩ := and2 q
              have ek := eq_of_beq q2
              subst ek
              have hi : SI X G src etg eiter := (chk_ok src h d3).i etg d3'
              cases tg with
              | v i =>
                obtain ⟨b1, b2⟩ := and2 (show ((c.N[i]? == some x) && c.loc x) = true from q6)
                have hl : X.env.scope.names.lookup x = some .local := by
                  rw [h.ok.sc]
                  unfold swB at z2
                  simp only [Bool.and_eq_true, beq_iff_eq] at z2
                  exact z2.1.1
                refine ss_setLc hc h.ok.nd (h.ok.ix b1) hl hsw hi (own := ownOf c.N tg2.vars) ?_ ownOf_snd (fun s H C cl fp => chkT_ok h.blk.ok hc tg2 etg d6) (fun s H C cl fp => ?_) (fun s H C cl fp => ((chk_ok elt h.blk d7).x (nit d7)).se) (notSet_ok d4)
                · have b := blkB_ok d5
                  rw [← h.ok.N, ← h.ok.sc] at b
                  rw [h.ok.N] at b ⊢
                  exact b
                · match ifs, q8 with
                  | [], q8 => exact .inl ⟨isNo_eq q8, rfl⟩
                  | [ec], q8 =>
                    obtain ⟨b1, b2⟩ := and2 q8
                    exact .inr ⟨isNo_ne b1, ec, rfl, ((chk_ok cond h.blk b2).x (nit b2)).st⟩
                  | _ :: _ :: _, q8 => exact ff q8
              | tup ts => exact ff q6
          | lck elt tg i => exact ff q4
          | _ => exact ff q7
      | _ => exact plain rfl
    | SetComp a b d e => exact ff q4
    | DictComp a b d e f => exact ff q4
    | _ => exact ff z.symm
mutual
theorem chkS_ok : ∀ (m : S) {X : Cx} {G : Gam} {c : Ck} {s : Stmt}, FrS X → CtE X G c → chkS c m s = true → SS X G m s
  | .pass, X, G, c, s, fr, h, q => by
    cases s with
    | Pass p => exact ss_pass
    | _ => exact ff q
  | .cont, X, G, c, s, fr, h, q => by
    cases s with
    | Continue p => exact ss_cont
    | _ => exact ff q
  | .asg tg m, X, G, c, s, fr, h, q => by
    cases s with
    | Assign ts e p =>
      match ts, q with
      | [], q => exact ff q
      | [t], q => exact chkA_ok h q
      | _ :: _ :: _, q => exact ff q
    | _ => exact ff q
  | .ex m, X, G, c, s, fr, h, q => by
    cases s with
    | Expr e p =>
      obtain ⟨q1, q2⟩ := and2 q
      exact ss_ex ((chk_ok m h q2).x (nit q2)).se (swaps_no q1)
    | _ => exact ff q
  | .ret m, X, G, c, s, fr, h, q => by
    cases s with
    | Return e p =>
      cases e with
      | some e =>
        have q' : chk c false m e = true := by
          cases m <;> first | exact q | (rename_i d; cases d <;> exact q)
        exact ss_ret ((chk_ok m h q').x (nit q')).se
      | none =>
        cases m with
        | k d =>
          cases d with
          | non => exact ss_retN
          | _ => exact ff q
        | _ => exact ff q
    | _ => exact ff q
  | .ife t a b, X, G, c, s, fr, h, q => by
    cases s with
    | If et ea eb p =>
      obtain ⟨q, q3⟩ := and2 q
      obtain ⟨q1, q2⟩ := and2 q
      exact ss_ife ((chk_ok t h q1).x (nit q1)).st (chkSs_ok a fr h q2) (chkSs_ok b fr h q3)
    | _ => exact ff q
  | .whl t b, X, G, c, s, fr, h, q => by
    cases s with
    | While et eb orelse p =>
      cases orelse with
      | nil =>
        obtain ⟨q1, q2⟩ := and2 q
        exact ss_whl ((chk_ok t h q1).x (nit q1)).st (chkSs_ok b fr h q2)
      | cons o os => exact ff q
    | _ => exact ff q
  | .for_ tg src b, X, G, c, s, fr, h, q => by
    cases s with
    | For etg eiter eb orelse p =>
      cases orelse with
      | nil =>
        obtain ⟨q, q6⟩ := and2 q
        obtain ⟨q, q5⟩ := and2 q
        obtain ⟨q, q4⟩ := and2 q
        obtain ⟨q, q3⟩ := and2 q
        obtain ⟨q1, q2⟩ := and2 q
        have hc := h.ok.calm q1
        exact ss_for hc ((chk_ok src h q2).i etg q3) (chkT_ok h.ok hc tg etg q4) (chkSs_ok b fr h q6) (notSet_ok q5)
      | cons o os => exact ff q
    | _ => exact ff q
  | .sub o i m, X, G, c, s, fr, h, q => by
    cases s with
    | Assign ts e p =>
      match ts, q with
      | [], q => exact ff q
      | [t], q =>
        cases t with
        | Subscript eo ei p2 =>
          obtain ⟨q, q5⟩ := and2 q
          obtain ⟨q, q4⟩ := and2 q
          obtain ⟨q, q3⟩ := and2 q
          obtain ⟨q1, q2⟩ := and2 q
          exact ss_sub h.deep ((chk_ok o h q3).x (nit q3)).se ((chk_ok i h q4).x (nit q4)).se ((chk_ok m h q5).x (nit q5)).se q2 (show swapsWith e (some (.Subscript eo ei p2)) p.line X.env = pure false from swaps_no q1)
        | _ => exact ff q
      | t :: _ :: _, q => cases t <;> exact ff q
    | _ => exact ff q
  | .fld o f m, X, G, c, s, fr, h, q => by
    cases s with
    | Assign ts e p =>
      match ts, q with
      | [], q => exact ff q
      | [t], q =>
        cases t with
        | Attribute eo at_ p2 =>
          obtain ⟨q, q5⟩ := and2 q
          obtain ⟨q, q4⟩ := and2 q
          obtain ⟨q, q3⟩ := and2 q
          obtain ⟨q1, q2⟩ := and2 q
          have e1 := eq_of_beq q1
          subst e1
          exact ss_fld h.cls q2 ((chk_ok o h q4).x (nit q4)).se ((chk_ok m h q5).x (nit q5)).se (swaps_no q3)
        | _ => exact ff q
      | t :: _ :: _, q => cases t <;> exact ff q
    | _ => exact ff q
  | .ford tg k i f b, X, G, c, s, fr, h, q => by
    cases s with
    | For etg eiter eb orelse p =>
      cases orelse with
      | nil =>
        obtain ⟨q, q3⟩ := and2 q
        obtain ⟨q, q2⟩ := and2 q
        obtain ⟨q0, q1⟩ := and2 q
        have hc := h.ok.calm q0
        have hg := chkT_ok h.ok hc tg etg q2
        have hb := chkSs_ok b fr h q3
        cases k with
        | range =>
          obtain ⟨tb, g1, g2, g3, g4⟩ := plOk_ok h.ok q1
          exact ss_fordK hc g1 g2 g3 hg hb
        | items =>
          obtain ⟨q4, q5⟩ := and2 q1
          cases z : iterB eiter with
          | none =>
            rw [z] at q5
            exact ff q5
          | some e =>
            rw [z] at q5
            obtain ⟨apos, cpos, rfl, gl⟩ := iterB_ok z
            obtain ⟨tb, g1, g2, g3, g4⟩ := plOk_ok h.ok q5
            cases etg with
            | Tuple elts kk tpos => exact ss_fordI hc g1 g2 (g4 _) gl hg hb
            | _ => exact ff q4
        | _ => exact ff q1
      | cons o os => exact ff q
    | _ => exact ff q
  | .aug i op m, X, G, c, s, fr, h, q => by
    cases s with
    | AugAssign t op' e p =>
      cases t with
      | Name x p2 =>
        obtain ⟨q, q5⟩ := and2 q
        obtain ⟨q, q4⟩ := and2 q
        obtain ⟨q, q3⟩ := and2 q
        obtain ⟨q1, q2⟩ := and2 q
        have eo := eq_of_beq q3
        subst eo
        obtain ⟨l1, l2⟩ := h.ok.loc q2
        exact ss_aug h.ok.nd (h.ok.ix q1) l1 l2 q4 ((chk_ok m h q5).x (nit q5)).se
      | _ => exact ff q
    | _ => exact ff q
  | .rse e, X, G, c, s, fr, h, q => by
    obtain ⟨p, m, j, p2, p1, pos, rfl, g1, g2, g3, g4⟩ := rseOk_ok (show rseOk c e s = true from q)
    exact ss_rse (h.ok.calm g1) (h.exF.one e (by rw [h.sub]; exact g4)) (h.ok.glo g2) g3
  | .tr b ts i hb, X, G, c, s, fr, h, q => by
    cases s with
    | Try eb hs oe fb pos =>
      obtain ⟨q1, q2⟩ := and2 q
      obtain ⟨t, j, k, np, n, y, p1, p2, p3, p4, rfl, rfl, rfl, rfl, rfl, rfl, g1, g2, g3, g4, g5, g6, g7, g8, g9, g10⟩ := trOk_ok q2
      have kn : ∀ z, c.sc.names.lookup z = some .local → X.env.kindOf z = some .local := fun z e => by
        show X.env.scope.names.lookup z = _
        rw [h.ok.sc]
        exact e
      exact ss_try h.exF fr (by rw [h.sub]; exact g3) (h.ok.glo g1) g2 h.ok.nd (h.ok.ix g5) (h.ok.ix g6) g4 (kn n g7) (kn y g8) g9 g10 fun pn xe => chkSs_ok b fr.tr h.tr q1
    | _ => exact ff q
  | .fori tg i b, X, G, c, s, fr, h, q => by
    cases s with
    | For etg eiter eb oe pos =>
      obtain ⟨q, q3⟩ := and2 q
      obtain ⟨q1, q2⟩ := and2 q
      obtain ⟨elts, kk, tpos, x, npos, apos, cpos, rfl, rfl, rfl, g1, g2, g3, g4, g5, g6⟩ := itOk_ok q1
      have hc := h.ok.calm g1
      exact ss_fori hc (h.ok.ix g3) (h.ok.vis g4) g5 g6 g2 (chkT_ok h.ok hc tg _ q2) (chkSs_ok b fr h q3)
    | _ => exact ff q
theorem chkSs_ok : ∀ (ms : List S) {X : Cx} {G : Gam} {c : Ck} {ss : List Stmt}, FrS X → CtE X G c → chkSs c ms ss = true → SSs X G ms ss
  | [], X, G, c, ss, fr, h, q => by
    cases ss with
    | nil => exact sss_nil
    | cons s ss => exact ff q
  | m :: ms, X, G, c, ss, fr, h, q => by
    cases ss with
    | nil => exact ff q
    | cons s ss =>
      obtain ⟨q1, q2⟩ := and2 q
      exact sss_cons (chkS_ok m fr h q1) (chkSs_ok ms fr h q2)
end
end
end EW

-- part: Sound16
set_option maxHeartbeats 4000000
/-! defs -/
namespace EW
open PySem PySem.Spec PyProof.Rows L2
section
variable {K : PySem.W.Frag} {ρ ρ' : List Addr} {H H' : Hp}
/-- the refs of a datum that stood ahead stand behind as they stood -/
theorem pre_lt {i : Nat} {a : Addr} (hp : ρ <+: ρ') (h : ρ'[i]? = some a) (hi : i < ρ.length) : ρ[i]? = some a := by
  obtain ⟨t, rfl⟩ := hp
  rw [List.getElem?_append_left hi] at h
  exact h
mutual
theorem VR.down (hp : ρ <+: ρ') : ∀ (d : D) (v : V), d.lt ρ.length = true → VR K ρ' H' d v → VR K ρ H' d v
  | .non, v, _, h => h
  | .bl b, v, _, h => h
  | .int i, v, _, h => h
  | .str x, v, _, h => h
  | .tup ds, v, l, h => by
    obtain ⟨a, vs, e, hs, hr⟩ := h
    exact ⟨a, vs, e, hs, VRs.down hp ds vs (by simpa [D.lt] using l) hr⟩
  | .ref i, v, l, h => by
    obtain ⟨a, e, h⟩ := h
    exact ⟨a, pre_lt hp e (by simpa [D.lt] using l), h⟩
  | .fz ds, v, l, h => by
    obtain ⟨a, vs, e, hs, hr⟩ := h
    exact ⟨a, vs, e, hs, VRs.down hp ds vs (by simpa [D.lt] using l) hr⟩
  | .exn c, v, _, h => h
theorem VRs.down (hp : ρ <+: ρ') : ∀ (ds : List D) (vs : List V), D.lts ρ.length ds = true → VRs K ρ' H' ds vs → VRs K ρ H' ds vs
  | [], vs, _, h => h
  | d :: ds, vs, l, h => by
    obtain ⟨v, r, e, h1, h2⟩ := h
    have l' : d.lt ρ.length = true ∧ D.lts ρ.length ds = true := by simpa [D.lts] using l
    exact ⟨v, r, e, VR.down hp d v l'.1 h1, VRs.down hp ds r l'.2 h2⟩
end
mutual
theorem VR.islt : ∀ (d : D) (v : V), VR K ρ H d v → d.lt ρ.length = true
  | .non, v, h => rfl
  | .bl b, v, h => rfl
  | .int i, v, h => rfl
  | .str x, v, h => rfl
  | .tup ds, v, h => by
    obtain ⟨a, vs, e, hs, hr⟩ := h
    simpa [D.lt] using VRs.islt ds vs hr
  | .ref i, v, h => by
    obtain ⟨a, e, h⟩ := h
    simpa [D.lt] using (List.getElem?_eq_some_iff.mp e).1
  | .fz ds, v, h => by
    obtain ⟨a, vs, e, hs, hr⟩ := h
    simpa [D.lt] using VRs.islt ds vs hr
  | .exn c, v, h => rfl
theorem VRs.islt : ∀ (ds : List D) (vs : List V), VRs K ρ H ds vs → D.lts ρ.length ds = true
  | [], vs, h => rfl
  | d :: ds, vs, h => by
    obtain ⟨v, r, e, h1, h2⟩ := h
    simp [D.lts, VR.islt d v h1, VRs.islt ds r h2]
end
theorem fkey_lt {d : D} {k : Int ⊕ Str} {n : Nat} (h : fkey d = some k) : d.lt n = true := by
  cases d <;> first | rfl | cases h
theorem fkeys_lt {n : Nat} : ∀ {ds : List D} {ks : List (Int ⊕ Str)}, fkeys ds = some ks → D.lts n ds = true
  | [], ks, h => rfl
  | d :: ds, ks, h => by
    simp only [fkeys] at h
    split at h
    · rename_i h1 h2
      simp [D.lts, fkey_lt h1, fkeys_lt h2]
    · cases h
theorem tkey_lt {d : D} {k : List (Int ⊕ Str)} {n : Nat} (h : tkey d = some k) : d.lt n = true := by
  cases d with
  | tup ds => simpa [D.lt] using fkeys_lt (n := n) (show fkeys ds = some k from h)
  | _ => cases h
theorem KVs.down {κ : Type} {f : D → Option κ} (hp : ρ <+: ρ') : ∀ {kvs : List (D × D)} {ks : List (κ × V)}, (∀ a b, (a, b) ∈ kvs → a.lt ρ.length = true ∧ b.lt ρ.length = true) → KVs K ρ' H' f kvs ks → KVs K ρ H' f kvs ks
  | [], ks, _, h => h
  | q :: r, ks, l, h => by
    obtain ⟨k, v, t, e, h1, h2, h3⟩ := h
    exact ⟨k, v, t, e, h1, h2.down hp q.2 v (l q.1 q.2 (by simp)).2, KVs.down hp (fun a b m => l a b (by simp [m])) h3⟩
theorem KVs.islt {κ : Type} {f : D → Option κ} (hf : ∀ d k, f d = some k → d.lt ρ.length = true) : ∀ {kvs : List (D × D)} {ks : List (κ × V)}, KVs K ρ H f kvs ks → ∀ a b, (a, b) ∈ kvs → a.lt ρ.length = true ∧ b.lt ρ.length = true
  | [], ks, h, a, b, m => by simp at m
  | q :: r, ks, h, a, b, m => by
    obtain ⟨k, v, t, e, h1, h2, h3⟩ := h
    rcases List.mem_cons.mp m with z | z
    · rw [← z] at h1 h2
      exact ⟨hf _ _ h1, h2.islt b v⟩
    · exact KVs.islt hf h3 a b z
theorem FVs.down (hp : ρ <+: ρ') : ∀ {fs : List (String × D)} {vs : List (Str × V)}, (∀ a b, (a, b) ∈ fs → b.lt ρ.length = true) → FVs K ρ' H' fs vs → FVs K ρ H' fs vs
  | [], vs, _, h => h
  | q :: r, vs, l, h => by
    obtain ⟨v, t, e, h2, h3⟩ := h
    exact ⟨v, t, e, VR.down hp q.2 v (l q.1 q.2 (by simp)) h2, FVs.down hp (fun a b m => l a b (by simp [m])) h3⟩
theorem FVs.islt : ∀ {fs : List (String × D)} {vs : List (Str × V)}, FVs K ρ H fs vs → ∀ a b, (a, b) ∈ fs → b.lt ρ.length = true
  | [], vs, h, a, b, m => by simp at m
  | q :: r, vs, h, a, b, m => by
    obtain ⟨v, t, e, h2, h3⟩ := h
    rcases List.mem_cons.mp m with z | z
    · rw [← z] at h2
      exact VR.islt b v h2
    · exact FVs.islt h3 a b z
theorem OR.down {p : Addr} {x : O} (hp : ρ <+: ρ') (l : x.lt ρ.length = true) (h : OR K ρ' H' p x) : OR K ρ H' p x := by
  cases x with
  | lst ds =>
    obtain ⟨vs, h1, h2⟩ := h
    exact ⟨vs, h1, h2.down hp ds vs (by simpa [O.lt] using l)⟩
  | dct t kvs =>
    cases t with
    | false =>
      obtain ⟨ks, h1, h2⟩ := h
      exact ⟨ks, h1, h2.down hp (by simpa [O.lt] using l)⟩
    | true =>
      obtain ⟨ks, h1, h2⟩ := h
      exact ⟨ks, h1, h2.down hp (by simpa [O.lt] using l)⟩
  | ins c fs =>
    obtain ⟨dx, vs, h1, h2, h3⟩ := h
    exact ⟨dx, vs, h1, FVs.down hp (by simpa [O.lt] using l) h2, h3⟩
  | lkd kvs =>
    obtain ⟨o, ks, h1, h2⟩ := h
    exact ⟨o, ks, h1, h2.down hp (by simpa [O.lt] using l)⟩
theorem OR.islt {p : Addr} {x : O} (h : OR K ρ H p x) : x.lt ρ.length = true := by
  cases x with
  | lst ds =>
    obtain ⟨vs, h1, h2⟩ := h
    simpa [O.lt] using h2.islt ds vs
  | dct t kvs =>
    cases t with
    | false =>
      obtain ⟨ks, h1, h2⟩ := h
      simpa [O.lt] using h2.islt fun _ _ => fkey_lt
    | true =>
      obtain ⟨ks, h1, h2⟩ := h
      simpa [O.lt] using h2.islt fun _ _ => tkey_lt
  | ins c fs =>
    obtain ⟨dx, vs, h1, h2, h3⟩ := h
    simpa [O.lt] using FVs.islt h2
  | lkd kvs =>
    obtain ⟨o, ks, h1, h2⟩ := h
    simpa [O.lt] using h2.islt fun _ _ => fkey_lt
/-- what stands at the entry of a body -/
theorem start_res {ds : List D} {vs : List V} {N : List Str} {h : List O} (hr : HR K ρ H h) (hv : VRs K ρ H ds vs) (hl : ds.length ≤ N.length) : Res K ρ H ⟨startS N.length ds, h⟩ (start N vs) := by
  have l := hv.length
  refine ⟨hr, ?_, fun i s e => ?_, fun i j x y p hij h1 => ?_⟩
  · simp [L2.start, startS, l]
  · have e : (ds.map Sl.d ++ List.replicate (N.length - ds.length) Sl.un)[i]? = some s := e
    by_cases hi : i < ds.length
    · rw [List.getElem?_append_left (by simpa using hi), List.getElem?_map, List.getElem?_eq_getElem hi] at e
      cases e
      obtain ⟨v, e1, h1⟩ := hv.get (List.getElem?_eq_getElem hi)
      refine ⟨v, ?_, h1⟩
      show (vs.map some ++ List.replicate (N.length - vs.length) none)[i]? = _
      rw [List.getElem?_append_left (by simpa [l] using hi), List.getElem?_map, e1]
      rfl
    · rw [List.getElem?_append_right (by simpa using Nat.le_of_not_lt hi), List.getElem?_replicate] at e
      split at e
      · cases e
        trivial
      · cases e
  · have e : (ds.map Sl.d ++ List.replicate (N.length - ds.length) Sl.un)[i]? = some (.o x) := h1
    by_cases hi : i < ds.length
    · rw [List.getElem?_append_left (by simpa using hi), List.getElem?_map, List.getElem?_eq_getElem hi] at e
      cases e
    · rw [List.getElem?_append_right (by simpa using Nat.le_of_not_lt hi), List.getElem?_replicate] at e
      split at e <;> cases e
theorem start_dom {ds : List D} {vs : List V} {n : Nat} {N : List Str} {h : List O} {a : Addr} (d : Dom ⟨startS n ds, h⟩ (start N vs) ρ a) : a ∈ ρ := by
  rcases d with d | ⟨i, x, h1, h2⟩
  · exact d
  · have e : (ds.map Sl.d ++ List.replicate (n - ds.length) Sl.un)[i]? = some (.o x) := h1
    by_cases hi : i < ds.length
    · rw [List.getElem?_append_left (by simpa using hi), List.getElem?_map, List.getElem?_eq_getElem hi] at e
      cases e
    · rw [List.getElem?_append_right (by simpa using Nat.le_of_not_lt hi), List.getElem?_replicate] at e
      split at e <;> cases e
theorem Step.h {st st' : St} {σ σ' : L2.St} (s : Step K ρ H st σ ρ' H' st' σ') (hd : ∀ a, Dom st σ ρ a → a ∈ ρ) : HStep K ρ H ρ' H' st'.h :=
  ⟨s.res.hr, s.pre, fun a o e n => s.frame a o e fun d => n (hd a d), fun a ha => (s.grow a (.inl ha)).imp (hd a) id, s.frz⟩
theorem HStep.rc {st st' : St} {σ σ' : L2.St} {r : EV} {v : V} (s : Step K ρ H st σ ρ' H' st' σ') (hd : ∀ a, Dom st σ ρ a → a ∈ ρ) (h : RetR K ρ H st σ ρ' H' r v) : RC K H ρ' H' r v := by
  cases r with
  | d x => exact h
  | o x =>
    obtain ⟨p, e, h1, n, h2⟩ := h
    refine ⟨p, e, h1, n, ?_⟩
    rcases h2 with z | z
    · exact z
    · exact (n (List.IsPrefix.subset s.pre (hd p z))).elim
  | pl i => exact h
  | it k vs => exact h
/-- the heap is as it was -/
theorem HStep.gc {h h' : List O} (hr : HR K ρ H h) (s : HStep K ρ H ρ' H' h') (e : h'.take h.length = h) : HStep K ρ H ρ H' h := by
  refine ⟨⟨hr.len, hr.nd, fun i p x h1 h2 => ?_⟩, List.prefix_refl _, s.frame, fun a ha => .inl ha, s.frz⟩
  have h3 : h'[i]? = some x := by
    have hi : i < h.length := (List.getElem?_eq_some_iff.mp h2).1
    rw [← e, List.getElem?_take] at h2
    rw [if_pos hi] at h2
    exact h2
  have h4 := s.hr.obj i p x (pre_get s.pre h1) h3
  exact OR.down s.pre (hr.obj i p x h1 h2).islt h4
theorem ite_or {α : Type} {c : Prop} [Decidable c] {a b r : α} (e : (if c then a else b) = r) : (c ∧ a = r) ∨ (¬c ∧ b = r) := by
  by_cases h : c
  · rw [if_pos h] at e
    exact .inl ⟨h, e⟩
  · rw [if_neg h] at e
    exact .inr ⟨h, e⟩
open Classical in
/-- gc tells no more than was -/
theorem gc_ok {h h' : List O} {r r2 : EV} {h2 : List O} {v : V} (hr : HR K ρ H h) (s : HStep K ρ H ρ' H' h') (c : RC K H ρ' H' r v) (e : EW.gc h (.ok r h') = .ok r2 h2) : ∃ ρ2, HStep K ρ H ρ2 H' h2 ∧ RC K H ρ2 H' r2 v := by
  unfold EW.gc at e
  have same : OutC.ok r h' = .ok r2 h2 → ∃ ρ2, HStep K ρ H ρ2 H' h2 ∧ RC K H ρ2 H' r2 v := fun z => by
    cases z
    exact ⟨ρ', s, c⟩
  by_cases ht : h'.take h.length = h
  · have s0 := s.gc hr ht
    rw [← hr.len] at e
    simp only at e
    rw [if_pos (by rw [hr.len]; exact ht)] at e
    cases r with
    | d x =>
      have plain : x.lt ρ.length = true → OutC.ok (.d x) h = .ok r2 h2 → ∃ ρ2, HStep K ρ H ρ2 H' h2 ∧ RC K H ρ2 H' r2 v := fun l z => by
        cases z
        exact ⟨ρ, s0, VR.down s.pre x v l c⟩
      cases x with
      | ref i =>
        simp only at e
        rcases ite_or e with ⟨hi, e⟩ | ⟨hi, e⟩
        · exact plain (by simpa [D.lt] using hi) e
        · cases hx : h'[i]? with
          | none =>
            rw [hx] at e
            exact same e
          | some x =>
            rw [hx] at e
            simp only at e
            rcases ite_or e with ⟨hl, e⟩ | ⟨hl, e⟩
            · cases e
              obtain ⟨p, hp, rfl⟩ := c
              have ho := s.hr.obj i p x hp hx
              have np : p ∉ ρ := fun z => by
                obtain ⟨j, hj, ej⟩ := List.mem_iff_getElem.mp z
                have e1 : ρ'[j]? = some p := pre_get s.pre (by rw [List.getElem?_eq_getElem hj, ej])
                have e2 := (List.getElem?_inj (List.getElem?_eq_some_iff.mp e1).1 s.hr.nd).mp (e1.trans hp.symm)
                omega
              refine ⟨ρ, s0, p, rfl, OR.down s.pre hl ho, np, ?_⟩
              rcases s.grow p (List.mem_of_getElem? hp) with z | z
              · exact (np z).elim
              · exact z
            · exact same e
      | _ =>
        simp only [EV.lt] at e
        rcases ite_or e with ⟨hl, e⟩ | ⟨hl, e⟩
        · exact plain hl e
        · exact same e
    | o x =>
      simp only [EV.lt] at e
      rcases ite_or e with ⟨hl, e⟩ | ⟨hl, e⟩
      · cases e
        obtain ⟨p, e1, h1, n, h3⟩ := c
        exact ⟨ρ, s0, p, e1, OR.down s.pre hl h1, fun z => n (List.IsPrefix.subset s.pre z), h3⟩
      · exact same e
    | pl i => exact c.elim
    | it k vs => exact c.elim
  · simp only at e
    rw [if_neg ht] at e
    exact same e
open Classical in
theorem gc_ex {h h' : List O} {c c2 : String} {h2 : List O} (hr : HR K ρ H h) (s : HStep K ρ H ρ' H' h') (e : EW.gc h (.ex c h') = .ex c2 h2) : c2 = c ∧ ∃ ρ2, HStep K ρ H ρ2 H' h2 := by
  unfold EW.gc at e
  simp only at e
  by_cases ht : h'.take h.length = h
  · rw [if_pos ht] at e
    cases e
    exact ⟨rfl, ρ, s.gc hr ht⟩
  · rw [if_neg ht] at e
    cases e
    exact ⟨rfl, ρ', s⟩
end

/-! ### a program -/
def fnScB (N P : List Str) (sc : Scope) : Bool :=
  (sc.kind == .function) && !sc.isCoroutine && !sc.isGenerator && decide N.Nodup && (N.take P.length == P) && (P.all fun x => sc.names.lookup x == some .local || sc.names.lookup x == some .cell) && (sc.names.all fun y => !(y.2 == .free))
theorem fnScB_ok {N P : List Str} {sc : Scope} (h : fnScB N P sc = true) : FnScope N P sc := by
  unfold fnScB at h
  simp only [Bool.and_eq_true, beq_iff_eq, Bool.not_eq_true', decide_eq_true_eq, List.all_eq_true, Bool.or_eq_true, beq_eq_false_iff_ne] at h
  obtain ⟨⟨⟨⟨⟨⟨h1, h2⟩, h3⟩, h4⟩, h5⟩, h6⟩, h7⟩ := h
  exact ⟨h1, h2, h3, h4, h5, h6, h7⟩
def ckOf (gt : Gt) (N : List Str) (sc : Scope) : Ck := ⟨N, sc, fun _ => true, true, gt⟩
/-- a def of Mini is that of the program -/
structure FnIs (K : PySem.W.Frag) (mg : Str → Option Value) (gt : Gt) (fdm : Fd) (fa : Addr) (fd : FuncData) (ps : List Str) : Prop where
  ex : ∃ (N : List Str) (scope : Scope) (params : Arguments) (body : List Stmt) (qual x : Str) (dvs : List V), FunD K x qual params body scope dvs [] fa fd ∧ fnScB N ps scope = true ∧ chkSs (ckOf gt N scope) fdm.body body = true ∧ N.length = fdm.n
  len : ps.length = fdm.ps
  bind : ∀ j, j ≤ fdm.dfl.length → ∃ (dvs : List V) (us : List Value), Vals dvs us ∧ Binds K fd ps us ∧ ∀ ρ H, VRs K ρ H (fdm.dfl.drop j) dvs
structure Prg (K : PySem.W.Frag) (mg : Str → Option Value) (T : Tab) (gt : Gt) : Prop where
  nob : Nob mg
  cs : ∀ n d, gt.cs.lookup n = some d → ∃ v u, mg (Str.ofString n) = some u ∧ RelV v u ∧ ∀ ρ H, VR K ρ H d v
  fns : ∀ f, f ∈ gt.fns → ∃ fdm fa fd ps, T.fn f = some fdm ∧ FnIs K mg gt fdm fa fd ps ∧ mg (Str.ofString f) = some (.ref fa) ∧ PySem.W.keepIn K (.ref fa) = true
  sub : T.sub = subOf gt.exs
  exF : ExF K mg T.sub
  fl : ∀ c f, T.cl.fl c f = true → NoAttr K (gaS K c) (Str.ofString f)
  mt : ∀ c m f, T.cl.mt c m = some f → ∃ fdm fa fd ps, T.fn f = some fdm ∧ FnIs K mg gt fdm fa fd ps ∧ Meth K (gaS K c) (Str.ofString m) fa
  nw : ∀ c f, T.cl.nw c = some f → ∃ fdm fa fd ps, T.fn f = some fdm ∧ FnIs K mg gt fdm fa fd ps ∧ Mk K (gaS K c) fa ∧ mg (Str.ofString c) = some (.ref (gaS K c)) ∧ InsC K (gaS K c)
  up : ∀ t, T.cl.up t t = some true → ClU K mg T.sub T.cl.up t
  upo : ∀ c t b, T.cl.up c t = some b → PySem.W.kitOne K (.ref (gaS K c)) (.ref (gaS K t)) = some b
  nov : ∀ c, T.cl.up c "ValueError" = none
  clo : ∀ t, t ∈ gt.cls → T.cl.up t t = some true
section
variable {P : Program} {w : World} {K : PySem.W.Frag} {mg : Str → Option Value} {base : Heap} {T : Tab} {gt : Gt}
theorem callN_pad {n : Nat} {f : String} {fdm : Fd} {ds : List D} {h : List O} (hT : T.fn f = some fdm) (hb : callN T n f ds h ≠ .bad) :
    ds.length ≤ fdm.ps ∧ fdm.ps ≤ ds.length + fdm.dfl.length ∧ callN T n f (ds ++ fdm.dfl.drop (fdm.dfl.length + ds.length - fdm.ps)) h = callN T n f ds h := by
  cases n with
  | zero => exact (hb rfl).elim
  | succ n =>
    rw [callN] at hb
    simp only [hT] at hb
    by_cases q : ds.length ≤ fdm.ps ∧ fdm.ps ≤ ds.length + fdm.dfl.length
    · refine ⟨q.1, q.2, ?_⟩
      have l : (ds ++ fdm.dfl.drop (fdm.dfl.length + ds.length - fdm.ps)).length = fdm.ps := by
        rw [List.length_append, List.length_drop]
        omega
      rw [callN, callN]
      simp only [hT]
      rw [if_pos ⟨by rw [l]; exact Nat.le_refl _, by rw [l]; exact Nat.le_add_right _ _⟩, if_pos q, l, show fdm.dfl.length + fdm.ps - fdm.ps = fdm.dfl.length by omega, List.drop_length, List.append_nil]
    · rw [if_neg q] at hb
      exact (hb rfl).elim
theorem fnR_of {k n : Nat} {f : String} {fdm : Fd} {fa : Addr} {fd : FuncData} {ps : List Str} (hT : T.fn f = some fdm) (F : FnIs K mg gt fdm fa fd ps) (ok : FnOk P w K mg base (L2.CX P w) k fa fd ps (spF K mg fdm.ps (callN T n f))) :
    FnR P w K mg base (L2.CX P w) k fa (spV K mg (callN T n f)) := by
  intro A outer s H us vs Q E hr e0 r hs
  obtain ⟨ρ, h, ds, h1, h2, h3, h4⟩ := hs
  have nb : callN T n f ds h ≠ .bad := fun z => by
    rw [z] at h4
    exact h4
  obtain ⟨a1, a2, a3⟩ := callN_pad hT nb
  obtain ⟨dvs, us', b1, b2, b3⟩ := F.bind (fdm.dfl.length + ds.length - fdm.ps) (by omega)
  refine ok.raw b2 b1 A outer s H us vs Q E hr e0 r ?_
  refine ⟨ρ, h, ds ++ fdm.dfl.drop (fdm.dfl.length + ds.length - fdm.ps), h1, h2.append (b3 ρ H), ?_, ?_⟩
  · rw [List.length_append, List.length_drop]
    omega
  · rw [a3]
    exact h4
theorem body_ok (Pr : Prg K mg T gt) {n : Nat} (ih : ∀ f fdm fa fd ps, T.fn f = some fdm → FnIs K mg gt fdm fa fd ps → FnR P w K mg base (L2.CX P w) (2 * n) fa (spV K mg (callN T n f)))
    {f : String} {fdm : Fd} {fa : Addr} {fd : FuncData} {ps : List Str} (hT : T.fn f = some fdm) (F : FnIs K mg gt fdm fa fd ps) : FnOk P w K mg base (L2.CX P w) (2 * n + 1 + 1) fa fd ps (spF K mg fdm.ps (callN T (n + 1) f)) := by
  obtain ⟨N, scope, params, body, qual, x, dvs, FD, hsc, hch, hN⟩ := F.ex
  have S := fnScB_ok hsc
  refine FD.ok S (fun vs H Q E h => ?_) fun cdv A outer s H vs Q E hr hsp => ?_
  · obtain ⟨ρ, h', ds, h1, h2, h3, _⟩ := h
    rw [h2.length, h3, F.len]
  · have hr0 : Room (2 * n) (A.deeper (envOfC qual scope s.heap.objs.size fa cdv)) := hr.mono (by omega)
    have ct : CtE (cxOf (L2.CX P w) P w K mg base N qual scope fa cdv A outer s H E) (gam T n) (ckOf gt N scope) := by
      refine ⟨⟨rfl, S.nd, rfl, fun _ _ => rfl, fun _ => rfl⟩, ?_, Pr.nob, Pr.cs, fun g hg => ?_, Pr.sub, Pr.exF, ⟨Pr.fl, fun c m g hg => ?_, fun c g hg => ?_, Pr.up, Pr.upo, Pr.nov⟩, Pr.clo⟩
      · have z := hr.un
        show (A.deeper _).units + 200 < cLine
        omega
      · obtain ⟨fdm', fa', fd', ps', a1, a2, a3, a4⟩ := Pr.fns g hg
        exact ⟨2 * n, fa', ih g fdm' fa' fd' ps' a1 a2, hr0, a3, a4⟩
      · obtain ⟨fdm', fa', fd', ps', a1, a2, a3⟩ := Pr.mt c m g hg
        exact ⟨2 * n, fa', ih g fdm' fa' fd' ps' a1 a2, hr0, a3⟩
      · obtain ⟨fdm', fa', fd', ps', a1, a2, a3, a4, a5⟩ := Pr.nw c g hg
        exact ⟨2 * n, fa', ih g fdm' fa' fd' ps' a1 a2, hr, a3, a4, a5⟩
    have ok := chkSs_ok fdm.body ⟨rfl, rfl, rfl⟩ ct hch (fun cls d _ H => E cls d H) (takes_of (E₁ := fun e' s'' => L2.CX P w outer H s E e' s'') rfl rfl rfl rfl) (passes_of (K := fun e s'' => L2.CX P w outer H s E e s'') (E₁ := fun e' s'' => L2.CX P w outer H s E e' s'') rfl)
    refine ⟨_, ok, ?_⟩
    obtain ⟨ρ, h, ds, h1, h2, h3, h4⟩ := hsp
    have hlen : ds.length ≤ N.length := by
      have := congrArg List.length S.pre
      rw [List.length_take] at this
      have := F.len
      omega
    have hR := start_res (N := N) h1 h2 hlen
    have hd : ∀ a, Dom ⟨startS N.length ds, h⟩ (start N vs) ρ a → a ∈ ρ := fun a d => start_dom d
    refine ⟨ρ, _, hR, ?_⟩
    have hcall : callN T (n + 1) f ds h = gc h (runB (gam T n) fdm ds h) := by
      rw [callN]
      simp only [hT]
      rw [if_pos ⟨by rw [h3]; exact Nat.le_refl _, by rw [h3]; exact Nat.le_add_right _ _⟩, show fdm.dfl.length + ds.length - fdm.ps = fdm.dfl.length by omega, List.drop_length, List.append_nil]
      rfl
    rw [hcall] at h4
    unfold runB at h4
    rw [← hN] at h4
    show Wp (exs (gam T n) fdm.body ⟨startS N.length ds, h⟩) _ _
    cases q : exs (gam T n) fdm.body ⟨startS N.length ds, h⟩ with
    | bad =>
      rw [q] at h4
      exact h4.elim
    | ex c st' =>
      rw [q] at h4
      simp only at h4
      intro cls σ' H' ρ' s' _ hc
      cases q2 : EW.gc h (.ex c st'.h) with
      | bad =>
        rw [q2] at h4
        exact h4.elim
      | ok r2 h2' =>
        unfold EW.gc at q2
        simp only at q2
        split at q2 <;> cases q2
      | ex c2 h2' =>
        rw [q2] at h4
        obtain ⟨rfl, ρ2, g⟩ := gc_ex h1 (s'.h hd) q2
        exact h4 cls H' ρ2 g hc
    | ok fl st' =>
      rw [q] at h4
      have fin : ∀ {r : EV} {v : V} {H' : Hp} {ρ' : List Addr}, HStep K ρ H ρ' H' st'.h → RC K H ρ' H' r v → (match EW.gc h (.ok r st'.h) with
          | .ok r h' => ∀ v H' ρ', HStep K ρ H ρ' H' h' → RC K H ρ' H' r v → Q v H'
          | .ex c h' => ∀ cls H' ρ', HStep K ρ H ρ' H' h' → ClsM mg c cls → E cls none H'
          | .bad => False) → Q v H' := fun {r v H' ρ'} g1 g2 z => by
        cases q2 : EW.gc h (.ok r st'.h) with
        | bad =>
          rw [q2] at z
          exact z.elim
        | ex c h' =>
          unfold EW.gc at q2
          simp only at q2
          repeat' split at q2
          all_goals cases q2
        | ok r2 h2' =>
          rw [q2] at z
          obtain ⟨ρ2, g3, g4⟩ := gc_ok h1 g1 g2 q2
          exact z v H' ρ2 g3 g4
      cases fl with
      | ct => exact h4.elim
      | nx => exact fun σ' H' ρ' s' _ => fin (r := .d .non) (v := .non) (s'.h hd) rfl h4
      | rt r => exact fun v σ' H' ρ' s' hr => fin (s'.h hd) (HStep.rc s' hd hr) h4
theorem prg_ok (Pr : Prg K mg T gt) : ∀ n f fdm fa fd ps, T.fn f = some fdm → FnIs K mg gt fdm fa fd ps → FnR P w K mg base (L2.CX P w) (2 * n) fa (spV K mg (callN T n f))
  | 0, f, fdm, fa, fd, ps, hT, F => by
    intro A outer s H us vs Q E hr e0 r hs
    obtain ⟨ρ, h', ds, h1, h2, h3, h4⟩ := hs
    exact h4.elim
  | n + 1, f, fdm, fa, fd, ps, hT, F => fnR_of hT F (body_ok Pr (prg_ok Pr n) hT F)
end
end EW

-- part: Sound17
set_option maxHeartbeats 4000000
/-! a table of defs is the given program -/
namespace EW
open PySem PySem.Spec PyProof.Rows L2
/-- one def: its name, its code, its place in the top, its names, its parameters; a method: its class, its name, its place in the class -/
structure Row where
  nm : String
  fd : Fd
  top : Nat
  N : List Str
  ps : List Str
  at_ : Option (String × String × Nat) := none
/-- a class: its name, the fields of its objects, its methods with their defs, what makes an object, the classes that it stands under -/
structure ClR where
  nm : String
  fl : List String
  mt : List (String × String)
  nw : Option String
  up : List String
def topAt (P : Program) (i : Nat) : Stmt := P.main.body.getD i (.Pass ⟨0, 0, 0, 0⟩)
def Row.st (P : Program) (r : Row) : Stmt := match r.at_ with
  | none => topAt P r.top
  | some (_, _, j) => inClass (topAt P r.top) j
def Row.ad (r : Row) : Str × Option Str := match r.at_ with
  | none => (Str.ofString r.nm, none)
  | some (c, m, _) => (Str.ofString c, some (Str.ofString m))
def Row.name (r : Row) : Str := match r.at_ with
  | none => Str.ofString r.nm
  | some (_, m, _) => Str.ofString m
def dvOf : D → He.Dv
  | .int i => .int i | .bl b => .bl b | .str x => .str x | _ => .non
def isDv : D → Bool
  | .int _ => true | .bl _ => true | .str _ => true | .non => true | _ => false
def Row.dd (P : Program) (r : Row) : He.DefD := ⟨r.ad, r.name, Str.ofString r.nm, defArgs (r.st P), defBody (r.st P), defScope (r.st P), r.fd.dfl.map dvOf, []⟩
abbrev Exs : Type := List (String × List String)
def clFind (cl : List ClR) (c : String) : Option ClR := cl.find? fun r => r.nm == c
def gtOf (cs : List (String × D)) (rows : List Row) (exs : Exs) (cl : List ClR := []) : Gt := ⟨cs, (rows.map fun r => r.nm).filter fun f => (rows.find? fun r => r.nm == f).any fun r => r.at_.isNone, exs, (cl.filter fun r => (clFind cl r.nm).any fun z => z.up.contains r.nm).map (·.nm)⟩
def clOf (cl : List ClR) : ClT where
  fl := fun c f => (clFind cl c).any fun r => r.fl.contains f
  mt := fun c m => (clFind cl c).bind fun r => r.mt.lookup m
  nw := fun c => (clFind cl c).bind fun r => r.nw
  up := fun c t => (clFind cl c).bind fun r => (clFind cl t).map fun _ => r.up.contains t
def tabOf (rows : List Row) (exs : Exs := []) (cl : List ClR := []) : Tab := ⟨fun f => (rows.find? fun r => r.nm == f).map (·.fd), subOf exs, clOf cl⟩
/-! the classes of refusals, as the heap has them -/
def valK (e : Exs) (K : PySem.W.Frag) (c : String) : Bool :=
  He.eqO (PySem.W.nsIn K mainGlobals (Str.ofString c)) (some (some (.ref (gaS K c)))) &&
  He.eqO (PySem.W.findIn K (.ref (gaS K c)) "__getattribute__") (some (some (.builtin "BaseException.__getattribute__"))) &&
  He.eqO (PySem.W.findIn K (.ref (gaS K c)) "__getattr__") (some none) &&
  PySem.W.hasDictIn K (gaS K c) &&
  He.eqO (PySem.W.findIn K (.ref (gaS K c)) "__class__") (some (some (.builtin "object.__class__"))) &&
  He.eqO (PySem.W.specialIn K (.builtin "object.__class__") "__get__") (some (some (.builtin "getset_descriptor.__get__"))) &&
  decide (PySem.W.takesIn K (.builtin "object.__class__") = some true) &&
  decide (PySem.W.mroIn K (gaS K c) (.type "object") = some true) &&
  (He.Fa.exc (Str.ofString c)).ok K &&
  decide (PySem.W.kitOne K (.ref (gaS K c)) (.type "ValueError") = some (subOf e c "ValueError")) &&
  (basics.all fun t => decide (PySem.W.kitOne K (.type t) (.ref (gaS K c)) = some false)) &&
  !basicT c
def twoK (e : Exs) (K : PySem.W.Frag) (c t : String) : Bool :=
  decide (PySem.W.exmOne K (.ref (gaS K c)) (.ref (gaS K t)) = some (subOf e c t)) && decide (PySem.W.kitOne K (.ref (gaS K c)) (.ref (gaS K t)) = some (subOf e c t))
def exB (e : Exs) (K : PySem.W.Frag) : Bool :=
  (e.all fun p => valK e K p.1) && (e.all fun p => e.all fun q => twoK e K p.1 q.1) && He.eqO (PySem.W.nsIn K mainGlobals "ValueError") (some none) && (basics.all fun t => decide (PySem.W.kitOne K (.type t) (.type "ValueError") = some false))
theorem sub_mem {e : Exs} {c t : String} (h : subOf e c t = true) : ∃ p ∈ e, p.1 = c := by
  unfold subOf at h
  cases q : e.lookup c with
  | none =>
    rw [q] at h
    cases h
  | some as =>
    have main : ∀ e : Exs, e.lookup c = some as → ∃ p ∈ e, p.1 = c := fun e => by
      induction e with
      | nil => intro z; cases z
      | cons p r ih =>
        obtain ⟨a, b⟩ := p
        intro z
        rw [List.lookup_cons] at z
        cases y : c == a with
        | true => exact ⟨(a, b), by simp, (eq_of_beq y).symm⟩
        | false =>
          rw [y] at z
          obtain ⟨p, h1, h2⟩ := ih z
          exact ⟨p, by simp [h1], h2⟩
    exact main e q
theorem exF_of {K : PySem.W.Frag} {h : Heap} {mg : Str → Option Value} {e : Exs} (X : K.In h) (G : h.Ns mainGlobals mg) (b : exB e K = true) : ExF K mg (subOf e) := by
  unfold exB at b
  simp only [Bool.and_eq_true, List.all_eq_true] at b
  obtain ⟨⟨⟨b1, b2⟩, b3⟩, b4⟩ := b
  refine ⟨fun c hc => ?_, fun c t hc ht => ?_, PySem.W.mg_none_of X G (He.eqO_ok b3), fun t ht => of_decide_eq_true (b4 t ht)⟩
  · obtain ⟨p, hp, rfl⟩ := sub_mem hc
    have z := b1 p hp
    unfold valK at z
    simp only [Bool.and_eq_true, List.all_eq_true, Bool.not_eq_true'] at z
    obtain ⟨⟨⟨⟨⟨⟨⟨⟨⟨⟨⟨z1, z2⟩, z3⟩, z4⟩, z5⟩, z6⟩, z7⟩, z8⟩, z9⟩, z10⟩, z11⟩, z12⟩ := z
    obtain ⟨y1, y2, y3, y4⟩ := He.exc_ok z9
    exact ⟨PySem.W.mg_of X G (He.eqO_ok z1), ⟨He.eqO_ok z2, He.eqO_ok z3, y3, z4, He.eqO_ok z5, He.eqO_ok z6, of_decide_eq_true z7, of_decide_eq_true z8⟩, y1, y2, y3, y4, of_decide_eq_true z10, fun t ht => of_decide_eq_true (z11 t ht), z12⟩
  · obtain ⟨p, hp, rfl⟩ := sub_mem hc
    obtain ⟨q, hq, rfl⟩ := sub_mem ht
    have z := b2 p hp q hq
    unfold twoK at z
    rw [Bool.and_eq_true] at z
    exact ⟨of_decide_eq_true z.1, of_decide_eq_true z.2⟩
/-! the classes of one's own, as the heap has them -/
def adOf (rows : List Row) (f : String) : Str × Option Str := match rows.find? fun r => r.nm == f with
  | some r => r.ad
  | none => ("", none)
def clK (rows : List Row) (e : Exs) (cl : List ClR) (K : PySem.W.Frag) (r : ClR) : Bool :=
  (He.Fa.glo (Str.ofString r.nm)).ok K && (He.Fa.cls (Str.ofString r.nm)).ok K && PySem.W.keepIn K (.ref (gaS K r.nm)) &&
  He.eqO (PySem.W.findIn K (.ref (gaS K r.nm)) "__class__") (some (some (.builtin "object.__class__"))) &&
  He.eqO (PySem.W.specialIn K (.builtin "object.__class__") "__get__") (some (some (.builtin "getset_descriptor.__get__"))) &&
  decide (PySem.W.takesIn K (.builtin "object.__class__") = some true) &&
  decide (PySem.W.mroIn K (gaS K r.nm) (.type "object") = some true) &&
  (r.fl.all fun f => (He.Fa.noat (Str.ofString r.nm) (Str.ofString f)).ok K) &&
  (r.mt.all fun q => (He.Fa.meth (Str.ofString r.nm) (Str.ofString q.1)).ok K && (decide (He.ma K (gaS K r.nm) (Str.ofString q.1) = He.fAd K (adOf rows q.2)) && (rows.find? fun z => z.nm == q.2).isSome)) &&
  (match r.nw with
  | none => true
  | some f => (He.Fa.mkr (Str.ofString r.nm)).ok K && (decide (He.ma K (gaS K r.nm) "__init__" = He.fAd K (adOf rows f)) && (rows.find? fun z => z.nm == f).isSome)) &&
  (basics.all fun y => decide (PySem.W.kitOne K (.type y) (.ref (gaS K r.nm)) = some false)) &&
  (e.all fun p => decide (PySem.W.kitOne K (.ref (gaS K p.1)) (.ref (gaS K r.nm)) = some (subOf e p.1 r.nm))) &&
  (cl.all fun q => decide (PySem.W.kitOne K (.ref (gaS K q.nm)) (.ref (gaS K r.nm)) = some (q.up.contains r.nm))) &&
  !basicT r.nm && !(r.nm == "ValueError")
def clB (rows : List Row) (e : Exs) (cl : List ClR) (K : PySem.W.Frag) : Bool := cl.all (clK rows e cl K)
theorem clFind_mem {cl : List ClR} {c : String} {r : ClR} (h : clFind cl c = some r) : r ∈ cl ∧ r.nm = c :=
  ⟨List.mem_of_find?_eq_some h, by simpa using List.find?_some h⟩
/-! the head's hook, with them -/
def obsX (n : Nat) (fa : List He.Fa) (fn : List He.DefD) (b : PySem.W.Frag → Bool) (g : Addr → Option Obj) : He.AlD := ((He.obsD fa fn (He.frG g (He.asD g n))).1 && b (He.frG g (He.asD g n)), (He.obsD fa fn (He.frG g (He.asD g n))).2)
def SaysX (fa : List He.Fa) (fn : List He.DefD) (b : PySem.W.Frag → Bool) (K : PySem.W.Frag) : Prop := He.SaysD fa fn K ∧ b K = true
def hookX (n : Nat) (fa : List He.Fa) (fn : List He.DefD) (e : PySem.W.Frag → Bool) : PySem.W.Hook where
  α := He.AlD
  obs := fun s => obsX n fa fn e s.heap.get?
  val := fun _ => He.valD fn
  says := fun _ h => ∃ K : PySem.W.Frag, K.In h ∧ SaysX fa fn e K
  of := fun _ _ h => by
    have h1 := congrArg Prod.fst h
    have h2 := congrArg Prod.snd h
    obtain ⟨a, b⟩ := Bool.and_eq_true_iff.mp h1
    exact ⟨_, He.frG_in, Prod.ext a h2, b⟩
  keeps := fun _ _ _ ⟨K, hK, c⟩ k => ⟨K, PySem.W.Frag.In.keeps hK k, c⟩
theorem obsX_eq {n : Nat} {fa : List He.Fa} {fn : List He.DefD} {e : PySem.W.Frag → Bool} {g : Addr → Option Obj} {s : Shared} (h : ∀ a, g a = s.heap.get? a) : obsX n fa fn e g = (hookX n fa fn e).obs s := by
  have z : g = s.heap.get? := funext h
  rw [z]
  rfl
/-- the built-in names that must be free -/
def frees : List Str := ["len", "max", "min", "sum", "all", "any", "abs", "int", "str", "tuple", "list", "sorted", "divmod", "repr", "dict", "set", "range", "enumerate", "zip", "reversed", "isinstance", "bool"]
/-- a constant of the top, as a fact -/
def faC (q : String × D) : He.Fa := match q.2 with
  | .int i => .int (Str.ofString q.1) i
  | .str z => .str (Str.ofString q.1) z
  | _ => .glo (Str.ofString q.1)
def isIS : D → Bool
  | .int _ => true | .str _ => true | _ => false
def fas (cs : List (String × D)) (rows : List Row) : List He.Fa := frees.map He.Fa.free ++ (((rows.filter fun r => r.at_.isNone).map fun r => .glo (Str.ofString r.nm)) ++ cs.map faC)
/-- what is asked of the heap beside -/
def moreB (rows : List Row) (exs : Exs) (cl : List ClR) (K : PySem.W.Frag) : Bool := exB exs K && clB rows exs cl K
def rowChk (P : Program) (cs : List (String × D)) (rows : List Row) (exs : Exs) (cl : List ClR) (r : Row) : Bool :=
  cs.all (fun q => isIS q.2) && fnScB r.N r.ps (defScope (r.st P)) && chkSs (ckOf (gtOf cs rows exs cl) r.N (defScope (r.st P))) r.fd.body (defBody (r.st P)) && decide (r.N.length = r.fd.n) && decide (r.ps.length = r.fd.ps) && r.fd.dfl.all isDv && decide (r.fd.dfl.length ≤ r.ps.length)
/-- how its parameters are bound -/
structure BindN (P : Program) (r : Row) : Prop where
  a : r.fd.dfl = [] → ∀ (kV doc pm : Value) (an : Option Addr) (cdv ct : Value) (us : List Value), us.length = r.ps.length →
    bindArgs (PySem.W.fnOf r.name (Str.ofString r.nm) (defArgs (r.st P)) (defBody (r.st P)) (defScope (r.st P)) .none kV doc pm an cdv ct) ⟨us, []⟩ = pure (r.ps.zip us)
  b : r.fd.dfl ≠ [] → ∀ j, j ≤ r.fd.dfl.length → ∀ (T : Addr) (kV doc pm : Value) (an : Option Addr) (cdv ct : Value) (us its : List Value), us.length + (r.fd.dfl.length - j) = r.ps.length → its.length = r.fd.dfl.length →
    ∃ k, bindArgs (PySem.W.fnOf r.name (Str.ofString r.nm) (defArgs (r.st P)) (defBody (r.st P)) (defScope (r.st P)) (.ref T) kV doc pm an cdv ct) ⟨us, []⟩ = seqItems? (.ref T) >>= k ∧ k (some its.toArray) = pure (r.ps.zip (us ++ its.drop j))
section
variable {P : Program} {K : PySem.W.Frag} {h : Heap} {mg : Str → Option Value} {rows : List Row} {cs : List (String × D)} {exs : Exs} {cl : List ClR}
theorem find_at {f : String} {r : Row} : ∀ {rows : List Row}, (rows.find? fun r => r.nm == f) = some r → ∃ i : Nat, rows[i]? = some r ∧ r.nm = f
  | [], h => by simp at h
  | q :: rs, h => by
    rw [List.find?_cons] at h
    cases z : q.nm == f with
    | true =>
      rw [z] at h
      cases h
      exact ⟨0, rfl, eq_of_beq z⟩
    | false =>
      rw [z] at h
      obtain ⟨i, a, b⟩ := find_at h
      exact ⟨i + 1, by simpa using a, b⟩
theorem lookup_at {n : String} {d : D} : ∀ {cs : List (String × D)}, cs.lookup n = some d → ∃ i : Nat, cs[i]? = some (n, d)
  | [], h => by simp at h
  | (a, b) :: cs, h => by
    rw [List.lookup_cons] at h
    cases q : n == a with
    | true =>
      rw [q] at h
      cases eq_of_beq q
      exact ⟨0, by simpa using h⟩
    | false =>
      rw [q] at h
      obtain ⟨i, e⟩ := lookup_at h
      exact ⟨i + 1, by simpa using e⟩
theorem dvs_rel {ρ : List Addr} {H : Hp} : ∀ {ds : List D}, ds.all isDv = true → VRs K ρ H ds (ds.map fun d => (dvOf d).v K)
  | [], _ => rfl
  | d :: ds, h => by
    rw [List.all_cons, Bool.and_eq_true] at h
    refine .cons ?_ (dvs_rel h.2)
    cases d <;> first | rfl | exact absurd h.1 (by simp [isDv])
/-- a row stands in the heap -/
theorem row_is (c : He.SaysD (fas cs rows) (rows.map (Row.dd P)) K) {i : Nat} {r : Row} (h1 : rows[i]? = some r) (hb : BindN P r) (ch : rowChk P cs rows exs cl r = true) : ∃ fd, FnIs K mg (gtOf cs rows exs cl) r.fd (He.fAd K r.ad) fd r.ps ∧ PySem.W.keepIn K (.ref (He.fAd K r.ad)) = true ∧ (r.fd.dfl = [] → ∀ (s : Shared) (us : List Value), us.length = r.ps.length → BindsTo s fd ⟨us, []⟩ (r.ps.zip us)) := by
  obtain ⟨fd, F⟩ := c.def_ i (d := Row.dd P r) (by rw [List.getElem?_map, h1]; rfl)
  have F : FunD K r.name (Str.ofString r.nm) (defArgs (r.st P)) (defBody (r.st P)) (defScope (r.st P)) ((r.fd.dfl.map dvOf).map (He.Dv.v K)) [] (He.fAd K r.ad) fd := F
  unfold rowChk at ch
  simp only [Bool.and_eq_true, decide_eq_true_eq] at ch
  obtain ⟨⟨⟨⟨⟨⟨c0, c1⟩, c2⟩, c3⟩, c4⟩, c5⟩, c6⟩ := ch
  rw [List.map_map] at F
  refine ⟨fd, ⟨⟨r.N, _, _, _, _, _, _, F, c1, c2, c3⟩, c4, fun j hj => ?_⟩, F.kp, fun e s us hl => ?_⟩
  · by_cases e : r.fd.dfl = []
    · have F' := F
      rw [e] at F'
      refine ⟨[], [], .nil, FunD.bindsN (ps := r.ps) F' fun kV doc pm an cdv ct us hl => hb.a e kV doc pm an cdv ct us hl, fun ρ H => ?_⟩
      rw [e, List.drop_nil]
      rfl
    · have hd : (r.fd.dfl.map (He.Dv.v K ∘ dvOf)) ≠ [] := by simpa using e
      obtain ⟨ds, g1, g2⟩ := FunD.binds1 (ps := r.ps) F (r.ps.length - (r.fd.dfl.length - j)) j hd (by rw [List.length_map]; omega) fun T kV doc pm an cdv ct us its h1 h2 => hb.b e j hj T kV doc pm an cdv ct us its (by rw [h1]; omega) (by simpa using h2)
      exact ⟨_, ds, g1, g2, fun ρ H => (dvs_rel (K := K) (ρ := ρ) (H := H) c5).drop j⟩
  · have F' := F
    rw [e] at F'
    exact FunD.bindsA (ps := r.ps) F' (fun kV doc pm an cdv ct us hl => hb.a e kV doc pm an cdv ct us hl) s us hl
theorem glo_row (X : K.In h) (G : h.Ns mainGlobals mg) (c : He.SaysD (fas cs rows) (rows.map (Row.dd P)) K) {r : Row} (hr : r ∈ rows) (ha : r.at_ = none) : mg (Str.ofString r.nm) = some (.ref (He.fAd K r.ad)) ∧ r.ad = (Str.ofString r.nm, none) := by
  have e : r.ad = (Str.ofString r.nm, none) := by unfold Row.ad; rw [ha]
  have hm : r ∈ rows.filter fun r => r.at_.isNone := by simp [hr, ha]
  obtain ⟨i, hi, e2⟩ := List.mem_iff_getElem.mp hm
  have z := He.glo_ok X G (c.fact (frees.length + i) (f := .glo (Str.ofString r.nm)) (by
    unfold fas
    rw [List.getElem?_append_right (by simp), List.getElem?_append_left (by simpa using hi), List.getElem?_map]
    simp [List.getElem?_eq_getElem hi, e2]))
  rw [e]
  exact ⟨z, rfl⟩
theorem prg_of (hne : ∃ r, r ∈ rows) (X : K.In h) (G : h.Ns mainGlobals mg) (hx : moreB rows exs cl K = true) (c : He.SaysD (fas cs rows) (rows.map (Row.dd P)) K) (hb : ∀ r ∈ rows, BindN P r) (hc : ∀ r ∈ rows, rowChk P cs rows exs cl r = true) : Prg K mg (tabOf rows exs cl) (gtOf cs rows exs cl) := by
  unfold moreB at hx
  rw [Bool.and_eq_true] at hx
  obtain ⟨hx, hcl⟩ := hx
  unfold clB at hcl
  rw [List.all_eq_true] at hcl
  have fr : ∀ x ∈ frees, mg x = none := fun x hx => by
    obtain ⟨i, hi, e⟩ := List.mem_iff_getElem.mp hx
    refine He.free_ok X G (c.fact i (f := .free x) ?_)
    unfold fas
    rw [List.getElem?_append_left (by simpa using hi), List.getElem?_map, List.getElem?_eq_getElem hi, e]
    rfl
  have fnd : ∀ {f : String} {r : Row}, (rows.find? fun r => r.nm == f) = some r → ∃ fd, (tabOf rows exs cl).fn f = some r.fd ∧ FnIs K mg (gtOf cs rows exs cl) r.fd (He.fAd K r.ad) fd r.ps ∧ PySem.W.keepIn K (.ref (He.fAd K r.ad)) = true := fun {f r} e => by
    obtain ⟨i, h1, rfl⟩ := find_at e
    have hm : r ∈ rows := List.mem_of_getElem? h1
    obtain ⟨fd, F, kp, _⟩ := row_is (mg := mg) (cl := cl) c h1 (hb r hm) (hc r hm)
    refine ⟨fd, ?_, F, kp⟩
    show (rows.find? fun q => q.nm == r.nm).map (·.fd) = _
    rw [e]
    rfl
  refine ⟨⟨fun b => ?_, fr _ (by simp [frees]), fr _ (by simp [frees]), fr _ (by simp [frees]), fr _ (by simp [frees]), fr _ (by simp [frees]), fun t ht => ?_⟩, fun n d z => ?_, fun f z => ?_, rfl, exF_of X G hx, fun cn f hf => ?_, fun cn m f hf => ?_, fun cn f hf => ?_, fun t ht => ?_, fun cn t b hu => ?_, fun cn => ?_, fun t ht => ?_⟩
  · cases b <;> exact fr _ (by simp [frees, biN])
  · unfold tyBi at ht
    simp only [Bool.or_eq_true, beq_iff_eq] at ht
    rcases ht with ((((rfl | rfl) | rfl) | rfl) | rfl) | rfl <;> exact fr _ (by simp [frees])
  · obtain ⟨i, h1⟩ := lookup_at (show cs.lookup n = some d from z)
    have hm : (n, d) ∈ cs := List.mem_of_getElem? h1
    have hf := c.fact (frees.length + ((rows.filter fun r => r.at_.isNone).length + i)) (f := faC (n, d)) (by
      unfold fas
      rw [List.getElem?_append_right (by simp), List.getElem?_append_right (by simp)]
      simp [h1])
    have hd : isIS d = true := by
      have hr : ∃ r, r ∈ rows := hne
      obtain ⟨r, hr⟩ := hr
      have ch := hc r hr
      unfold rowChk at ch
      simp only [Bool.and_eq_true, List.all_eq_true] at ch
      exact ch.1.1.1.1.1.1 (n, d) hm
    cases d with
    | int j =>
      obtain ⟨t, e⟩ := He.int_ok X G hf
      exact ⟨.int j, _, e, ⟨t, rfl⟩, fun ρ H => rfl⟩
    | str j =>
      obtain ⟨t, e⟩ := He.str_ok X G hf
      exact ⟨.str j, _, e, ⟨t, rfl⟩, fun ρ H => rfl⟩
    | _ => cases hd
  · have hz : f ∈ (rows.map fun r => r.nm).filter fun f => (rows.find? fun r => r.nm == f).any fun r => r.at_.isNone := z
    have hz2 := (List.mem_filter.mp hz).2
    cases q : rows.find? fun r => r.nm == f with
    | none =>
      rw [q] at hz2
      cases hz2
    | some r =>
      rw [q] at hz2
      obtain ⟨fd, a1, a2, a3⟩ := fnd q
      obtain ⟨i, h1, h2⟩ := find_at q
      have g := (glo_row X G c (List.mem_of_getElem? h1) (by simpa using hz2)).1
      rw [h2] at g
      exact ⟨r.fd, _, fd, r.ps, a1, a2, g, a3⟩
  · cases q : clFind cl cn with
    | none =>
      simp [tabOf, clOf, q] at hf
    | some r =>
      obtain ⟨hm, rfl⟩ := clFind_mem q
      have hk := hcl r hm
      unfold clK at hk
      simp only [Bool.and_eq_true, List.all_eq_true] at hk
      have hf : f ∈ r.fl := by simpa [tabOf, clOf, q] using hf
      exact He.noat_ok (hk.1.1.1.1.1.1.1.2 f hf)
  · cases q : clFind cl cn with
    | none =>
      simp [tabOf, clOf, q] at hf
    | some r =>
      obtain ⟨hm, rfl⟩ := clFind_mem q
      have hk := hcl r hm
      unfold clK at hk
      simp only [Bool.and_eq_true, List.all_eq_true] at hk
      have hf : r.mt.lookup m = some f := by simpa [tabOf, clOf, q] using hf
      have hmem : (m, f) ∈ r.mt := by
        have key : ∀ l : List (String × String), l.lookup m = some f → (m, f) ∈ l := fun l => by
          induction l with
          | nil => intro z; cases z
          | cons a l ih =>
            intro z
            obtain ⟨a1, a2⟩ := a
            rw [List.lookup_cons] at z
            cases y : m == a1 with
            | true =>
              rw [y] at z
              cases z
              rw [eq_of_beq y]
              simp
            | false =>
              rw [y] at z
              exact List.mem_cons_of_mem _ (ih z)
        exact key _ hf
      obtain ⟨k1, k2, k3⟩ := hk.1.1.1.1.1.1.2 (m, f) hmem
      obtain ⟨ro, hro⟩ := Option.isSome_iff_exists.mp k3
      obtain ⟨fd, a1, a2, a3⟩ := fnd hro
      have me := He.meth_ok k1
      have ea : He.ma K (gaS K r.nm) (Str.ofString m) = He.fAd K ro.ad := by
        have := of_decide_eq_true k2
        unfold adOf at this
        rw [hro] at this
        exact this
      refine ⟨ro.fd, _, fd, ro.ps, a1, a2, ?_⟩
      rw [← ea]
      exact me
  · cases q : clFind cl cn with
    | none =>
      simp [tabOf, clOf, q] at hf
    | some r =>
      obtain ⟨hm, rfl⟩ := clFind_mem q
      have hk := hcl r hm
      unfold clK at hk
      simp only [Bool.and_eq_true, List.all_eq_true] at hk
      have hf : r.nw = some f := by simpa [tabOf, clOf, q] using hf
      have k0 := hk.1.1.1.1.1.2
      rw [hf] at k0
      simp only [Bool.and_eq_true] at k0
      obtain ⟨k1, k2, k3⟩ := k0
      obtain ⟨ro, hro⟩ := Option.isSome_iff_exists.mp k3
      obtain ⟨fd, a1, a2, a3⟩ := fnd hro
      have ea : He.ma K (gaS K r.nm) "__init__" = He.fAd K ro.ad := by
        have := of_decide_eq_true k2
        unfold adOf at this
        rw [hro] at this
        exact this
      have mk := He.mkr_ok k1
      refine ⟨ro.fd, _, fd, ro.ps, a1, a2, ?_, He.glo_ok X G hk.1.1.1.1.1.1.1.1.1.1.1.1.1.1, ⟨He.cls_ok hk.1.1.1.1.1.1.1.1.1.1.1.1.1.2, He.eqO_ok hk.1.1.1.1.1.1.1.1.1.1.1.2, He.eqO_ok hk.1.1.1.1.1.1.1.1.1.1.2, of_decide_eq_true hk.1.1.1.1.1.1.1.1.1.2, of_decide_eq_true hk.1.1.1.1.1.1.1.1.2⟩⟩
      rw [← ea]
      exact mk
  · cases q : clFind cl t with
    | none =>
      simp [tabOf, clOf, q] at ht
    | some r =>
      obtain ⟨hm, rfl⟩ := clFind_mem q
      have hk := hcl r hm
      unfold clK at hk
      simp only [Bool.and_eq_true, List.all_eq_true] at hk
      refine ⟨He.glo_ok X G hk.1.1.1.1.1.1.1.1.1.1.1.1.1.1, fun y hy => of_decide_eq_true (hk.1.1.1.1.2 y hy), fun cn hcn => ?_, hk.1.1.1.1.1.1.1.1.1.1.1.1.2, by simpa using hk.1.2⟩
      obtain ⟨p, hp, rfl⟩ := sub_mem (show subOf exs cn cn = true from hcn)
      exact of_decide_eq_true (hk.1.1.1.2 p hp)
  · cases q : clFind cl cn with
    | none =>
      simp [tabOf, clOf, q] at hu
    | some r =>
      cases q2 : clFind cl t with
      | none =>
        simp [tabOf, clOf, q, q2] at hu
      | some r2 =>
        have hu2 : r.up.contains t = b := by simpa [tabOf, clOf, q, q2] using hu
        obtain ⟨hm, rfl⟩ := clFind_mem q
        obtain ⟨hm2, rfl⟩ := clFind_mem q2
        have hk := hcl r2 hm2
        unfold clK at hk
        simp only [Bool.and_eq_true, List.all_eq_true] at hk
        rw [← hu2]
        exact of_decide_eq_true (hk.1.1.2 r hm)
  · cases q : clFind cl "ValueError" with
    | none =>
      cases q2 : clFind cl cn <;> simp [tabOf, clOf, q, q2]
    | some r =>
      obtain ⟨hm, e⟩ := clFind_mem q
      have hk := hcl r hm
      unfold clK at hk
      simp only [Bool.and_eq_true] at hk
      have := hk.2
      rw [e] at this
      simp at this
  · have ht : t ∈ (cl.filter fun r => (clFind cl r.nm).any fun z => z.up.contains r.nm).map (·.nm) := ht
    obtain ⟨r0, h0, rfl⟩ := List.mem_map.mp ht
    have h1 := (List.mem_filter.mp h0).2
    show (clFind cl r0.nm).bind (fun z => (clFind cl r0.nm).map fun _ => z.up.contains r0.nm) = some true
    cases q : clFind cl r0.nm with
    | none =>
      rw [q] at h1
      cases h1
    | some r =>
      rw [q] at h1
      have h2 : r.up.contains r0.nm = true := h1
      show some (r.up.contains r0.nm) = some true
      rw [h2]
end

/-! ### the law -/
/-- the law's def tells True at every script -/
def LawSays (T : Tab) (n : Nat) (f : String) : Prop := ∀ ns : List Int, ns.length ≤ 63 → (∀ z ∈ ns, Builtin.Int.intBits z ≤ 1048576) → ∃ h, callN T n f [.fz (ns.map D.int)] [] = .ok (.d (.bl true)) h
theorem vrs_ints {K : PySem.W.Frag} {ρ : List Addr} {H : Hp} : ∀ ns : List Int, VRs K ρ H (ns.map D.int) (ns.map V.int)
  | [] => rfl
  | n :: ns => ⟨_, _, rfl, rfl, vrs_ints ns⟩
theorem law_sp {K : PySem.W.Frag} {mg : Str → Option Value} {T : Tab} {n : Nat} {f : String} (L : LawSays T n f) {H : Hp} {a : Addr} {ns : List Int} (hl : ns.length ≤ 63) (hbits : ∀ z ∈ ns, Builtin.Int.intBits z ≤ 1048576) (hO : Only H) (hS : SqL K H a (ns.map V.int)) :
    spF K mg 1 (callN T n f) [.ref a] H (fun v _ => v = .bl true) fun _ _ _ => False := by
  have hf : FrzL K H a (ns.map V.int) := by
    rcases hS with (h | h) | h
    · rcases hO a with z | ⟨o, xs, z⟩
      · rw [h] at z
        cases z
      · rw [h] at z
        cases z
    · exact .inl h
    · exact .inr h
  refine ⟨[], [], [.fz (ns.map D.int)], ⟨rfl, List.nodup_nil, fun i p x e => by simp at e⟩, ⟨_, _, rfl, ⟨a, _, rfl, hf, vrs_ints ns⟩, rfl⟩, rfl, ?_⟩
  obtain ⟨h, e⟩ := L ns hl hbits
  rw [e]
  exact fun v H' ρ' _ hr => hr
theorem cx_no {P : Program} {w : World} {H : Hp} {s : Shared} {e : Value} {s' : Shared} (h : L2.CX P w [] H s (fun _ _ _ => False) e s') : False := by
  obtain ⟨a, B, H', cls, d, _, _, _, _, _, _, _, z⟩ := h
  exact z
/-- the end of a head, where the numbers' size is told too -/
theorem walk_sized {l : PySem.W.OpenLaw} {n k : Nat} {q : Program} {loose : List Str} {XP : (Str → Option Value) → Heap → Prop} {YP : World → Heap → Prop} {d : DefRec} {CX : World → CXT} {x : Str}
    (hn : l.most = some n) (hsz : n ≤ sizeLine) (hdf : d.params.defaults = []) (room : Room k callerA)
    (F : ∀ (w : World) (mg : Str → Option Value) (fa : Addr) (h : Heap), YP w h → h.Ns mainGlobals mg → mg d.name = some (.ref fa) →
      ∃ (K : PySem.W.Frag) (fd : FuncData) (sp : Sp), K.In h ∧ (∀ (s : Shared) (u : Value), BindsTo s fd ⟨[u], []⟩ [(x, u)]) ∧
        (∀ (H : Hp) (a : Addr) (ns : List Int), ns.length ≤ n → (∀ z ∈ ns, Builtin.Int.intBits z ≤ 1048576) → Only H → SqL K H a (ns.map V.int) → sp [.ref a] H (fun v _ => v = .bl true) fun _ _ _ => False) ∧
        ∀ base : Heap, K.In base → base.Ns mainGlobals mg → FnOk l.prog w K mg base (CX w) k fa fd [x] sp)
    (none_out : ∀ (w : World) (H : Hp) (s : Shared) (e : Value) (s' : Shared), CX w [] H s (fun _ _ _ => False) e s' → False) :
    PySem.W.WalkO q loose XP YP l.row.toRowW d [] (fun f vs => PySem.call f vs) := by
  refine Att.attach_callB hn hdf fun w s₀ s₁ mg mb fa o pm cd doc a vs ns G Y ho hd hcd hmg hobj hints hlen hbits hg => ?_
  obtain ⟨K, fd, sp, KX, hb, hsp, hF⟩ := F w mg fa _ Y G.T.g hmg
  exact law_call KX G.T.g G.T.b G.T.builtins G.T.nolimit hg hobj hints (Nat.le_trans hlen hsz) room hF hb (fun H hO hS => hsp H a ns hlen hbits hO hS) fun H e s' => none_out w H s₁ e s'
/-- what a row table gives to a head -/
theorem head_F {P : Program} {w : World} {K : PySem.W.Frag} {h : Heap} {mg : Str → Option Value} {rows : List Row} {cs : List (String × D)} {exs : Exs} {cl : List ClR} {n : Nat} {f : String} {x : Str} {fa : Addr} (X : K.In h) (G : h.Ns mainGlobals mg) (hx : moreB rows exs cl K = true) (c : He.SaysD (fas cs rows) (rows.map (Row.dd P)) K) (hb : ∀ r ∈ rows, BindN P r) (hc : ∀ r ∈ rows, rowChk P cs rows exs cl r = true)
    (i : Nat) (r : Row) (hr : rows[i]? = some r) (hf : r.nm = f) (hat : r.at_ = none) (hdf : r.fd.dfl = []) (hps : r.ps = [x]) (hp1 : r.fd.ps = 1) (hfind : (rows.find? fun q => q.nm == f) = some r) (L : LawSays (tabOf rows exs cl) (n + 1) f) (hfa : mg (Str.ofString f) = some (.ref fa)) :
    ∃ (K : PySem.W.Frag) (fd : FuncData) (sp : Sp), K.In h ∧ (∀ (s : Shared) (u : Value), BindsTo s fd ⟨[u], []⟩ [(x, u)]) ∧
        (∀ (H : Hp) (a : Addr) (ns : List Int), ns.length ≤ 63 → (∀ z ∈ ns, Builtin.Int.intBits z ≤ 1048576) → Only H → SqL K H a (ns.map V.int) → sp [.ref a] H (fun v _ => v = .bl true) fun _ _ _ => False) ∧
        ∀ base : Heap, K.In base → base.Ns mainGlobals mg → FnOk P w K mg base (L2.CX P w) (2 * n + 2) fa fd [x] sp := by
  subst hf
  have hm : r ∈ rows := List.mem_of_getElem? hr
  have Pr := prg_of ⟨r, hm⟩ X G hx c hb hc
  obtain ⟨fd, F, kp, hbs⟩ := row_is (mg := mg) (cl := cl) c hr (hb r hm) (hc r hm)
  have gl := (glo_row X G c hm hat).1
  have e := hfa.symm.trans gl
  cases e
  refine ⟨K, fd, spF K mg 1 (callN (tabOf rows exs cl) (n + 1) r.nm), X, fun s u => ?_, fun H a ns h1 h2 h3 h4 => law_sp L h1 h2 h3 h4, fun base _ _ => ?_⟩
  · have b := hbs hdf s [u] (by rw [hps]; rfl)
    rw [hps] at b
    exact b
  · have hT : (tabOf rows exs cl).fn r.nm = some r.fd := by
      show (rows.find? fun q => q.nm == r.nm).map (·.fd) = _
      rw [hfind]
      rfl
    have z := body_ok (P := P) (w := w) (base := base) Pr (prg_ok Pr n) hT F
    rw [hps, hp1] at z
    exact z
end EW

-- part: Run
set_option maxHeartbeats 1000000
/-! running Mini: what each construct comes to, for simp -/
namespace EW
open PySem PySem.Spec PyProof.Rows L2
section
variable (G : Gam) (st : St)
@[simp] theorem ev_k (d : D) : ev G (.k d) st = .ok (.d d) st := by simp only [ev]
@[simp] theorem ev_g (n : String) (d : D) : ev G (.g n d) st = .ok (.d d) st := by simp only [ev]
@[simp] theorem ev_v (i : Nat) : ev G (.v i) st = (match st.σ[i]? with
    | some (.d x) => .ok (.d x) st
    | some (.o _) => .ok (.pl i) st
    | _ => .bad) := by first | (simp only [ev]; done) | (simp only [ev]; rfl)
/-- a tuple, a list is made -/
def mkTup (ds : List D) (st : St) : Out EV := if ds.length ≤ lim then .ok (.d (.tup ds)) st else .bad
def mkLst (ds : List D) (st : St) : Out EV := if ds.length ≤ lim then .ok (.o (.lst ds)) st else .bad
@[simp] theorem ev_tup (es : List E) : ev G (.tup es) st = (evs G es st).bind fun vs st1 => (Out.of2 (toDs vs st1)).bind mkTup := by simp only [ev]; rfl
@[simp] theorem ev_lst (es : List E) : ev G (.lst es) st = (evs G es st).bind fun vs st1 => (Out.of2 (toDs vs st1)).bind mkLst := by simp only [ev]; rfl
/-- two read things -/
def two (f : Wv → Wv → Option EV) (a b : Option Wv) : Option EV := match a, b with
  | some a, some b => f a b
  | _, _ => none
@[simp] theorem two_some (f : Wv → Wv → Option EV) (a b : Wv) : two f (some a) (some b) = f a b := rfl
theorem two_of (f : Wv → Wv → Option EV) (a b : Option Wv) : (match a, b with
    | some wa, some wb => Out.of st (f wa wb)
    | _, _ => .bad) = Out.of st (two f a b) := by
  cases a <;> cases b <;> rfl
@[simp] theorem ev_bin (op : Operator) (a b : E) : ev G (.bin op a b) st = (ev G a st).bind fun va st1 => (ev G b st1).bind fun vb st2 => Out.of st2 (two (binW op) (rd st2 va) (rd st2 vb)) := by
  simp only [ev]
  congr 1
  funext va st1
  congr 1
  funext vb st2
  exact two_of st2 _ _ _
def cmpE (op : CmpOp) (a b : Wv) : Option EV := (cmpW op a b).map fun t => .d (.bl t)
@[simp] theorem ev_cmp (op : CmpOp) (a b : E) : ev G (.cmp op a b) st = (ev G a st).bind fun va st1 => (ev G b st1).bind fun vb st2 => Out.of st2 (two (cmpE op) (rd st2 va) (rd st2 vb)) := by
  simp only [ev]
  congr 1
  funext va st1
  congr 1
  funext vb st2
  exact two_of st2 (cmpE op) _ _
def idxE (a b : Wv) : Option EV := (idxW a b).map EV.d
@[simp] theorem ev_idx (a b : E) : ev G (.idx a b) st = (ev G a st).bind fun va st1 => (ev G b st1).bind fun vb st2 => Out.of st2 (two idxE (rd st2 va) (rd st2 vb)) := by
  simp only [ev]
  congr 1
  funext va st1
  congr 1
  funext vb st2
  exact two_of st2 idxE _ _
@[simp] theorem ev_neg (a : E) : ev G (.neg a) st = (ev G a st).bind fun va st1 => Out.of st1 (((rd st1 va).bind intW).map fun i => .d (.int (-i))) := by
  simp only [ev]
  congr 1
  funext va st1
  cases (rd st1 va).bind intW <;> rfl
@[simp] theorem ev_not (a : E) : ev G (.not a) st = (ev G a st).bind fun va st1 => Out.of st1 (((rd st1 va).bind truthW).map fun b => .d (.bl (!b))) := by
  simp only [ev]
  congr 1
  funext va st1
  cases (rd st1 va).bind truthW <;> rfl
/-- a truth, then the one or the other -/
def brn {α : Type} (o : Option Bool) (a b : Out α) : Out α := match o with
  | some true => a
  | some false => b
  | none => .bad
@[simp] theorem brn_true {α : Type} (a b : Out α) : brn (some true) a b = a := rfl
@[simp] theorem brn_false {α : Type} (a b : Out α) : brn (some false) a b = b := rfl
theorem brn_some {α : Type} (t : Bool) (a b : Out α) : brn (some t) a b = if t = true then a else b := by cases t <;> rfl
@[simp] theorem ev_and (a b : E) : ev G (.and a b) st = (ev G a st).bind fun va st1 => brn ((rd st1 va).bind truthW) (ev G b st1) (.ok va st1) := by
  simp only [ev]
  rfl
@[simp] theorem ev_or (a b : E) : ev G (.or a b) st = (ev G a st).bind fun va st1 => brn ((rd st1 va).bind truthW) (.ok va st1) (ev G b st1) := by
  simp only [ev]
  congr 1
  funext va st1
  cases (rd st1 va).bind truthW with
  | none => rfl
  | some t => cases t <;> rfl
@[simp] theorem ev_ife (c a b : E) : ev G (.ife c a b) st = (tst G c st).bind fun t st1 => if t = true then ev G a st1 else ev G b st1 := by simp only [ev]
@[simp] theorem ev_sl (a lo hi : E) : ev G (.sl a lo hi) st = (ev G a st).bind fun va st1 => (evo G lo st1).bind fun l st2 => (evo G hi st2).bind fun h st3 => Out.of st3 ((rd st3 va).bind fun w => slW w l h) := by
  simp only [ev]
  congr 1
  funext va st1
  congr 1
  funext l st2
  congr 1
  funext h st3
  cases rd st3 va <;> rfl
@[simp] theorem ev_call (f : String) (es : List E) : ev G (.call f es) st = (evs G es st).bind fun vs st1 => (Out.of2 (toDs vs st1)).bind fun ds st2 => (G.call f ds st2.h).out st2 := by simp only [ev]
@[simp] theorem ev_bi (b : B) (es : List E) : ev G (.bi b es) st = (evs G es st).bind fun vs st1 => Out.of st1 (biS b st1 vs) := by simp only [ev]
def isiE (sub : String → String → Bool) (up : String → String → Option Bool) (ts : List String) (w : Wv) : Option EV := (ts.mapM (isiW sub up w)).map fun bs => .d (.bl (bs.any id))
@[simp] theorem ev_isi (a : E) (ts : List String) : ev G (.isi a ts) st = (ev G a st).bind fun va st1 => Out.of st1 ((rd st1 va).bind (isiE G.sub G.cl.up ts)) := by
  simp only [ev]
  congr 1
  funext va st1
  cases rd st1 va with
  | none => rfl
  | some w =>
    show Out.of st1 _ = Out.of st1 (isiE G.sub G.cl.up ts w)
    unfold isiE
    cases ts.mapM (isiW G.sub G.cl.up w) <;> rfl
@[simp] theorem ev_it (k : I) (es : List E) : ev G (.it k es) st = (evs G es st).bind fun vs st1 => .ok (.it k vs) st1 := by simp only [ev]
@[simp] theorem ev_trv (a : E) : ev G (.trv a) st = (ev G a st).bind fun va st1 => Out.of st1 (((rd st1 va).bind seqL).map fun ds => .d (.tup ds.reverse)) := by
  simp only [ev]
  congr 1
  funext va st1
  cases (rd st1 va).bind seqL <;> rfl
def lstW : Wv → Option (List D)
  | .o (.lst ds) => some ds
  | _ => none
@[simp] theorem lstW_lst (ds : List D) : lstW (.o (.lst ds)) = some ds := rfl
@[simp] theorem ev_lrv (a : E) : ev G (.lrv a) st = (ev G a st).bind fun va st1 => match (rd st1 va).bind lstW with
    | some ds => .ok (.o (.lst ds.reverse)) st1
    | none => .bad := by
  simp only [ev]
  congr 1
  funext va st1
  cases rd st1 va with
  | none => rfl
  | some w =>
    cases w with
    | d x => rfl
    | o x => cases x <;> rfl
@[simp] theorem ev_meth (m : String) (o : E) (es : List E) : ev G (.meth m o es) st = (ev G o st).bind fun vo st1 => if (rd st1 vo).any (methOk m es.length) = true then (evs G es st1).bind fun vs st2 => (Out.of2 (toDs vs st2)).bind fun ds st3 =>
      if (rd st3 vo).any (methOk m es.length) = true then Out.of2 (change vo (mutO m ds) st3) else .bad else .bad := by
  simp only [ev]
@[simp] theorem ev_dct (t : Bool) (es vs : List E) : ev G (.dct t es vs) st = (evs G es st).bind fun rs st1 => (Out.of2 (toDs rs st1)).bind fun ds st2 => match mkDct t ds with
    | some o => .ok (.o o) st2
    | none => .bad := by
  first | (rw [ev]; done) | (rw [ev]; rfl)
@[simp] theorem mkDct_nil (t : Bool) : mkDct t [] = some (.dct t []) := rfl
theorem mkDct_cons (d : D) (ds : List D) : mkDct false (d :: ds) = if ds.length + 1 ≤ 30 then (pairUp (d :: ds)).map fun prs => .dct false (dputs [] prs) else none := by simp [mkDct]

/-- max of a list, or what is told where it is empty -/
def maxdW (i : Int) : Wv → Option EV
  | .o (.lst ds) => (intsD ds).map fun is => match is with
    | [] => .d (.int i)
    | j :: r => .d (.int (maxI j r))
  | _ => none
@[simp] theorem maxdW_lst (i : Int) (ds : List D) : maxdW i (.o (.lst ds)) = (intsD ds).map fun is => match is with
    | [] => .d (.int i)
    | j :: r => .d (.int (maxI j r)) := rfl
@[simp] theorem ev_bid (e d : E) : ev G (.bid e d) st = (ev G e st).bind fun v st1 => (ev G d st1).bind fun u st2 => Out.of st2 ((rd st2 v).bind fun w => ((rd st2 u).bind intW).bind fun i => maxdW i w) := by
  simp only [ev]
  congr 1
  funext v st1
  congr 1
  funext u st2
  cases h : rd st2 v with
  | none => rfl
  | some w =>
    cases h2 : (rd st2 u).bind intW with
    | none => cases w with
      | d x => rfl
      | o x => cases x <;> rfl
    | some i =>
      cases w with
      | d x => rfl
      | o x =>
        cases x with
        | lst ds =>
          simp only [Option.bind_some, maxdW]
          cases intsD ds with
          | none => rfl
          | some is => cases is <;> rfl
        | _ => rfl
/-- a list gets another's items -/
def extO (ys : List D) : O → Option (O × EV)
  | .lst xs => if xs.length + ys.length ≤ lim then some (.lst (xs ++ ys), .d .non) else none
  | _ => none
@[simp] theorem extO_lst (xs ys : List D) : extO ys (.lst xs) = if xs.length + ys.length ≤ lim then some (.lst (xs ++ ys), .d .non) else none := rfl
theorem extO_def (ys : List D) : (fun x : O => match x with
        | .lst xs => if xs.length + ys.length ≤ lim then some (.lst (xs ++ ys), EV.d .non) else none
        | _ => none) = extO ys := by
  funext x
  cases x <;> rfl
@[simp] theorem ev_ext (o a : E) : ev G (.ext o a) st = (ev G o st).bind fun vo st1 => match (rd st1 vo).bind lstW with
    | some _ => (ev G a st1).bind fun va st2 => match (rd st2 va).bind lstW with
      | some ys => Out.of2 (change vo (extO ys) st2)
      | none => .bad
    | none => .bad := by
  simp only [ev]
  congr 1
  funext vo st1
  cases h : rd st1 vo with
  | none => rfl
  | some w =>
    cases w with
    | d x => rfl
    | o x =>
      cases x with
      | lst xs =>
        simp only [Option.bind_some, lstW_lst]
        congr 1
        funext va st2
        cases h2 : rd st2 va with
        | none => rfl
        | some w =>
          cases w with
          | d x => rfl
          | o x => 
            cases x with
            | lst ys =>
              simp only [Option.bind_some, lstW_lst]
              first | rfl | (congr 2; exact extO_def ys)
            | _ => rfl
      | _ => rfl
def smV (m : String) (vo : EV) (st2 : St) (vs : List EV) : Option EV := match vo with
  | .d (.str x) => smS m x st2 vs
  | _ => none
@[simp] theorem ev_sm (m : String) (o : E) (es : List E) : ev G (.sm m o es) st = (ev G o st).bind fun vo st1 => match vo with
    | .d (.str x) => (evs G es st1).bind fun vs st2 => Out.of st2 (smS m x st2 vs)
    | _ => .bad := by first | (simp only [ev]; done) | (simp only [ev]; rfl)
@[simp] theorem evs_nil : evs G [] st = .ok [] st := by simp only [evs]
@[simp] theorem evs_cons (e : E) (es : List E) : evs G (e :: es) st = (ev G e st).bind fun v st1 => (evs G es st1).bind fun vs st2 => .ok (v :: vs) st2 := by simp only [evs]
@[simp] theorem evo_no : evo G .no st = .ok none st := by simp only [evo]
def isNoE : E → Bool
  | .no => true
  | _ => false
theorem evo_e (e : E) (h : isNoE e = false) : evo G e st = (ev G e st).bind fun v st1 => Out.of st1 (((rd st1 v).bind intW).map some) := by
  have key : evo G e st = (ev G e st).bind fun v st1 => match (rd st1 v).bind intW with
      | some i => .ok (some i) st1
      | none => .bad := by
    cases e <;> first | (simp only [evo]; done) | (simp only [evo]; rfl) | cases h
  rw [key]
  congr 1
  funext v st1
  cases (rd st1 v).bind intW <;> rfl
@[simp] theorem tst_and (a b : E) : tst G (.and a b) st = (tst G a st).bind fun t st1 => if t = true then tst G b st1 else .ok false st1 := by simp only [tst]
@[simp] theorem tst_or (a b : E) : tst G (.or a b) st = (tst G a st).bind fun t st1 => if t = true then .ok true st1 else tst G b st1 := by simp only [tst]
@[simp] theorem tst_not (a : E) : tst G (.not a) st = (tst G a st).bind fun t st1 => .ok (!t) st1 := by simp only [tst]
@[simp] theorem tst_ife (c a b : E) : tst G (.ife c a b) st = (tst G c st).bind fun t st1 => if t = true then tst G a st1 else tst G b st1 := by simp only [tst]
def plainT : E → Bool
  | .and _ _ => false
  | .or _ _ => false
  | .not _ => false
  | .ife _ _ _ => false
  | _ => true
theorem tst_e (e : E) (h : plainT e = true) : tst G e st = (ev G e st).bind fun v st1 => Out.of st1 ((rd st1 v).bind truthW) := by
  have key : tst G e st = (ev G e st).bind fun v st1 => match (rd st1 v).bind truthW with
      | some t => .ok t st1
      | none => .bad := by
    cases e <;> first | (simp only [tst]; done) | (simp only [tst]; rfl) | cases h
  rw [key]
  congr 1
  funext v st1
  cases (rd st1 v).bind truthW <;> rfl
/-! statements -/
@[simp] theorem ex_pass : ex G .pass st = .ok .nx st := by simp only [ex]
@[simp] theorem ex_cont : ex G .cont st = .ok .ct st := by simp only [ex]
def ofS (o : Option St) : Out Fl := match o with
  | some st => .ok .nx st
  | none => .bad
@[simp] theorem ofS_some : ofS (some st) = .ok .nx st := rfl
@[simp] theorem ex_asg (t : Tg) (e : E) : ex G (.asg t e) st = (ev G e st).bind fun v st1 => ofS (bindV t v st1) := by
  simp only [ex]
  congr 1
  try funext v st1
  try (cases bindV t v st1 <;> rfl)
@[simp] theorem ex_ex (e : E) : ex G (.ex e) st = (ev G e st).bind fun _ st1 => .ok .nx st1 := by simp only [ex]
@[simp] theorem ex_ret (e : E) : ex G (.ret e) st = (ev G e st).bind fun v st1 => Out.of st1 ((leave v st1).map .rt) := by
  simp only [ex]
  congr 1
  funext v st1
  cases leave v st1 <;> rfl
@[simp] theorem ex_ife (c : E) (a b : List S) : ex G (.ife c a b) st = (tst G c st).bind fun t st1 => if t = true then exs G a st1 else exs G b st1 := by simp only [ex]
@[simp] theorem exs_nil : exs G [] st = .ok .nx st := by simp only [exs]
/-- what comes behind a statement -/
def thn' (f : Fl) (st : St) (k : St → Out Fl) : Out Fl := match f with
  | .nx => k st
  | f => .ok f st
@[simp] theorem thn_nx (k : St → Out Fl) : thn' .nx st k = k st := rfl
@[simp] theorem thn_rt (v : EV) (k : St → Out Fl) : thn' (.rt v) st k = .ok (.rt v) st := rfl
@[simp] theorem thn_ct (k : St → Out Fl) : thn' .ct st k = .ok .ct st := rfl
@[simp] theorem exs_cons (s : S) (r : List S) : exs G (s :: r) st = (ex G s st).bind fun f st1 => thn' f st1 (exs G r) := by
  simp only [exs]
  congr 1
  try funext f st1
  try (cases f <;> rfl)
end
@[simp] theorem tst_k (G : Gam) (st : St) (d : D) : tst G (.k d) st = (ev G (.k d) st).bind fun v st1 => Out.of st1 ((rd st1 v).bind truthW) := tst_e G st _ rfl
@[simp] theorem evo_k (G : Gam) (st : St) (d : D) : evo G (.k d) st = (ev G (.k d) st).bind fun v st1 => Out.of st1 (((rd st1 v).bind intW).map some) := evo_e G st _ rfl
@[simp] theorem tst_v (G : Gam) (st : St) (i : Nat) : tst G (.v i) st = (ev G (.v i) st).bind fun v st1 => Out.of st1 ((rd st1 v).bind truthW) := tst_e G st _ rfl
@[simp] theorem evo_v (G : Gam) (st : St) (i : Nat) : evo G (.v i) st = (ev G (.v i) st).bind fun v st1 => Out.of st1 (((rd st1 v).bind intW).map some) := evo_e G st _ rfl
@[simp] theorem tst_g (G : Gam) (st : St) (n : String) (d : D) : tst G (.g n d) st = (ev G (.g n d) st).bind fun v st1 => Out.of st1 ((rd st1 v).bind truthW) := tst_e G st _ rfl
@[simp] theorem evo_g (G : Gam) (st : St) (n : String) (d : D) : evo G (.g n d) st = (ev G (.g n d) st).bind fun v st1 => Out.of st1 (((rd st1 v).bind intW).map some) := evo_e G st _ rfl
@[simp] theorem tst_bin (G : Gam) (st : St) (op : Operator) (a b : E) : tst G (.bin op a b) st = (ev G (.bin op a b) st).bind fun v st1 => Out.of st1 ((rd st1 v).bind truthW) := tst_e G st _ rfl
@[simp] theorem evo_bin (G : Gam) (st : St) (op : Operator) (a b : E) : evo G (.bin op a b) st = (ev G (.bin op a b) st).bind fun v st1 => Out.of st1 (((rd st1 v).bind intW).map some) := evo_e G st _ rfl
@[simp] theorem tst_cmp (G : Gam) (st : St) (op : CmpOp) (a b : E) : tst G (.cmp op a b) st = (ev G (.cmp op a b) st).bind fun v st1 => Out.of st1 ((rd st1 v).bind truthW) := tst_e G st _ rfl
@[simp] theorem tst_chn (G : Gam) (st : St) (op op2 : CmpOp) (a b c : E) : tst G (.chn op op2 a b c) st = (ev G (.chn op op2 a b c) st).bind fun v st1 => Out.of st1 ((rd st1 v).bind truthW) := tst_e G st _ rfl
@[simp] theorem tst_idx (G : Gam) (st : St) (a b : E) : tst G (.idx a b) st = (ev G (.idx a b) st).bind fun v st1 => Out.of st1 ((rd st1 v).bind truthW) := tst_e G st _ rfl
@[simp] theorem evo_idx (G : Gam) (st : St) (a b : E) : evo G (.idx a b) st = (ev G (.idx a b) st).bind fun v st1 => Out.of st1 (((rd st1 v).bind intW).map some) := evo_e G st _ rfl
@[simp] theorem tst_call (G : Gam) (st : St) (f : String) (es : List E) : tst G (.call f es) st = (ev G (.call f es) st).bind fun v st1 => Out.of st1 ((rd st1 v).bind truthW) := tst_e G st _ rfl
@[simp] theorem evo_call (G : Gam) (st : St) (f : String) (es : List E) : evo G (.call f es) st = (ev G (.call f es) st).bind fun v st1 => Out.of st1 (((rd st1 v).bind intW).map some) := evo_e G st _ rfl
@[simp] theorem tst_bi (G : Gam) (st : St) (b : B) (es : List E) : tst G (.bi b es) st = (ev G (.bi b es) st).bind fun v st1 => Out.of st1 ((rd st1 v).bind truthW) := tst_e G st _ rfl
@[simp] theorem evo_bi (G : Gam) (st : St) (b : B) (es : List E) : evo G (.bi b es) st = (ev G (.bi b es) st).bind fun v st1 => Out.of st1 (((rd st1 v).bind intW).map some) := evo_e G st _ rfl
@[simp] theorem tst_isi (G : Gam) (st : St) (a : E) (ts : List String) : tst G (.isi a ts) st = (ev G (.isi a ts) st).bind fun v st1 => Out.of st1 ((rd st1 v).bind truthW) := tst_e G st _ rfl
@[simp] theorem tst_meth (G : Gam) (st : St) (m : String) (o : E) (es : List E) : tst G (.meth m o es) st = (ev G (.meth m o es) st).bind fun v st1 => Out.of st1 ((rd st1 v).bind truthW) := tst_e G st _ rfl
@[simp] theorem evo_meth (G : Gam) (st : St) (m : String) (o : E) (es : List E) : evo G (.meth m o es) st = (ev G (.meth m o es) st).bind fun v st1 => Out.of st1 (((rd st1 v).bind intW).map some) := evo_e G st _ rfl
@[simp] theorem tst_neg (G : Gam) (st : St) (a : E) : tst G (.neg a) st = (ev G (.neg a) st).bind fun v st1 => Out.of st1 ((rd st1 v).bind truthW) := tst_e G st _ rfl
@[simp] theorem evo_neg (G : Gam) (st : St) (a : E) : evo G (.neg a) st = (ev G (.neg a) st).bind fun v st1 => Out.of st1 (((rd st1 v).bind intW).map some) := evo_e G st _ rfl
@[simp] theorem tst_sl (G : Gam) (st : St) (a b c : E) : tst G (.sl a b c) st = (ev G (.sl a b c) st).bind fun v st1 => Out.of st1 ((rd st1 v).bind truthW) := tst_e G st _ rfl
@[simp] theorem evo_sl (G : Gam) (st : St) (a b c : E) : evo G (.sl a b c) st = (ev G (.sl a b c) st).bind fun v st1 => Out.of st1 (((rd st1 v).bind intW).map some) := evo_e G st _ rfl
@[simp] theorem tst_tup (G : Gam) (st : St) (es : List E) : tst G (.tup es) st = (ev G (.tup es) st).bind fun v st1 => Out.of st1 ((rd st1 v).bind truthW) := tst_e G st _ rfl
@[simp] theorem tst_lst (G : Gam) (st : St) (es : List E) : tst G (.lst es) st = (ev G (.lst es) st).bind fun v st1 => Out.of st1 ((rd st1 v).bind truthW) := tst_e G st _ rfl
@[simp] theorem tst_lc (G : Gam) (st : St) (a : E) (t : Tg) (b c : E) : tst G (.lc a t b c) st = (ev G (.lc a t b c) st).bind fun v st1 => Out.of st1 ((rd st1 v).bind truthW) := tst_e G st _ rfl
@[simp] theorem tst_trv (G : Gam) (st : St) (a : E) : tst G (.trv a) st = (ev G (.trv a) st).bind fun v st1 => Out.of st1 ((rd st1 v).bind truthW) := tst_e G st _ rfl
/-! reading -/
section
variable (st : St)
@[simp] theorem rd_non : rd st (.d .non) = some (.d .non) := rfl
@[simp] theorem rd_bl (b : Bool) : rd st (.d (.bl b)) = some (.d (.bl b)) := rfl
@[simp] theorem rd_int (i : Int) : rd st (.d (.int i)) = some (.d (.int i)) := rfl
@[simp] theorem rd_str (x : Str) : rd st (.d (.str x)) = some (.d (.str x)) := rfl
@[simp] theorem rd_tup (ds : List D) : rd st (.d (.tup ds)) = some (.d (.tup ds)) := rfl
@[simp] theorem rd_fz (ds : List D) : rd st (.d (.fz ds)) = some (.d (.fz ds)) := rfl
@[simp] theorem rd_ref (a : Nat) : rd st (.d (.ref a)) = (st.h[a]?).map Wv.o := rfl
@[simp] theorem rd_o (x : O) : rd st (.o x) = some (.o x) := rfl
@[simp] theorem rd_pl (i : Nat) : rd st (.pl i) = (match st.σ[i]? with
    | some (.o x) => some (.o x)
    | some (.d (.ref a)) => (st.h[a]?).map Wv.o
    | _ => none) := rfl
@[simp] theorem toD_d (x : D) : toD (.d x) st = some (x, st) := rfl
@[simp] theorem toD_o (x : O) : toD (.o x) st = some (.ref st.h.length, { st with h := st.h ++ [x] }) := rfl
@[simp] theorem toD_pl (i : Nat) : toD (.pl i) st = (match st.σ[i]? with
    | some (.o x) => some (.ref st.h.length, { σ := st.σ.set i (.d (.ref st.h.length)), h := st.h ++ [x] })
    | some (.d x) => some (x, st)
    | _ => none) := rfl
@[simp] theorem toDs_nil : toDs [] st = some ([], st) := rfl
@[simp] theorem toDs_cons (v : EV) (vs : List EV) : toDs (v :: vs) st = (toD v st).bind fun p => (toDs vs p.2).map fun q => (p.1 :: q.1, q.2) := by
  simp only [toDs]
  cases toD v st with
  | none => rfl
  | some p =>
    obtain ⟨x, s1⟩ := p
    cases h2 : toDs vs s1 <;> simp [h2]
@[simp] theorem put_d (i : Nat) (x : D) : put i (.d x) st = some (st.set i (.d x)) := rfl
@[simp] theorem put_o (i : Nat) (x : O) : put i (.o x) st = some (st.set i (.o x)) := rfl
@[simp] theorem put_pl (i j : Nat) : put i (.pl j) st = (toD (.pl j) st).map fun p => p.2.set i (.d p.1) := by
  cases h : toD (.pl j) st with
  | none => simp only [put, h]; rfl
  | some p =>
    obtain ⟨x, s1⟩ := p
    simp only [put, h]
    rfl
@[simp] theorem bindV_v (i : Nat) (v : EV) : bindV (.v i) v st = put i v st := rfl
@[simp] theorem bindV_tup (ts : List Tg) (ds : List D) : bindV (.tup ts) (.d (.tup ds)) st = bindDs ts ds st := rfl
@[simp] theorem bindD_v (i : Nat) (x : D) : bindD (.v i) x st = some (st.set i (.d x)) := rfl
@[simp] theorem bindD_tup (ts : List Tg) (ds : List D) : bindD (.tup ts) (.tup ds) st = bindDs ts ds st := rfl
@[simp] theorem bindDs_nil : bindDs [] [] st = some st := rfl
@[simp] theorem bindDs_cons (t : Tg) (ts : List Tg) (d : D) (ds : List D) : bindDs (t :: ts) (d :: ds) st = (bindD t d st).bind (bindDs ts ds) := by
  simp only [bindDs]
  cases bindD t d st <;> rfl
@[simp] theorem leave_d (x : D) : leave (.d x) st = some (.d x) := rfl
@[simp] theorem leave_o (x : O) : leave (.o x) st = some (.o x) := rfl
@[simp] theorem leave_pl (i : Nat) : leave (.pl i) st = (match st.σ[i]? with
    | some (.o x) => some (.o x)
    | some (.d x) => some (.d x)
    | _ => none) := rfl
@[simp] theorem set_mk (σ : List Sl) (h : List O) (i : Nat) (s : Sl) : St.set ⟨σ, h⟩ i s = ⟨σ.set i s, h⟩ := rfl
end
/-! operators -/
section
variable (i j : Int) (x y : Str) (ds es : List D)
@[simp] theorem bin_add : binW .Add (.d (.int i)) (.d (.int j)) = some (.d (.int (i + j))) := rfl
@[simp] theorem bin_sub : binW .Sub (.d (.int i)) (.d (.int j)) = some (.d (.int (i - j))) := rfl
theorem bin_mul : binW .Mult (.d (.int i)) (.d (.int j)) = if i.natAbs.log2 + j.natAbs.log2 < 130000000 then some (.d (.int (i * j))) else none := rfl
theorem bin_fdiv : binW .FloorDiv (.d (.int i)) (.d (.int j)) = if 0 < j ∧ j.natAbs.log2 < 9000 then some (.d (.int (i / j))) else none := rfl
theorem bin_mod : binW .Mod (.d (.int i)) (.d (.int j)) = if 0 < j then some (.d (.int (i % j))) else none := rfl
theorem bin_pow : binW .Pow (.d (.int i)) (.d (.int j)) = if 0 ≤ j ∧ j ≤ 1000000 ∧ i.natAbs < 2 ^ 64 then some (.d (.int (i ^ j.toNat))) else none := rfl
/-- less than 2^250 -/
def sm (i : Int) : Prop := i.natAbs < 2 ^ 250
instance (i : Int) : Decidable (sm i) := inferInstanceAs (Decidable (_ < _))
theorem log_sm {i : Int} (h : sm i) : i.natAbs.log2 ≤ 1000 := by
  unfold sm at h
  by_cases z : i.natAbs = 0
  · rw [z]
    decide
  · have := (Nat.log2_lt z).mpr h
    omega
theorem sm_of {i : Int} (h0 : 0 ≤ i) (h1 : i < 2 ^ 250) : sm i := by
  unfold sm
  omega
@[simp] theorem bin_mul' (hi : sm i) (hj : sm j) : binW .Mult (.d (.int i)) (.d (.int j)) = some (.d (.int (i * j))) := by
  have h1 := log_sm hi
  have h2 := log_sm hj
  rw [bin_mul, if_pos (by omega)]
@[simp] theorem bin_fdiv' (h0 : 0 < j) (h1 : j ≤ 2 ^ 64) : binW .FloorDiv (.d (.int i)) (.d (.int j)) = some (.d (.int (i / j))) := by
  have h2 : sm j := by
    unfold sm
    omega
  have h3 := log_sm h2
  rw [bin_fdiv, if_pos ⟨h0, by omega⟩]
@[simp] theorem bin_mod' (h0 : 0 < j) : binW .Mod (.d (.int i)) (.d (.int j)) = some (.d (.int (i % j))) := by rw [bin_mod, if_pos h0]
@[simp] theorem bin_pow' (h0 : 0 ≤ j) (h1 : j ≤ 1000000) (h2 : i.natAbs < 2 ^ 64) : binW .Pow (.d (.int i)) (.d (.int j)) = some (.d (.int (i ^ j.toNat))) := by rw [bin_pow, if_pos ⟨h0, h1, h2⟩]
@[simp] theorem bin_strs : binW .Add (.d (.str x)) (.d (.str y)) = if x.length + y.length ≤ lim then some (.d (.str (x ++ y))) else none := rfl
@[simp] theorem bin_tups : binW .Add (.d (.tup ds)) (.d (.tup es)) = if ds.length + es.length ≤ lim then some (.d (.tup (ds ++ es))) else none := rfl
@[simp] theorem bin_lsts : binW .Add (.o (.lst ds)) (.o (.lst es)) = if ds.length + es.length ≤ lim then some (.o (.lst (ds ++ es))) else none := rfl
@[simp] theorem cmp_eq (a b : Wv) : cmpE .Eq a b = (eqW a b).map fun t => .d (.bl t) := rfl
@[simp] theorem cmp_ne (a b : Wv) : cmpE .NotEq a b = (eqW a b).map fun t => .d (.bl (!t)) := by
  unfold cmpE cmpW
  cases eqW a b <;> rfl
@[simp] theorem cmp_lt (a b : Wv) : cmpE .Lt a b = (ltW a b).map fun t => .d (.bl t) := rfl
@[simp] theorem cmp_gt (a b : Wv) : cmpE .Gt a b = (ltW b a).map fun t => .d (.bl t) := rfl
@[simp] theorem cmp_le (a b : Wv) : cmpE .LtE a b = (ltW b a).map fun t => .d (.bl (!t)) := by
  unfold cmpE cmpW
  cases ltW b a <;> rfl
@[simp] theorem cmp_ge (a b : Wv) : cmpE .GtE a b = (ltW a b).map fun t => .d (.bl (!t)) := by
  unfold cmpE cmpW
  cases ltW a b <;> rfl
@[simp] theorem eq_int : eqW (.d (.int i)) (.d (.int j)) = some (i == j) := rfl
@[simp] theorem eq_str : eqW (.d (.str x)) (.d (.str y)) = some (x == y) := rfl
@[simp] theorem lt_int : ltW (.d (.int i)) (.d (.int j)) = some (decide (i < j)) := rfl
@[simp] theorem idx_tup : idxE (.d (.tup ds)) (.d (.int i)) = (L2.atI ds i).map EV.d := rfl
@[simp] theorem idx_fz : idxE (.d (.fz ds)) (.d (.int i)) = (L2.atI ds i).map EV.d := rfl
@[simp] theorem idx_lst : idxE (.o (.lst ds)) (.d (.int i)) = (L2.atI ds i).map EV.d := rfl
@[simp] theorem idx_str : idxE (.d (.str x)) (.d (.int i)) = (if x.length ≤ lim then (L2.atI x.cps.toList i).map fun c => .str ⟨#[c]⟩ else none).map EV.d := rfl
@[simp] theorem idx_dct (t : Bool) (kvs : List (D × D)) (k : D) : idxE (.o (.dct t kvs)) (.d k) = (if (kkey t k).isSome = true then dget t kvs k else none).map EV.d := by
  cases k <;> rfl
@[simp] theorem truth_bl (b : Bool) : truthW (.d (.bl b)) = some b := rfl
@[simp] theorem truth_int : truthW (.d (.int i)) = some (i != 0) := rfl
@[simp] theorem intW_int : intW (.d (.int i)) = some i := rfl
@[simp] theorem slW_tup (lo hi : Option Int) : slW (.d (.tup ds)) lo hi = some (.d (.tup (cut ds lo hi))) := rfl
@[simp] theorem slW_lst (lo hi : Option Int) : slW (.o (.lst ds)) lo hi = some (.o (.lst (cut ds lo hi))) := rfl
@[simp] theorem slW_str (lo hi : Option Int) : slW (.d (.str x)) lo hi = if x.length ≤ lim then some (.d (.str ⟨(cut x.cps.toList lo hi).toArray⟩)) else none := rfl
@[simp] theorem seqL_tup : seqL (.d (.tup ds)) = some ds := rfl
@[simp] theorem seqL_lst : seqL (.o (.lst ds)) = some ds := rfl
@[simp] theorem seqW_tup : seqW (.d (.tup ds)) = some ds := rfl
@[simp] theorem seqW_lst : seqW (.o (.lst ds)) = some ds := rfl
@[simp] theorem seqW_fz : seqW (.d (.fz ds)) = some ds := rfl
@[simp] theorem seqW_str : seqW (.d (.str x)) = some (strItems x) := rfl
end
/-! built-in calls -/
section
variable (st : St)
def lenW : Wv → Option EV
  | .d (.tup ds) => some (.d (.int ds.length))
  | .d (.fz ds) => some (.d (.int ds.length))
  | .d (.str x) => if x.length ≤ lim then some (.d (.int x.length)) else none
  | .o (.lst ds) => some (.d (.int ds.length))
  | .o (.dct false kvs) => some (.d (.int kvs.length))
  | _ => none
@[simp] theorem bi_len (v : EV) : biS .len st [v] = (rd st v).bind lenW := by
  cases h : rd st v with
  | none => simp [biS, h]
  | some w =>
    cases w with
    | d d => cases d <;> simp [biS, h, lenW]
    | o o =>
      cases o with
      | dct t kvs => cases t <;> simp [biS, h, lenW]
      | _ => simp [biS, h, lenW]
@[simp] theorem lenW_dct (kvs : List (D × D)) : lenW (.o (.dct false kvs)) = some (.d (.int kvs.length)) := rfl
@[simp] theorem bi_max1 (v : EV) : biS .max st [v] = (rd st v).bind fun w => match w with
    | .o (.lst ds) => (intsD ds).bind fun is => match is with
      | i :: r => some (.d (.int (maxI i r)))
      | [] => none
    | _ => none := by
  cases h : rd st v with
  | none => simp [biS, h]
  | some w =>
    cases w with
    | d d => simp [biS, h]
    | o o =>
      cases o with
      | lst ds =>
        simp only [biS, h, Option.bind_some]
        cases intsD ds with
        | none => rfl
        | some is => cases is <;> rfl
      | _ => simp [biS, h]
/-- list(..) of what is no call -/
def listW : Wv → Option EV
  | .o (.lst ds) => some (.o (.lst ds))
  | .d (.tup ds) => some (.o (.lst ds))
  | .d (.fz ds) => some (.o (.lst ds))
  | .o (.dct false kvs) => if kvs.length ≤ lim then some (.o (.lst (kvs.map (·.1)))) else none
  | _ => none
theorem bi_list (v : EV) (h : ∀ k vs, v ≠ .it k vs) : biS .list st [v] = (rd st v).bind listW := by
  cases v with
  | it k vs => exact (h k vs rfl).elim
  | d x =>
    cases e : rd st (.d x) with
    | none => simp [biS, items, e]
    | some w =>
      cases w with
      | d d => cases d <;> simp [biS, items, e, seqW, listW]
      | o o =>
        cases o with
        | dct t kvs => cases t <;> simp [biS, items, e, seqW, listW]
        | _ => simp [biS, items, e, seqW, listW]
  | o x =>
    cases x with
    | dct t kvs => cases t <;> simp [biS, items, seqW, listW]
    | _ => simp [biS, items, seqW, listW]
  | pl i =>
    cases e : rd st (.pl i) with
    | none => simp [biS, items, e]
    | some w =>
      cases w with
      | d d => cases d <;> simp [biS, items, e, seqW, listW]
      | o o =>
        cases o with
        | dct t kvs => cases t <;> simp [biS, items, e, seqW, listW]
        | _ => simp [biS, items, e, seqW, listW]
@[simp] theorem bi_list_d (x : D) : biS .list st [.d x] = (rd st (.d x)).bind listW := bi_list st _ fun k vs e => nomatch e
@[simp] theorem bi_list_o (x : O) : biS .list st [.o x] = (rd st (.o x)).bind listW := bi_list st _ fun k vs e => nomatch e
@[simp] theorem bi_list_pl (i : Nat) : biS .list st [.pl i] = (rd st (.pl i)).bind listW := bi_list st _ fun k vs e => nomatch e
@[simp] theorem listW_dct (kvs : List (D × D)) : listW (.o (.dct false kvs)) = if kvs.length ≤ lim then some (.o (.lst (kvs.map (·.1)))) else none := rfl
@[simp] theorem listW_lst (ds : List D) : listW (.o (.lst ds)) = some (.o (.lst ds)) := rfl
/-- sorted -/
def srtW : Wv → Option EV
  | .o (.lst ds) => if sortOk ds = true then some (.o (.lst (sortD ds))) else none
  | .o (.dct true kvs) => if sortOk (kvs.map (·.1)) = true ∧ kvs.length ≤ lim then some (.o (.lst (sortD (kvs.map (·.1))))) else none
  | _ => none
@[simp] theorem srtW_lst (ds : List D) : srtW (.o (.lst ds)) = if sortOk ds = true then some (.o (.lst (sortD ds))) else none := rfl
@[simp] theorem srtW_dct (kvs : List (D × D)) : srtW (.o (.dct true kvs)) = if sortOk (kvs.map (·.1)) = true ∧ kvs.length ≤ lim then some (.o (.lst (sortD (kvs.map (·.1))))) else none := rfl
@[simp] theorem bi_sorted (v : EV) : biS .sorted st [v] = (rd st v).bind srtW := by
  cases h : rd st v with
  | none => simp [biS, h]
  | some w =>
    cases w with
    | d d => cases d <;> simp [biS, h, srtW]
    | o o =>
      cases o with
      | dct t kvs => cases t <;> simp [biS, h, srtW]
      | _ => simp [biS, h, srtW]
@[simp] theorem lenW_tup (ds : List D) : lenW (.d (.tup ds)) = some (.d (.int ds.length)) := rfl
@[simp] theorem lenW_fz (ds : List D) : lenW (.d (.fz ds)) = some (.d (.int ds.length)) := rfl
@[simp] theorem lenW_lst (ds : List D) : lenW (.o (.lst ds)) = some (.d (.int ds.length)) := rfl
@[simp] theorem lenW_str (x : Str) : lenW (.d (.str x)) = if x.length ≤ lim then some (.d (.int x.length)) else none := rfl
@[simp] theorem bi_sum (v : EV) : biS .sum st [v] = (rd st v).bind fun w => match w with
    | .o (.lst ds) => (sumD 0 ds).map fun i => .d (.int i)
    | _ => none := by
  cases h : rd st v with
  | none => simp [biS, h]
  | some w =>
    cases w with
    | d d => simp [biS, h]
    | o o => cases o <;> simp [biS, h]
@[simp] theorem bi_max2 (v u : EV) : biS .max st [v, u] = ((rd st v).bind intW).bind fun i => ((rd st u).bind intW).map fun j => .d (.int (if j > i then j else i)) := by
  cases h : (rd st v).bind intW <;> cases h2 : (rd st u).bind intW <;> simp [biS, h, h2]
@[simp] theorem bi_min2 (v u : EV) : biS .min st [v, u] = ((rd st v).bind intW).bind fun i => ((rd st u).bind intW).map fun j => .d (.int (if j < i then j else i)) := by
  cases h : (rd st v).bind intW <;> cases h2 : (rd st u).bind intW <;> simp [biS, h, h2]
@[simp] theorem bi_divmod (v u : EV) : biS .divmod st [v, u] = ((rd st v).bind intW).bind fun i => ((rd st u).bind intW).bind fun j => if 0 < j ∧ Builtin.Int.intBits i ≤ Builtin.Int.intBits j + 4000 then some (.d (.tup [.int (i / j), .int (i % j)])) else none := by
  cases h : (rd st v).bind intW <;> cases h2 : (rd st u).bind intW <;> simp [biS, h, h2]
def tupW : Wv → Option EV
  | .o (.lst ds) => some (.d (.tup ds))
  | .d (.tup ds) => some (.d (.tup ds))
  | _ => none
theorem bi_tuple (v : EV) (h : ∀ k vs, v ≠ .it k vs) : biS .tuple st [v] = (rd st v).bind tupW := by
  cases v with
  | it k vs => exact (h k vs rfl).elim
  | d x =>
    cases e : rd st (.d x) with
    | none => simp [biS, items, e]
    | some w =>
      cases w with
      | d d => cases d <;> simp [biS, items, e, seqW, tupW]
      | o o => cases o <;> simp [biS, items, e, seqW, tupW]
  | o x => cases x <;> simp [biS, items, seqW, tupW]
  | pl i =>
    cases e : rd st (.pl i) with
    | none => simp [biS, items, e]
    | some w =>
      cases w with
      | d d => cases d <;> simp [biS, items, e, seqW, tupW]
      | o o => cases o <;> simp [biS, items, e, seqW, tupW]
@[simp] theorem bi_tuple_d (x : D) : biS .tuple st [.d x] = (rd st (.d x)).bind tupW := bi_tuple st _ fun k vs e => nomatch e
@[simp] theorem bi_tuple_o (x : O) : biS .tuple st [.o x] = (rd st (.o x)).bind tupW := bi_tuple st _ fun k vs e => nomatch e
@[simp] theorem bi_tuple_pl (i : Nat) : biS .tuple st [.pl i] = (rd st (.pl i)).bind tupW := bi_tuple st _ fun k vs e => nomatch e
@[simp] theorem tupW_lst (ds : List D) : tupW (.o (.lst ds)) = some (.d (.tup ds)) := rfl
@[simp] theorem tupW_tup (ds : List D) : tupW (.d (.tup ds)) = some (.d (.tup ds)) := rfl
end
/-! methods -/
@[simp] theorem change_pl (i : Nat) (f : O → Option (O × EV)) (st : St) : change (.pl i) f st = (match st.σ[i]? with
    | some (.o x) => (f x).map fun p => (p.2, st.set i (.o p.1))
    | some (.d (.ref a)) => (st.h[a]?).bind fun x => (f x).map fun p => (p.2, { st with h := st.h.set a p.1 })
    | _ => none) := by
  unfold change
  simp only
  cases h : st.σ[i]? with
  | none => rfl
  | some s =>
    cases s with
    | un => rfl
    | o x =>
      simp only
      cases h2 : f x <;> rfl
    | d x =>
      cases x with
      | ref a =>
        simp only
        cases h2 : st.h[a]? with
        | none => rfl
        | some x =>
          simp only [Option.bind_some]
          cases h3 : f x <;> rfl
      | _ => rfl
@[simp] theorem change_ref (a : Nat) (f : O → Option (O × EV)) (st : St) : change (.d (.ref a)) f st = (st.h[a]?).bind fun x => (f x).map fun p => (p.2, { st with h := st.h.set a p.1 }) := by
  unfold change
  simp only
  cases h2 : st.h[a]? with
  | none => rfl
  | some x =>
    simp only [Option.bind_some]
    cases h3 : f x <;> rfl
@[simp] theorem meth_append (n : Nat) (xs : List D) : methOk "append" n (.o (.lst xs)) = true := by simp [methOk]
@[simp] theorem meth_clear (n : Nat) (xs : List D) : methOk "clear" n (.o (.lst xs)) = true := by simp [methOk]
@[simp] theorem meth_pop (xs : List D) : methOk "pop" 0 (.o (.lst xs)) = true := by simp [methOk]
@[simp] theorem mut_append (xs : List D) (x : D) : mutO "append" [x] (.lst xs) = if xs.length < lim then some (.lst (xs ++ [x]), .d .non) else none := by simp [mutO]
@[simp] theorem mut_clear (xs : List D) : mutO "clear" [] (.lst xs) = some (.lst [], .d .non) := by simp [mutO]
theorem mut_pop (xs : List D) : mutO "pop" [] (.lst xs) = xs.getLast?.map fun y => (.lst xs.dropLast, .d y) := by
  simp only [mutO]
  cases xs.getLast? <;> rfl
@[simp] theorem meth_get (n : Nat) (t : Bool) (kvs : List (D × D)) : methOk "get" n (.o (.dct t kvs)) = true := by simp [methOk]
@[simp] theorem meth_setdefault (n : Nat) (t : Bool) (kvs : List (D × D)) : methOk "setdefault" n (.o (.dct t kvs)) = true := by simp [methOk]
@[simp] theorem mut_get (t : Bool) (kvs : List (D × D)) (k x : D) : mutO "get" [k, x] (.dct t kvs) = if (kkey t k).isSome = true then some (.dct t kvs, .d ((dget t kvs k).getD x)) else none := by simp [mutO]
@[simp] theorem mut_setdefault (t : Bool) (kvs : List (D × D)) (k x : D) : mutO "setdefault" [k, x] (.dct t kvs) = if t = false ∧ (kkey t k).isSome = true ∧ kvs.length < lim then (match dget t kvs k with
      | some v => some (.dct t kvs, .d v)
      | none => some (.dct t (dput t kvs k x), .d x))
      else none := by first | (simp [mutO]; done) | (simp only [mutO]; rfl) | (unfold mutO; rfl)
@[simp] theorem setO_dctR (t : Bool) (kvs : List (D × D)) (k x : D) : setO (.d k) x (.dct t kvs) = if (kkey t k).isSome = true ∧ kvs.length < lim then some (.dct t (dput t kvs k x), .d .non) else none := by simp [setO]
@[simp] theorem ex_sub (G : Gam) (st : St) (o i e : E) : ex G (.sub o i e) st = (ev G e st).bind fun v st1 => (ev G o st1).bind fun vo st2 => (ev G i st2).bind fun vi st3 => match rd st3 vi with
    | some wi => (Out.of2 (toD v st3)).bind fun x st4 => (Out.of2 (change vo (setO wi x) st4)).bind fun _ st5 => .ok .nx st5
    | none => .bad := by first | (simp only [ex]; done) | (simp only [ex]; rfl)
@[simp] theorem in_dct (k : D) (t : Bool) (kvs : List (D × D)) : inW (.d k) (.o (.dct t kvs)) = if (kkey t k).isSome = true then some (dget t kvs k).isSome else none := by
  cases k <;> rfl
@[simp] theorem in_lst (a : D) (ds : List D) : inW (.d a) (.o (.lst ds)) = if (a.pure && D.pures ds && decide (a.toP.depth ≤ deepest)) = true then some (ds.any fun y => PyData.eqv y.toP a.toP) else none := by
  cases a <;> rfl
theorem bits_ok {i : Int} (h : sm i) (j : Int) : Builtin.Int.intBits i ≤ Builtin.Int.intBits j + 4000 := by
  have := log_sm h
  unfold Builtin.Int.intBits
  split <;> omega
/-! calls -/
section
variable (T : Tab) (n : Nat)
@[simp] theorem gam_call (f : String) (ds : List D) (h : List O) : (gam T n).call f ds h = callN T n f ds h := rfl
theorem sumD_map {β : Type} (f : β → Int) (ys : List β) : ∀ a, sumD a (ys.map fun y => D.int (f y)) = some (a + (ys.map f).sum) := by
  induction ys with
  | nil => intro a; simp [sumD]
  | cons i is ih => intro a; simp [sumD, ih]; omega
@[simp] theorem gam_sub : (gam T n).sub = T.sub := rfl
@[simp] theorem gam_cl : (gam T n).cl = T.cl := rfl
theorem callN_run {f : String} {fd : Fd} {ds : List D} (h : List O) (hT : T.fn f = some fd) (hl : ds.length = fd.ps) (hd : fd.dfl = []) : callN T (n + 1) f ds h = gc h (runB (gam T n) fd ds h) := by
  rw [callN]
  simp only [hT]
  rw [if_pos ⟨Nat.le_of_eq hl, by rw [hl]; exact Nat.le_add_right _ _⟩, hd]
  simp only [List.drop_nil, List.append_nil]
  rfl
/-- a body's end -/
def endB : Out Fl → OutC
  | .ok (.rt v) st => .ok v st.h
  | .ok .nx st => .ok (.d .non) st.h
  | .ok .ct _ => .bad
  | .ex c st => .ex c st.h
  | .bad => .bad
theorem runB_end (G : Gam) (fd : Fd) (ds : List D) (h : List O) : runB G fd ds h = endB (exs G fd.body ⟨startS fd.n ds, h⟩) := by
  unfold runB endB
  cases exs G fd.body ⟨startS fd.n ds, h⟩ with
  | ok f st => cases f <;> rfl
  | ex c st => rfl
  | bad => rfl
@[simp] theorem endB_rt (v : EV) (st : St) : endB (.ok (.rt v) st) = .ok v st.h := rfl
@[simp] theorem endB_nx (st : St) : endB (.ok .nx st) = .ok (.d .non) st.h := rfl
@[simp] theorem gc_d (h : List O) (x : D) : gc h (.ok (.d x) h) = .ok (.d x) h := by
  unfold gc
  simp only [List.take_length, if_true]
  cases x with
  | ref i =>
    simp only
    split
    · rfl
    · rename_i hi
      have e : h[i]? = none := List.getElem?_eq_none (by omega)
      rw [e]
  | _ => simp
@[simp] theorem gc_o (h : List O) (x : O) : gc h (.ok (.o x) h) = .ok (.o x) h := by
  unfold gc
  simp
end
/-! loops and comprehensions -/
section
theorem items_d {st : St} (x : D) : items st (.d x) = (rd st (.d x)).bind seqW := by simp [items]
/-- a loop by its invariant: the turns all go on -/
theorem foL_inv {stay : St → Prop} {tg : Tg} {b : St → Out Fl} {xs : List D} (I : Nat → St → Prop) (hs : ∀ i s, i ≤ xs.length → I i s → stay s)
    (hb : ∀ i x s, xs[i]? = some x → I i s → ∃ s1 s2, bindD tg x s = some s1 ∧ (b s1 = .ok .nx s2 ∨ b s1 = .ok .ct s2) ∧ I (i + 1) s2) : ∀ {st : St}, I 0 st → ∃ s', foL stay tg b xs st = .ok .nx s' ∧ I xs.length s' := by
  have main : ∀ (k i : Nat) (st : St), k + i = xs.length → I i st → ∃ s', foL stay tg b (xs.drop i) st = .ok .nx s' ∧ I xs.length s' := by
    intro k
    induction k with
    | zero =>
      intro i st e h
      have e' : i = xs.length := by omega
      subst e'
      refine ⟨st, ?_, h⟩
      rw [List.drop_length]
      unfold foL
      rw [if_pos (hs _ st (Nat.le_refl _) h)]
    | succ k ih =>
      intro i st e h
      have hi : i < xs.length := by omega
      obtain ⟨s1, s2, h1, h2, h3⟩ := hb i xs[i] st (List.getElem?_eq_getElem hi) h
      obtain ⟨s', h4, h5⟩ := ih (i + 1) s2 (by omega) h3
      refine ⟨s', ?_, h5⟩
      rw [List.drop_eq_getElem_cons hi]
      unfold foL
      rw [if_pos (hs i st (Nat.le_of_lt hi) h), h1]
      simp only
      rcases h2 with h2 | h2 <;> rw [h2] <;> exact h4
  intro st h
  simpa using main xs.length 0 st (by omega) h
/-- a loop, one turn -/
theorem foL_cons {stay : St → Prop} {tg : Tg} {b : St → Out Fl} {x : D} {xs : List D} {st s1 : St} (hs : stay st) (h : bindD tg x st = some s1) : foL stay tg b (x :: xs) st = (b s1).bind fun f st2 => match f with
        | .rt v => .ok (.rt v) st2
        | _ => foL stay tg b xs st2 := by
  first | (rw [foL, if_pos hs, h]; done) | (rw [foL, if_pos hs, h]; rfl)
theorem foL_nil {stay : St → Prop} {tg : Tg} {b : St → Out Fl} {st : St} (hs : stay st) : foL stay tg b [] st = .ok .nx st := by
  rw [foL, if_pos hs]
theorem ex_for {G : Gam} {tg : Tg} {src : E} {b : List S} {st st1 : St} {v : EV} {xs : List D} (h : ev G src st = .ok v st1) (hi : items st1 v = some xs) (hp : (v.pls.all fun i => !(tg.vars ++ S.asgss b).contains i) = true) :
    ex G (.for_ tg src b) st = foL (fun s => items s v = some xs) tg (exs G b) xs st1 := by
  simp only [ex, h, Out.bind_ok, hi]
  rw [if_pos hp]
theorem wst_back {st1 st2 : St} {vs : List Nat} (h : wst st2 vs = wst st1 vs) : ({ st2 with σ := backS st2.σ st1.σ vs } : St) = st1 := by
  have h1 : wipeS st2.σ vs = wipeS st1.σ vs := congrArg St.σ h
  have h2 : (wst st2 vs).h = (wst st1 vs).h := by rw [h]
  change st2.h = st1.h at h2
  have hl : st2.σ.length = st1.σ.length := by
    have := congrArg List.length h1
    rw [wipeS_length, wipeS_length] at this
    exact this
  have e : backS st2.σ st1.σ vs = st1.σ := by
    apply List.ext_getElem?
    intro j
    rw [backS_get hl]
    by_cases hj : j ∈ vs
    · rw [if_pos hj]
    · rw [if_neg hj]
      have := congrArg (fun l => l[j]?) h1
      simp only [wipeS_get, if_neg hj] at this
      exact this
  obtain ⟨σ1, h1'⟩ := st1
  obtain ⟨σ2, h2'⟩ := st2
  simp only at h2 e
  rw [e, h2]
/-- a comprehension that maps -/
theorem ev_map {β : Type} {G : Gam} {elt src : E} {tg : Tg} {st st1 : St} {v : EV} (ys : List β) (f g : β → D) (h : ev G src st = .ok v st1) (hi : items st1 v = some (ys.map f)) (hl : ys.length ≤ lim) (hp : (v.pls.all fun i => !tg.vars.contains i) = true)
    (he : ∀ y ∈ ys, ∃ s1, bindD tg (f y) (wst st1 tg.vars) = some s1 ∧ ev G elt s1 = .ok (.d (g y)) s1 ∧ wst s1 tg.vars = wst st1 tg.vars) : ev G (.lc elt tg src .no) st = .ok (.o (.lst (ys.map g))) st1 := by
  have hpl : ∀ i ∈ v.pls, i ∉ tg.vars := by
    simp only [List.all_eq_true, Bool.not_eq_true', List.contains_eq_mem, decide_eq_false_iff_not] at hp
    exact hp
  have stay : ∀ s, wst s tg.vars = wst st1 tg.vars → items s v = some (ys.map f) := fun s e => by
    rw [← items_wst hpl, e, items_wst hpl, hi]
  have main : ∀ (zs : List β) (acc : List D) (s : St), (∀ x ∈ zs, x ∈ ys) → wst s tg.vars = wst st1 tg.vars →
      ∃ s', lcL (fun s => items s v = some (ys.map f)) tg (fun s => .ok true s) (ev G elt) (zs.map f) acc s = .ok (acc ++ zs.map g) s' ∧ wst s' tg.vars = wst st1 tg.vars := by
    intro zs
    induction zs with
    | nil =>
      intro acc s _ e
      refine ⟨s, ?_, e⟩
      rw [List.map_nil]
      unfold lcL
      rw [if_pos (stay s e)]
      simp
    | cons y zs ih =>
      intro acc s hy e
      obtain ⟨s1, h1, h2, h3⟩ := he y (hy y (by simp))
      obtain ⟨s', h4, h5⟩ := ih (acc ++ [g y]) s1 (fun x hx => hy x (by simp [hx])) h3
      refine ⟨s', ?_, h5⟩
      rw [List.map_cons]
      unfold lcL
      rw [if_pos (stay s e)]
      have e2 : ({ s with σ := wipeS s.σ tg.vars } : St) = wst st1 tg.vars := e
      rw [e2, h1]
      simp only [Out.bind_ok, if_true, h2, toD_d, Out.of2_some]
      rw [h4]
      simp
  obtain ⟨s', h4, h5⟩ := main ys [] st1 (fun x hx => hx) rfl
  rw [ev]
  simp only [h, Out.bind_ok, hi]
  rw [if_pos (by simp only [Bool.and_eq_true, decide_eq_true_eq, List.length_map]; exact ⟨hl, hp⟩)]
  rw [h4]
  simp only [Out.tame_ok, Out.bind_ok, List.nil_append]
  rw [wst_back h5]
end
/-! places of lists -/
section
variable {α : Type}
@[simp] theorem atI_0 (x : α) (xs : List α) : L2.atI (x :: xs) 0 = some x := by simp [L2.atI, L2.ixN]
@[simp] theorem atI_1 (x y : α) (xs : List α) : L2.atI (x :: y :: xs) 1 = some y := by
  unfold L2.atI L2.ixN
  rw [if_pos (by decide), if_pos (by simp only [List.length_cons]; omega)]
  rfl
theorem atI_nat (xs : List α) (i : Nat) (hi : i < xs.length) : L2.atI xs i = some xs[i] := by
  unfold L2.atI L2.ixN
  rw [if_pos (by omega), if_pos (by omega)]
  simp
theorem atI_int (xs : List α) (i : Int) (h0 : 0 ≤ i) (hi : i < xs.length) : L2.atI xs i = some (xs[i.toNat]'(by omega)) := by
  obtain ⟨k, rfl⟩ := Int.eq_ofNat_of_zero_le h0
  exact atI_nat xs k (by omega)
theorem cut_take (xs : List α) (k : Nat) : cut xs none (some (k : Int)) = xs.take k := by
  unfold EW.cut
  rw [HT.sIx_none, HT.sIx_nat]
  simp only [List.drop_zero, Nat.sub_zero]
  by_cases h : k ≤ xs.length
  · rw [Nat.min_eq_left h]
  · rw [Nat.min_eq_right (by omega), List.take_of_length_le (Nat.le_refl _), List.take_of_length_le (by omega)]
theorem cut_drop (xs : List α) (k : Nat) : cut xs (some (k : Int)) none = xs.drop k := by
  unfold EW.cut
  rw [HT.sIx_none, HT.sIx_nat]
  by_cases h : k ≤ xs.length
  · rw [Nat.min_eq_left h, List.take_of_length_le (by simp)]
  · rw [Nat.min_eq_right (by omega), List.drop_of_length_le (Nat.le_refl _), List.drop_of_length_le (by omega)]
    simp
@[simp] theorem cut_head (x : α) (xs : List α) : cut (x :: xs) none (some 1) = [x] := by
  have := cut_take (x :: xs) 1
  simpa using this
@[simp] theorem cut_tail (x : α) (xs : List α) : cut (x :: xs) (some 1) none = xs := by
  unfold EW.cut HT.sIx
  simp
end
theorem all_nil {v : EV} {vs : List Nat} (h : v.pls = []) : (v.pls.all fun i => !vs.contains i) = true := by rw [h]; rfl
/-- a loop over what no slot holds: the turns all go on -/
theorem for_data {G : Gam} {tg : Tg} {src : E} {b : List S} {st st1 : St} {v : EV} {xs : List D} (h : ev G src st = .ok v st1) (hi : ∀ s, items s v = some xs) (hp : v.pls = []) (I : Nat → St → Prop) (h0 : I 0 st1)
    (hb : ∀ (i : Nat) (hi : i < xs.length) (s : St), I i s → ∃ s1 s2, bindD tg xs[i] s = some s1 ∧ (exs G b s1 = .ok .nx s2 ∨ exs G b s1 = .ok .ct s2) ∧ I (i + 1) s2) : ∃ s', ex G (.for_ tg src b) st = .ok .nx s' ∧ I xs.length s' := by
  obtain ⟨s', e, h1⟩ := foL_inv (stay := fun s => items s v = some xs) (tg := tg) (b := exs G b) (xs := xs) I (fun i s _ _ => hi s) (fun i x s hx hI => by
    obtain ⟨hl, e⟩ := List.getElem?_eq_some_iff.mp hx
    subst e
    exact hb i hl s hI) h0
  exact ⟨s', (ex_for h (hi st1) (all_nil hp)).trans e, h1⟩
/-- for k in range(p) -/
theorem for_range {G : Gam} {k : Nat} {src : E} {b : List S} {st : St} {p : Nat} (h : ev G src st = .ok (.it .range [.d (.int p)]) st) (hp : p ≤ 1000000) (I : Nat → St → Prop) (h0 : I 0 st)
    (hb : ∀ (i : Nat) (s : St), i < p → I i s → ∃ s2, (exs G b (s.set k (.d (.int i))) = .ok .nx s2 ∨ exs G b (s.set k (.d (.int i))) = .ok .ct s2) ∧ I (i + 1) s2) : ∃ s', ex G (.for_ (.v k) src b) st = .ok .nx s' ∧ I p s' := by
  have hpl : (p : Int) ≤ 1000000 ∧ -1000000 ≤ (p : Int) := by omega
  obtain ⟨s', e, h1⟩ := for_data (tg := .v k) (xs := rangeD 0 p) (b := b) h (fun s => by simp [items, lim, hpl]) rfl I h0 (fun i hi s hI => by
    have hi' : i < p := by rw [rangeD_length] at hi; exact hi
    obtain ⟨s2, h2, h3⟩ := hb i s hi' hI
    have e : (rangeD 0 p)[i] = .int i := by
      have := rangeD_get p 0 i hi'
      rw [List.getElem?_eq_getElem hi] at this
      have e2 := Option.some.inj this
      rw [e2, Int.zero_add]
    exact ⟨_, s2, by rw [e]; rfl, h2, h3⟩)
  rw [rangeD_length] at h1
  exact ⟨s', e, h1⟩
theorem ex_whl (G : Gam) (c : E) (b : List S) (st : St) : ex G (.whl c b) st = whL (tst G c) (exs G b) G.W st := by simp only [ex]
@[simp] theorem gam_W (T : Tab) (n : Nat) : (gam T n).W = 1000000 := rfl
@[simp] theorem ex_aug (G : Gam) (i : Nat) (e : E) (st : St) : ex G (.aug i .Add e) st = (match st.σ[i]? with
    | some (.d (.int a)) => (ev G e st).bind fun v st1 => match (rd st1 v).bind intW with
      | some b => .ok .nx (st1.set i (.d (.int (a + b))))
      | none => .bad
    | _ => .bad) := by first | (simp only [ex]; done) | (simp only [ex]; rfl)
def twoB (f : Wv → Wv → Option Bool) (a b : Option Wv) : Option Bool := match a, b with
  | some a, some b => f a b
  | _, _ => none
@[simp] theorem twoB_some (f : Wv → Wv → Option Bool) (a b : Wv) : twoB f (some a) (some b) = f a b := rfl
@[simp] theorem ev_chn (G : Gam) (st : St) (op op' : CmpOp) (a b c : E) : ev G (.chn op op' a b c) st = (ev G a st).bind fun va st1 => (ev G b st1).bind fun vb st2 =>
    brn (twoB (cmpW op) (rd st2 va) (rd st2 vb)) ((ev G c st2).bind fun vc st3 => Out.of st3 (two (cmpE op') (rd st3 vb) (rd st3 vc))) (.ok (.d (.bl false)) st2) := by
  simp only [ev]
  congr 1
  funext va st1
  congr 1
  funext vb st2
  cases h1 : rd st2 va with
  | none => rfl
  | some wa =>
    cases h2 : rd st2 vb with
    | none => rfl
    | some wb =>
      simp only [twoB]
      cases h3 : cmpW op wa wb with
      | none => rfl
      | some t =>
        cases t with
        | false => rfl
        | true =>
          simp only [brn_true]
          congr 1
          funext vc st3
          exact two_of st3 (cmpE op') _ _
@[simp] theorem cmpW_le_int (i j : Int) : cmpW .LtE (.d (.int i)) (.d (.int j)) = some (decide (i ≤ j)) := by
  show some (!decide (j < i)) = _
  rw [not_lt_le]
@[simp] theorem cmpW_lt_int (i j : Int) : cmpW .Lt (.d (.int i)) (.d (.int j)) = some (decide (i < j)) := rfl
theorem in_one (c : Nat) (y : Str) : inW (.d (.str ⟨#[c]⟩)) (.d (.str y)) = some (decide (c ∈ y.cps.toList)) := by
  show some _ = _
  rw [StrLaws.found_one]
@[simp] theorem cmp_in (a b : Wv) : cmpE .In a b = (inW a b).map fun t => .d (.bl t) := rfl
@[simp] theorem cmp_notin (a b : Wv) : cmpE .NotIn a b = (inW a b).map fun t => .d (.bl (!t)) := by
  unfold cmpE cmpW
  cases inW a b <;> rfl
@[simp] theorem bi_int (st : St) (v : EV) : biS .int st [v] = (rd st v).bind fun w => match w with
    | .d (.int i) => some (.d (.int i))
    | .d (.bl b) => some (.d (.int (if b then 1 else 0)))
    | .d (.str x) => if x.length ≤ 640 then (PySem.intText? x).map fun i => .d (.int i) else none
    | _ => none := by
  cases h : rd st v with
  | none => simp [biS, h]
  | some w =>
    cases w with
    | d d => cases d <;> simp [biS, h]
    | o o => simp [biS, h]
@[simp] theorem bi_all (st : St) (v : EV) : biS .all st [v] = (rd st v).bind fun w => match w with
    | .o (.lst ds) => (boolsD ds).map fun bs => .d (.bl (bs.all id))
    | _ => none := by
  cases h : rd st v with
  | none => simp [biS, h]
  | some w =>
    cases w with
    | d d => simp [biS, h]
    | o o => cases o <;> simp [biS, h]
theorem boolsD_map {β : Type} (f : β → Bool) : ∀ ys : List β, boolsD (ys.map fun y => D.bl (f y)) = some (ys.map f)
  | [] => rfl
  | y :: ys => by simp [boolsD, boolsD_map f ys]
@[simp] theorem sm_find (st : St) (x y : Str) : smS "find" x st [.d (.str y)] = some (.d (.int (Txt.find x y))) := by simp [smS]
@[simp] theorem sm_upper (st : St) (x : Str) : smS "upper" x st [] = if x.length ≤ lim then some (.d (.str (Txt.upper x))) else none := by simp [smS]
theorem bin_rep (x : List D) (k : Int) : binW .Mult (.d (.tup x)) (.d (.int k)) = if k = 1 then some (.d (.tup x)) else if x ≠ [] ∧ 2 ≤ k ∧ k ≤ 1000 ∧ x.length ≤ 1000 then some (.d (.tup (List.replicate k.toNat x).flatten)) else none := rfl
/-- a loop over what no slot holds, that may end early -/
theorem for_exit {G : Gam} {tg : Tg} {src : E} {b : List S} {st st1 : St} {v : EV} {xs : List D} (h : ev G src st = .ok v st1) (hi : ∀ s, items s v = some xs) (hp : v.pls = []) (I : Nat → St → Prop) (R : EV → St → Prop) (h0 : I 0 st1)
    (hb : ∀ (i : Nat) (hi : i < xs.length) (s : St), I i s → ∃ s1, bindD tg xs[i] s = some s1 ∧ ((∃ s2, (exs G b s1 = .ok .nx s2 ∨ exs G b s1 = .ok .ct s2) ∧ I (i + 1) s2) ∨ ∃ r s2, exs G b s1 = .ok (.rt r) s2 ∧ R r s2)) :
    (∃ s', ex G (.for_ tg src b) st = .ok .nx s' ∧ I xs.length s') ∨ ∃ r s', ex G (.for_ tg src b) st = .ok (.rt r) s' ∧ R r s' := by
  rw [ex_for h (hi st1) (all_nil hp)]
  have main : ∀ (k i : Nat) (st : St), k + i = xs.length → I i st → (∃ s', foL (fun s => items s v = some xs) tg (exs G b) (xs.drop i) st = .ok .nx s' ∧ I xs.length s') ∨ ∃ r s', foL (fun s => items s v = some xs) tg (exs G b) (xs.drop i) st = .ok (.rt r) s' ∧ R r s' := by
    intro k
    induction k with
    | zero =>
      intro i st e h
      have e' : i = xs.length := by omega
      subst e'
      refine .inl ⟨st, ?_, h⟩
      rw [List.drop_length]
      exact foL_nil (hi st)
    | succ k ih =>
      intro i st e h
      have hl : i < xs.length := by omega
      obtain ⟨s1, h1, h2⟩ := hb i hl st h
      rw [List.drop_eq_getElem_cons hl, foL_cons (hi st) h1]
      rcases h2 with ⟨s2, h2, h3⟩ | ⟨r, s2, h2, h3⟩
      · rcases h2 with h2 | h2 <;> rw [h2] <;> exact ih (i + 1) s2 (by omega) h3
      · rw [h2]
        exact .inr ⟨r, s2, rfl, h3⟩
  simpa using main xs.length 0 st1 (by omega) h0
/-- a while loop, by what gets less -/
theorem whl_exit {G : Gam} {c : E} {b : List S} (I : Nat → St → Prop) (Z : St → Prop) (R : EV → St → Prop)
    (step : ∀ (m : Nat) (s : St), I m s → ∃ t s1, tst G c s = .ok t s1 ∧ (t = false → Z s1) ∧ (t = true → (∃ s2 m', (exs G b s1 = .ok .nx s2 ∨ exs G b s1 = .ok .ct s2) ∧ m' < m ∧ I m' s2) ∨ ∃ r s2, exs G b s1 = .ok (.rt r) s2 ∧ R r s2)) {m : Nat} {st : St} (hm : m < G.W) (h0 : I m st) :
    (∃ s', ex G (.whl c b) st = .ok .nx s' ∧ Z s') ∨ ∃ r s', ex G (.whl c b) st = .ok (.rt r) s' ∧ R r s' := by
  rw [ex_whl]
  have main : ∀ (n m : Nat) (st : St), m < n → I m st → (∃ s', whL (tst G c) (exs G b) n st = .ok .nx s' ∧ Z s') ∨ ∃ r s', whL (tst G c) (exs G b) n st = .ok (.rt r) s' ∧ R r s' := by
    intro n
    induction n with
    | zero => intro m st h; omega
    | succ n ih =>
      intro m st h hI
      obtain ⟨t, s1, h1, h2, h3⟩ := step m st hI
      unfold whL
      rw [h1]
      cases t with
      | false => exact .inl ⟨s1, rfl, h2 rfl⟩
      | true =>
        simp only [Out.bind_ok, if_true]
        rcases h3 rfl with ⟨s2, m', h4, h5, h6⟩ | ⟨r, s2, h4, h5⟩
        · rcases h4 with h4 | h4 <;> rw [h4] <;> exact ih m' s2 (by omega) h6
        · rw [h4]
          exact .inr ⟨r, s2, rfl, h5⟩
  exact main G.W m st hm h0
/-- a body's end where the heap grew: what is told has no refs -/
theorem gc_ext (h t : List O) (x : D) (hx : ∀ a, x ≠ .ref a) (hl : x.lt h.length = true) : gc h (.ok (.d x) (h ++ t)) = .ok (.d x) h := by
  unfold gc
  simp only
  rw [if_pos (by simp)]
  cases x with
  | ref a => exact (hx a rfl).elim
  | _ =>
    simp only
    rw [if_pos (by simpa [EV.lt] using hl)]
@[simp] theorem eq_bl (a b : Bool) : eqW (.d (.bl a)) (.d (.bl b)) = some (a == b) := by cases a <;> cases b <;> decide
@[simp] theorem bi_str (st : St) (v : EV) : biS .str st [v] = (rd st v).bind fun w => match w with
    | .d (.int i) => if i.natAbs.log2 < 1000 then some (.d (.str (Str.ofString (toString i)))) else none
    | _ => none := by
  cases h : rd st v with
  | none => simp [biS, h]
  | some w =>
    cases w with
    | d d => cases d <;> simp [biS, h]
    | o o => simp [biS, h]
@[simp] theorem sm_join (st : St) (x : Str) (v : EV) : smS "join" x st [v] = (rd st v).bind fun w => match w with
    | .o (.lst ds) => (strsD ds).bind fun ys => if (ys.map (·.length)).sum + ys.length * x.length ≤ lim then some (.d (.str (Txt.join x ys))) else none
    | _ => none := by
  cases h : rd st v with
  | none => simp [smS, h]
  | some w =>
    cases w with
    | d d => simp [smS, h]
    | o o => cases o <;> simp [smS, h]
theorem strsD_map {β : Type} (f : β → Str) : ∀ ys : List β, strsD (ys.map fun y => D.str (f y)) = some (ys.map f)
  | [] => rfl
  | y :: ys => by simp [strsD, strsD_map f ys]
end EW

-- part: RunX
set_option maxHeartbeats 1000000
/-! running Mini: refusals, locked loops, dicts -/
namespace EW
open PySem
section
variable (G : Gam) (st : St)
@[simp] theorem ex_rse (c : String) : ex G (.rse c) st = .ex c st := by simp only [ex]
theorem ex_tr (b : List S) (cs : List String) (i : Option Nat) (hb : List S) : ex G (.tr b cs i hb) st = handle G.sub cs i (exs G hb) (exs G b st) := by simp only [ex]
@[simp] theorem bind_ex {α β : Type} (c : String) (k : α → St → Out β) : (Out.ex c st : Out α).bind k = .ex c st := rfl
@[simp] theorem handle_ok (sub : String → String → Bool) (cs : List String) (i : Option Nat) (hb : St → Out Fl) (f : Fl) : handle sub cs i hb (.ok f st) = .ok f st := rfl
theorem handle_one {sub : String → String → Bool} {c t : String} {i : Nat} {hb : St → Out Fl} (h1 : sub c c = true) (h2 : sub t t = true) (h3 : sub c t = true) (hi : i < st.σ.length) :
    handle sub [t] (some i) hb (.ex c st) = (hb (st.set i (.d (.exn c)))).bind fun f st1 => .ok f (st1.set i .un) := by
  unfold handle
  simp [h1, h2, h3, hi]
@[simp] theorem endB_ex (c : String) : endB (.ex c st) = .ex c st.h := rfl
theorem gc_exE (h t : List O) (c : String) : gc h (.ex c (h ++ t)) = .ex c h := by
  unfold gc
  simp
@[simp] theorem gc_ex0 (h : List O) (c : String) : gc h (.ex c h) = .ex c h := by
  have := gc_exE h [] c
  simpa using this
@[simp] theorem cmp_is (a : Wv) : cmpE .Is a (.d .non) = some (.d (.bl a.isNon)) := rfl
@[simp] theorem isNon_non : Wv.isNon (.d .non) = true := rfl
theorem eq_dct (xs ys : List (D × D)) (h : dEq xs ys = true) : eqW (.o (.dct false xs)) (.o (.dct false ys)) = some true := by
  show (if dEq xs ys = true then some true else none) = some true
  rw [if_pos h]
/-- dict(d) -/
def dictW : Wv → Option EV
  | .o (.dct false kvs) => some (.o (.dct false kvs))
  | _ => none
@[simp] theorem dictW_dct (kvs : List (D × D)) : dictW (.o (.dct false kvs)) = some (.o (.dct false kvs)) := rfl
@[simp] theorem bi_dict (v : EV) : biS .dict st [v] = (rd st v).bind dictW := by
  cases h : rd st v with
  | none => simp [biS, h]
  | some w =>
    cases w with
    | d d => simp [biS, h, dictW]
    | o o =>
      cases o with
      | dct t kvs => cases t <;> simp [biS, h, dictW]
      | _ => simp [biS, h, dictW]
/-- a locked loop by its invariant -/
theorem fori_inv {tg : Tg} {i a : Nat} {b : List S} {kvs : List (D × D)} (h1 : st.σ[i]? = some (.d (.ref a))) (h2 : st.h[a]? = some (.dct false kvs)) (h3 : (kvs.all fun p => p.1.lt 0 && p.2.lt 0) = true) (h4 : ((tg.vars ++ S.asgss b).all fun j => !asideB st.σ j) = true) (I : Nat → St → Prop) (h0 : I 0 ⟨maskS st.σ, []⟩)
    (hb : ∀ (j : Nat) (p : D × D) (s : St), kvs[j]? = some p → I j s → ∃ s1 s2, bindD tg (.tup [p.1, p.2]) s = some s1 ∧ (exs G b s1 = .ok .nx s2 ∨ exs G b s1 = .ok .ct s2) ∧ I (j + 1) s2) (hI : ∀ s, I kvs.length s → s.h = [] ∧ st.σ.length = s.σ.length) :
    ∃ s', ex G (.fori tg i b) st = .ok .nx ⟨unmS st.σ s'.σ, st.h⟩ ∧ I kvs.length s' := by
  obtain ⟨s', e, g⟩ := foL_inv (stay := fun _ => True) (tg := tg) (b := exs G b) (xs := kvs.map fun p => .tup [p.1, p.2]) I (fun _ _ _ _ => trivial) (fun j x s hx hs => by
    rw [List.getElem?_map] at hx
    cases q : kvs[j]? with
    | none =>
      rw [q] at hx
      cases hx
    | some p =>
      rw [q] at hx
      cases hx
      exact hb j p s q hs) h0
  rw [List.length_map] at g
  obtain ⟨g1, g2⟩ := hI s' g
  refine ⟨s', ?_, g⟩
  simp only [ex, h1, h2]
  rw [if_pos (by rw [h3, h4]; rfl), e]
  obtain ⟨σ', h'⟩ := s'
  cases g1
  show (if st.σ.length = σ'.length then _ else _) = _
  rw [if_pos g2]
end
@[simp] theorem bin_fzl (x y : List D) : binW .Add (.d (.fz x)) (.o (.lst y)) = if x.length + y.length ≤ lim then some (.o (.lst (x ++ y))) else none := rfl
theorem bin_lrep (x : List D) (k : Int) : binW .Mult (.o (.lst x)) (.d (.int k)) = if -1000000 ≤ k ∧ k ≤ 1000000 ∧ x.length * k.toNat ≤ lim then some (.o (.lst (List.replicate k.toNat x).flatten)) else none := rfl
theorem bin_smul (x : Str) (k : Int) : binW .Mult (.d (.str x)) (.d (.int k)) = if x.length ≤ 16 ∧ 0 ≤ k ∧ k ≤ 60000 then some (.d (.str (Txt.mul x k))) else none := rfl
/-- a comprehension over a locked dict: as over its keys, in the state laid aside -/
theorem ev_lck {G : Gam} {elt : E} {tg : Tg} {i : Nat} {st : St} {xs ys : List D} (hk : keysAt st i = some xs) (hl : xs.length ≤ lim) (h : ev G (.lc elt tg (.k (.tup xs)) .no) ⟨maskI i st.σ, []⟩ = .ok (.o (.lst ys)) ⟨maskI i st.σ, []⟩) : ev G (.lck elt tg i) st = .ok (.o (.lst ys)) st := by
  rw [ev] at h
  rw [ev]
  rw [hk]
  simp only
  rw [if_pos hl]
  have e1 : ev G (.k (.tup xs)) ⟨maskI i st.σ, []⟩ = .ok (.d (.tup xs)) ⟨maskI i st.σ, []⟩ := by simp only [ev]
  have e2 : items ⟨maskI i st.σ, []⟩ (.d (.tup xs)) = some xs := rfl
  simp only [e1, Out.bind_ok, e2] at h
  rw [if_pos (by simp [EV.pls, hl])] at h
  cases q : lcL (fun s => items s (.d (.tup xs)) = some xs) tg (fun s => Out.ok true s) (ev G elt) xs [] ⟨maskI i st.σ, []⟩ with
  | bad =>
    rw [q] at h
    cases h
  | ex c s2 =>
    rw [q] at h
    cases h
  | ok zs s2 =>
    rw [q] at h
    simp only [Out.tame_ok, Out.bind_ok, Out.ok.injEq, EV.o.injEq, O.lst.injEq] at h
    obtain ⟨rfl, h⟩ := h
    have h1 := congrArg St.h h
    have h2 := congrArg St.σ h
    show lckEnd st _ _ _ = _
    unfold lckEnd
    simp only
    exact if_pos ⟨h1, h2⟩
end EW

-- part: RunC
set_option maxHeartbeats 1000000
/-! running Mini: objects, locked dicts -/
namespace EW
open PySem PySem.Spec PyProof.Rows L2
section
variable (G : Gam) (st : St)
def fldW (f : String) : Wv → Option D
  | .o (.ins _ fs) => fs.lookup f
  | _ => none
@[simp] theorem fldW_ins (f c : String) (fs : List (String × D)) : fldW f (.o (.ins c fs)) = fs.lookup f := rfl
@[simp] theorem ev_fld (a : E) (f : String) : ev G (.fld a f) st = (ev G a st).bind fun va st1 => Out.of st1 (((rd st1 va).bind (fldW f)).map EV.d) := by
  rw [ev]
  congr 1
  funext va st1
  cases rd st1 va with
  | none => rfl
  | some w =>
    cases w with
    | d d => rfl
    | o o =>
      cases o with
      | ins c fs =>
        simp only [Option.bind_some, fldW]
        cases fs.lookup f <;> rfl
      | _ => rfl
@[simp] theorem tst_fld (a : E) (f : String) : tst G (.fld a f) st = (ev G (.fld a f) st).bind fun v st1 => Out.of st1 ((rd st1 v).bind truthW) := tst_e G st _ rfl
@[simp] theorem ev_dcl (o : E) : ev G (.dcl o) st = (ev G o st).bind fun vo st1 => Out.of2 (change vo clrO st1) := by rw [ev]
@[simp] theorem clrO_dct (kvs : List (D × D)) : clrO (.dct false kvs) = some (.dct false [], .d .non) := rfl
/-- the def of an object's method -/
def mcF (cl : ClT) (m : String) (h : List O) : D → Option String
  | .ref a => match h[a]? with
    | some (.ins c fs) => if (fs.lookup m).isNone = true then cl.mt c m else none
    | _ => none
  | _ => none
@[simp] theorem ev_mc (m : String) (o : E) (es : List E) : ev G (.mc m o es) st = (ev G o st).bind fun vo st1 => (Out.of2 (toD vo st1)).bind fun x st2 => match mcF G.cl m st2.h x with
    | some f => (evs G es st2).bind fun vs st3 => (Out.of2 (toDs vs st3)).bind fun ds st4 => (G.call f (x :: ds) st4.h).out st4
    | none => .bad := by
  rw [ev]
  congr 1
  funext vo st1
  congr 1
  funext x st2
  cases x with
  | ref a =>
    simp only [mcF]
    cases st2.h[a]? with
    | none => rfl
    | some ob =>
      cases ob with
      | ins c fs =>
        simp only
        cases G.cl.mt c m with
        | none =>
          by_cases q : (fs.lookup m).isNone = true
          · rw [if_pos q]
          · rw [if_neg q]
        | some f =>
          by_cases q : (fs.lookup m).isNone = true
          · simp only [if_pos q]
          · simp only [if_neg q]
      | _ => rfl
  | _ => rfl
theorem mcF_ins {cl : ClT} {m c : String} {h : List O} {a : Nat} {fs : List (String × D)} (e : h[a]? = some (.ins c fs)) (hf : fs.lookup m = none) : mcF cl m h (.ref a) = cl.mt c m := by
  simp only [mcF, e, hf, Option.isNone_none, if_true]
@[simp] theorem ev_new (c : String) (es : List E) : ev G (.new c es) st = (evs G es st).bind fun vs st1 => (Out.of2 (toDs vs st1)).bind fun ds st2 => match G.cl.nw c with
    | some f => newOut st2 (G.call f (.ref st2.h.length :: ds) (st2.h ++ [.ins c []]))
    | none => .bad := by
  first | (rw [ev]; done) | (rw [ev]; rfl)
@[simp] theorem newOut_ok (h : List O) : newOut st (.ok (.d .non) h) = .ok (.d (.ref st.h.length)) { st with h := h } := rfl
@[simp] theorem newOut_ex (c : String) (h : List O) : newOut st (.ex c h) = .ex c { st with h := h } := rfl
@[simp] theorem tst_mc (m : String) (o : E) (es : List E) : tst G (.mc m o es) st = (ev G (.mc m o es) st).bind fun v st1 => Out.of st1 ((rd st1 v).bind truthW) := tst_e G st _ rfl
@[simp] theorem ex_fld (o : E) (f : String) (e : E) : ex G (.fld o f e) st = (ev G e st).bind fun v st1 => (ev G o st1).bind fun vo st2 => (Out.of2 (toD v st2)).bind fun x st3 => (Out.of2 (change vo (setA G.cl.fl f x) st3)).bind fun _ st4 => .ok .nx st4 := by simp only [ex]
@[simp] theorem setA_ins (fl : String → String → Bool) (f c : String) (x : D) (fs : List (String × D)) : setA fl f x (.ins c fs) = if fs.length < 900 ∧ fl c f = true then some (.ins c (setF f x fs), .d .non) else none := rfl
@[simp] theorem setF_nil (f : String) (x : D) : setF f x [] = [(f, x)] := rfl
theorem setF_cons (f g : String) (x y : D) (r : List (String × D)) : setF f x ((g, y) :: r) = if g = f then (f, x) :: r else (g, y) :: setF f x r := rfl
@[simp] theorem meth_insert (n : Nat) (xs : List D) : methOk "insert" n (.o (.lst xs)) = true := by simp [methOk]
@[simp] theorem mut_insert (xs : List D) (i : Int) (x : D) : mutO "insert" [.int i, x] (.lst xs) = if xs.length < lim ∧ 0 ≤ i ∧ i ≤ lim then some (.lst (xs.take i.toNat ++ x :: xs.drop i.toNat), .d .non) else none := by simp [mutO]
theorem ex_ford (tg : Tg) (k : I) (i : Nat) (f : Option String) (b : List S) : ex G (.ford tg k i f b) st = (match placeD st i f with
    | some v => match rd st v with
      | some (.o (.dct false kvs)) => match rowsD k kvs, change v lockO st with
        | some xs, some (_, st1) => if (!(tg.vars ++ S.asgss b).contains i) = true then endD v (foL (fun _ => True) tg (exs G b) xs st1) else .bad
        | _, _ => .bad
      | _ => .bad
    | none => .bad) := by first | (simp only [ex]; done) | (simp only [ex]; rfl)
end
end EW

-- part: Data
set_option maxHeartbeats 1000000
/-! order and equality of data -/
namespace EW
open PySem PySem.W PyProof.Rows
theorem toPs_map (ds : List D) : D.toPs ds = ds.map D.toP := by
  induction ds with
  | nil => rfl
  | cons d ds ih => simp [D.toPs, ih]
theorem pures_all (ds : List D) : D.pures ds = ds.all D.pure := by
  induction ds with
  | nil => rfl
  | cons d ds ih => simp [D.pures, ih]
theorem lt_yes {x y : PyData} {xs ys : List PyData} (h : alike x y = true) (e : PyData.eqv x y = true) : dataLt (.tuple (x :: xs)) (.tuple (y :: ys)) = dataLt (.tuple xs) (.tuple ys) := by
  rw [dataLt_tuple, dataLt_tuple, dataLt_all_yes h e]
theorem lt_no {x y : PyData} {xs ys : List PyData} (h : alike x y = true) (e : PyData.eqv x y = false) : dataLt (.tuple (x :: xs)) (.tuple (y :: ys)) = dataLt x y := by
  rw [dataLt_tuple, dataLt_all_no h e]
theorem lt_tot {x y : PyData} (h : alike x y = true) (h1 : dataLt x y = false) (h2 : dataLt y x = false) : PyData.eqv x y = true := by
  cases e : PyData.eqv x y with
  | true => rfl
  | false =>
    have k := PyProof.Rows.lex_total (O := itemOrd) _ _ h1 h2
    have z := (toks_eqv x y h).2 e [] [.inl 0]
    rw [← k, lex_pre] at z
    have z2 : PyProof.Rows.lexLt itemOrd (keyToks x) (keyToks x) = false := PyProof.Rows.lex_irrefl (O := itemOrd) _
    rw [z2] at z
    cases z
theorem lt_nil : dataLt (.tuple []) (.tuple []) = false := by
  rw [dataLt_tuple]
  exact PyProof.Rows.lex_irrefl (O := itemOrd) _
mutual
/-- a datum is alike to one of the same shape in the first places -/
theorem eqv_refl : ∀ d : D, d.pure = true → PyData.eqv d.toP d.toP = true
  | .non, _ => rfl
  | .bl b, _ => by simp [D.toP, PyData.eqv]
  | .int i, _ => by simp [D.toP, PyData.eqv]
  | .str x, _ => by simp [D.toP, PyData.eqv]
  | .tup ds, h => by
    simp only [D.toP, PyData.eqv]
    exact eqvs_refl ds (by simpa [D.pure] using h)
  | .ref a, h => by simp [D.pure] at h
  | .fz ds, h => by simp [D.pure] at h
  | .exn c, h => by simp [D.pure] at h
theorem eqvs_refl : ∀ ds : List D, D.pures ds = true → PyData.eqvAll (D.toPs ds) (D.toPs ds) = true
  | [], _ => rfl
  | d :: ds, h => by
    have h' : d.pure = true ∧ D.pures ds = true := by simpa [D.pures] using h
    simp [D.toPs, PyData.eqvAll, eqv_refl d h'.1, eqvs_refl ds h'.2]
end
theorem ltW_tup {xs ys : List D} (h1 : D.pures xs = true) (h2 : D.pures ys = true) (h3 : alikeAll (D.toPs xs) (D.toPs ys) = true) (h4 : (D.tup xs).toP.depth ≤ deepest) :
    ltW (.d (.tup xs)) (.d (.tup ys)) = some (dataLt (.tuple (D.toPs xs)) (.tuple (D.toPs ys))) := by
  have h4' : min (D.tup xs).toP.depth (D.tup ys).toP.depth ≤ deepest := Nat.le_trans (Nat.min_le_left _ _) h4
  have c : ((Wv.d (.tup xs)).pure && (Wv.d (.tup ys)).pure && (Wv.d (.tup xs)).isSeq && alike (Wv.d (.tup xs)).toP (Wv.d (.tup ys)).toP && decide (min (Wv.d (.tup xs)).toP.depth (Wv.d (.tup ys)).toP.depth ≤ deepest)) = true := by
    simp only [Wv.pure, Wv.isSeq, Wv.toP, D.pure, D.toP, alike, h1, h2, h3, Bool.and_true, Bool.true_and]
    exact decide_eq_true h4'
  unfold ltW
  simp only
  rw [if_pos c]
  simp only [Wv.toP, D.toP]
theorem eqW_tup {xs ys : List D} (h1 : D.pures xs = true) (h2 : D.pures ys = true) (h4 : (D.tup xs).toP.depth ≤ deepest) :
    eqW (.d (.tup xs)) (.d (.tup ys)) = some (PyData.eqvAll (D.toPs xs) (D.toPs ys)) := by
  have h4' : min (D.tup xs).toP.depth (D.tup ys).toP.depth ≤ deepest := Nat.le_trans (Nat.min_le_left _ _) h4
  have c : ((Wv.d (.tup xs)).pure && (Wv.d (.tup ys)).pure && decide (min (Wv.d (.tup xs)).toP.depth (Wv.d (.tup ys)).toP.depth ≤ deepest)) = true := by
    simp only [Wv.pure, D.pure, h1, h2, Bool.and_true, Bool.true_and, decide_eq_true_eq]
    exact h4'
  unfold eqW
  simp only
  rw [if_pos c]
  simp only [Wv.toP, D.toP, PyData.eqv]
theorem eqW_lst {xs ys : List D} (h1 : D.pures xs = true) (h2 : D.pures ys = true) (h4 : (D.tup xs).toP.depth ≤ deepest) :
    eqW (.o (.lst xs)) (.o (.lst ys)) = some (PyData.eqvAll (D.toPs xs) (D.toPs ys)) := by
  have h4' : min (PyData.list (D.toPs xs)).depth (PyData.list (D.toPs ys)).depth ≤ deepest := Nat.le_trans (Nat.min_le_left _ _) h4
  have c : ((Wv.o (.lst xs)).pure && (Wv.o (.lst ys)).pure && decide (min (Wv.o (.lst xs)).toP.depth (Wv.o (.lst ys)).toP.depth ≤ deepest)) = true := by
    simp only [Wv.pure, h1, h2, Bool.and_true, Bool.true_and, decide_eq_true_eq]
    exact h4'
  cases ys with
  | nil => cases xs <;> rfl
  | cons y ys =>
    unfold eqW
    simp only
    rw [if_pos c]
    simp only [Wv.toP, PyData.eqv]
/-- xs == [] looks at no item -/
@[simp] theorem eqW_nil (xs : List D) : eqW (.o (.lst xs)) (.o (.lst [])) = some xs.isEmpty := rfl
end EW

-- part: WordsX
set_option maxHeartbeats 1000000
/-! sound texts of bounded length -/
namespace EW
open PySem
def Word (x : Str) (k : Nat) : Prop := PyData.strOk x = true ∧ x.length ≤ k
theorem strOk_iff (x : Str) : PyData.strOk x = true ↔ ∀ c ∈ x.cps.toList, c < 0x110000 := by
  unfold PyData.strOk
  rw [Array.all_eq_true']
  simp
theorem app_cps (x y : Str) : (x ++ y).cps = x.cps ++ y.cps := rfl
theorem app_len (x y : Str) : (x ++ y).length = x.length + y.length := by
  show (x.cps ++ y.cps).size = _
  rw [Array.size_append]
  rfl
theorem strOk_app {x y : Str} (hx : PyData.strOk x = true) (hy : PyData.strOk y = true) : PyData.strOk (x ++ y) = true := by
  rw [strOk_iff] at *
  intro c hc
  rw [app_cps, Array.toList_append, List.mem_append] at hc
  rcases hc with h | h
  · exact hx c h
  · exact hy c h
theorem Word.app {x y : Str} {j k : Nat} (hx : Word x j) (hy : Word y k) : Word (x ++ y) (j + k) := ⟨strOk_app hx.1 hy.1, by rw [app_len]; have := hx.2; have := hy.2; omega⟩
theorem Word.mono {x : Str} {j k : Nat} (hx : Word x j) (h : j ≤ k) : Word x k := ⟨hx.1, Nat.le_trans hx.2 h⟩
theorem Word.one {c : Nat} (h : c < 0x110000) : Word ⟨#[c]⟩ 1 := by
  refine ⟨?_, Nat.le_refl _⟩
  rw [strOk_iff]
  intro d hd
  have e : d = c := by simpa using hd
  rw [e]
  exact h
theorem Word.nil : Word (Str.ofString "") 0 := by
  constructor <;> decide +kernel
theorem Word.cut {x : Str} {k : Nat} (h : Word x k) (lo hi : Option Int) : Word ⟨(cut x.cps.toList lo hi).toArray⟩ k := by
  have sub : ∀ c ∈ EW.cut x.cps.toList lo hi, c ∈ x.cps.toList := fun c hc => List.mem_of_mem_drop (List.mem_of_mem_take hc)
  refine ⟨?_, ?_⟩
  · rw [strOk_iff]
    intro c hc
    exact (strOk_iff x).mp h.1 c (sub c (by simpa using hc))
  · show (EW.cut x.cps.toList lo hi).toArray.size ≤ k
    have h1 := h.2
    have e : x.length = x.cps.size := rfl
    unfold EW.cut
    simp
    omega
theorem atI_mem {α : Type} {xs : List α} {i : Int} {x : α} (h : L2.atI xs i = some x) : x ∈ xs := by
  unfold L2.atI at h
  cases q : L2.ixN xs.length i with
  | none =>
    rw [q] at h
    cases h
  | some j =>
    rw [q] at h
    exact List.mem_of_getElem? h
/-- a sign of a text -/
theorem Word.at {x : Str} {k : Nat} (h : Word x k) {i : Int} {c : Nat} (e : L2.atI x.cps.toList i = some c) : Word ⟨#[c]⟩ 1 := .one ((strOk_iff x).mp h.1 c (atI_mem e))
theorem str_at {x : Str} {n : Nat} (hx : x.cps.toList.length = n) {i : Int} (h0 : 0 ≤ i) (h1 : i < n) : ∃ c, L2.atI x.cps.toList i = some c := ⟨_, atI_int _ i h0 (by omega)⟩
theorem strItems_mem {x : Str} {d : D} (h : d ∈ strItems x) : ∃ c ∈ x.cps.toList, d = .str ⟨#[c]⟩ := by
  unfold strItems at h
  obtain ⟨c, hc, e⟩ := List.mem_map.mp h
  exact ⟨c, hc, e.symm⟩
end EW

-- part: LawT
set_option maxHeartbeats 1000000
/-! what the laws draw: great numbers, names, terms -/
namespace EW
open PySem
/-! great numbers -/
def big (b : Nat) (i : Int) : Prop := i.natAbs < 2 ^ b
theorem big_log {b : Nat} {i : Int} (h : big b i) : i.natAbs.log2 ≤ b := by
  unfold big at h
  by_cases z : i.natAbs = 0
  · rw [z]
    simp
  · exact Nat.le_of_lt ((Nat.log2_lt z).mpr h)
theorem big_mul {a b : Nat} {i j : Int} (hi : big a i) (hj : big b j) : big (a + b) (i * j) := by
  unfold big at *
  rw [Int.natAbs_mul, Nat.pow_add]
  exact Nat.mul_lt_mul'' hi hj
theorem big_add {a : Nat} {i : Int} (c : Int) (hi : big a i) (hc : c.natAbs ≤ 63) : big (a + 6) (i + c) := by
  unfold big at *
  have h1 := Int.natAbs_add_le i c
  have h2 : 1 ≤ 2 ^ a := Nat.one_le_two_pow
  rw [Nat.pow_add]
  omega
theorem big_of_bits {B : Nat} {i : Int} (h : Builtin.Int.intBits i ≤ B) : big B i := by
  unfold big
  unfold Builtin.Int.intBits at h
  split at h
  · rename_i z
    have z' : i.natAbs = 0 := by simpa using z
    rw [z']
    exact Nat.two_pow_pos B
  · exact Nat.lt_of_lt_of_le Nat.lt_log2_self (Nat.pow_le_pow_right (by decide) h)
theorem bin_mulB {a b : Nat} {i j : Int} (hi : big a i) (hj : big b j) (h : a + b < 130000000) : binW .Mult (.d (.int i)) (.d (.int j)) = some (.d (.int (i * j))) := by
  have h1 := big_log hi
  have h2 := big_log hj
  rw [bin_mul, if_pos (by omega)]
/-- _law_great -/
def cGreat (c : Int) : Fd := ⟨1, 1, 
  [.ret (.bin .Mod (.bin .Mult (.bin .Mult (.bin .Mult (.bin .Add (.v 0) (.k (.int c))) (.bin .Pow (.k (.int 7)) (.k (.int 61)))) (.bin .Pow (.k (.int 11)) (.k (.int 63)))) (.bin .Pow (.k (.int 13)) (.k (.int 9)))) (.bin .Mult (.bin .Pow (.k (.int 10)) (.k (.int 60))) (.bin .Pow (.k (.int 10)) (.k (.int 60)))))], []⟩
abbrev top : Int := 1000000000000000000000000000000000000000000000000000000000000000000000000000000000000000000000000000000000000000000000000
theorem sp_great {T : Tab} {c : Int} (hT : T.fn "_law_great" = some (cGreat c)) (hc : c.natAbs ≤ 63) (n : Nat) (h : List O) {B : Nat} (hB : B ≤ 2000000) {x : Int} (hx : big B x) : ∃ g : Int, callN T (n + 1) "_law_great" [.int x] h = .ok (.d (.int g)) h ∧ 0 ≤ g ∧ g < top := by
  refine ⟨(x + c) * 3556153025177363557255317383565515512407041673852007 * 405265062229627490533592012124531049044560130453775155955812256931 * 10604499373 % top, ?_, Int.emod_nonneg _ (by decide), Int.emod_lt_of_pos _ (by decide)⟩
  have b0 := big_add c hx hc
  have b1 : big 172 3556153025177363557255317383565515512407041673852007 := by unfold big; decide
  have b2 : big 220 405265062229627490533592012124531049044560130453775155955812256931 := by unfold big; decide
  have b3 : big 40 10604499373 := by unfold big; decide
  have m1 := bin_mulB b0 b1 (by omega)
  have m2 := bin_mulB (big_mul b0 b1) b2 (by omega)
  have m3 := bin_mulB (big_mul (big_mul b0 b1) b2) b3 (by omega)
  have s60 : sm 1000000000000000000000000000000000000000000000000000000000000 := by decide
  rw [callN_run T n h hT rfl rfl, runB_end]
  simp [cGreat, startS, m1, m2, m3, s60]
/-- _law_cell_at -/
def cCell : Fd := ⟨2, 2, 
  [.ife (.cmp .Lt (.v 1) (.bi .len [(.v 0)]))
     [.ret (.idx (.v 0) (.v 1))]
     [],
  .ret (.k (.int 0))], []⟩
theorem sp_cell {T : Tab} (hT : T.fn "_law_cell_at" = some cCell) (n : Nat) (ns : List Int) (k : Nat) (h : List O) : ∃ z : Int, callN T (n + 1) "_law_cell_at" [.fz (ns.map D.int), .int k] h = .ok (.d (.int z)) h ∧ (z ∈ ns ∨ z = 0) := by
  by_cases hk : k < ns.length
  · refine ⟨ns[k], ?_, .inl (List.getElem_mem _)⟩
    rw [callN_run T n h hT rfl rfl, runB_end]
    have e : L2.atI (ns.map D.int) (k : Int) = some (.int ns[k]) := by
      rw [atI_nat _ _ (by simpa using hk)]
      simp
    have hk' : (k : Int) < (ns.length : Int) := by omega
    simp [cCell, startS, hk, hk', e]
  · refine ⟨0, ?_, .inr rfl⟩
    rw [callN_run T n h hT rfl rfl, runB_end]
    have hk' : ¬ (k : Int) < (ns.length : Int) := by omega
    simp [cCell, startS, hk, hk']
/-! names -/
abbrev letters : Str := Str.ofString "abcdefghijklmnopqrstuvwxyz"
theorem letters_cps : letters.cps.toList = List.range' 97 26 := by decide +kernel
theorem letters_len : letters.length = 26 := by decide +kernel
theorem mem_letters (c : Nat) : c ∈ letters.cps.toList ↔ 97 ≤ c ∧ c ≤ 122 := by
  rw [letters_cps, List.mem_range'_1]
  omega
/-- a small letter -/
def lB (c : Nat) : Bool := decide (97 ≤ c ∧ c ≤ 122)
theorem in_letters (c : Nat) : inW (.d (.str ⟨#[c]⟩)) (.d (.str letters)) = some (lB c) := by
  rw [in_one]
  congr 1
  unfold lB
  rw [decide_eq_decide]
  exact mem_letters c
/-- k small letters -/
def Lw (k : Nat) (x : Str) : Prop := x.length = k ∧ ∀ c ∈ x.cps.toList, 97 ≤ c ∧ c ≤ 122
/-- a name: one to eight small letters -/
def Nm (x : Str) : Prop := 1 ≤ x.length ∧ x.length ≤ 8 ∧ ∀ c ∈ x.cps.toList, 97 ≤ c ∧ c ≤ 122
theorem Lw.nm {k : Nat} {x : Str} (h : Lw k x) (h1 : 1 ≤ k) (h2 : k ≤ 8) : Nm x := ⟨by rw [h.1]; exact h1, by rw [h.1]; exact h2, h.2⟩
theorem Nm.ok {x : Str} (h : Nm x) : PyData.strOk x = true := (strOk_iff x).mpr fun c hc => by
  have := h.2.2 c hc
  omega
theorem Lw.nil : Lw 0 (Str.ofString "") := ⟨by decide +kernel, fun c hc => by
  have e : (Str.ofString "").cps.toList = [] := by decide +kernel
  rw [e] at hc
  cases hc⟩
theorem Lw.app {j k : Nat} {x y : Str} (hx : Lw j x) (hy : Lw k y) : Lw (j + k) (x ++ y) := ⟨by rw [app_len, hx.1, hy.1], fun c hc => by
  rw [app_cps, Array.toList_append, List.mem_append] at hc
  rcases hc with z | z
  · exact hx.2 c z
  · exact hy.2 c z⟩
theorem Lw.take {k : Nat} {x : Str} (hx : Lw k x) (j : Nat) : Lw (min j k) ⟨(cut x.cps.toList none (some (j : Int))).toArray⟩ := by
  rw [cut_take]
  refine ⟨?_, fun c hc => hx.2 c (List.mem_of_mem_take (by simpa using hc))⟩
  have e : x.cps.toList.length = k := by
    rw [← hx.1]
    simp [Str.length]
  simp [Str.length, e]
  try (have := hx.1; simp only [Str.length] at this; omega)
theorem Lw.drop {k : Nat} {x : Str} (hx : Lw k x) (j : Nat) : Lw (k - j) ⟨(cut x.cps.toList (some (j : Int)) none).toArray⟩ := by
  rw [cut_drop]
  refine ⟨?_, fun c hc => hx.2 c (List.mem_of_mem_drop (by simpa using hc))⟩
  simp [Str.length]
  have := hx.1
  simp only [Str.length] at this
  omega
theorem Lw.one {c : Nat} (h : 97 ≤ c ∧ c ≤ 122) : Lw 1 ⟨#[c]⟩ := ⟨rfl, fun d hd => by
  have e : d = c := by simpa using hd
  rw [e]
  exact h⟩
theorem letter_at (i : Int) (h0 : 0 ≤ i) (h1 : i < 26) : ∃ c, L2.atI letters.cps.toList i = some c ∧ 97 ≤ c ∧ c ≤ 122 := by
  have hl : letters.cps.toList.length = 26 := by decide +kernel
  refine ⟨_, atI_int _ i h0 (by omega), ?_⟩
  exact (mem_letters _).mp (List.getElem_mem _)
theorem Lw.at {k : Nat} {x : Str} (hx : Lw k x) (p : Nat) (hp : p < k) : ∃ c, L2.atI x.cps.toList (p : Int) = some c ∧ 97 ≤ c ∧ c ≤ 122 := by
  have hl : x.cps.toList.length = k := by
    rw [← hx.1]
    simp [Str.length]
  refine ⟨_, atI_nat _ p (by omega), ?_⟩
  exact hx.2 _ (List.getElem_mem _)
def dNames (ns : List Str) : List D := ns.map D.str
def nBody : List S := [.asg (.v 0) (.bin .FloorDiv (.v 0) (.k (.int 26))),
    .asg (.v 3) (.bin .Add (.v 3) (.idx (.v 1) (.bin .Mod (.v 0) (.k (.int 26)))))]
def oBody : List S := [.asg (.v 7) (.idx (.v 1) (.bin .Mod (.bin .Add (.sm "find" (.v 1) [(.idx (.v 3) (.v 5))]) (.bin .Mult (.k (.int 7)) (.v 4))) (.k (.int 26)))),
    .ex (.meth "append" (.v 6) [(.bin .Add (.bin .Add (.sl (.v 3) .no (.v 5)) (.v 7)) (.sl (.v 3) (.bin .Add (.v 5) (.k (.int 1))) .no))])]
/-- _law_names -/
def cNames : Fd := ⟨1, 8, 
  [.asg (.v 1) (.k (.str "abcdefghijklmnopqrstuvwxyz")),
  .asg (.v 2) (.bin .Add (.k (.int 1)) (.bin .Mod (.v 0) (.k (.int 8)))),
  .asg (.v 3) (.k (.str "")),
  .for_ (.v 4) (.it .range [(.v 2)]) nBody,
  .asg (.v 5) (.bin .Mod (.bin .FloorDiv (.v 0) (.k (.int 26))) (.v 2)),
  .asg (.v 6) (.lst []),
  .for_ (.v 4) (.it .range [(.k (.int 4))]) oBody,
  .ife (.cmp .Lt (.v 2) (.k (.int 8)))
     [.ex (.meth "append" (.v 6) [(.bin .Add (.v 3) (.k (.str "a")))])]
     [.ex (.meth "append" (.v 6) [(.sl (.v 3) .no (.k (.int 7)))])],
  .ret (.v 6)], []⟩
theorem names_a (G : Gam) (m : Int) (sz : Nat) (h : List O) (hm : 0 ≤ m) (hs : sz ≤ 8) : ∃ (m' : Int) (f : Str) (s4 : Sl), ex G (.for_ (.v 4) (.it .range [(.v 2)]) nBody) ⟨[.d (.int m), .d (.str letters), .d (.int sz), .d (.str (Str.ofString "")), .un, .un, .un, .un], h⟩ =
    .ok .nx ⟨[.d (.int m'), .d (.str letters), .d (.int sz), .d (.str f), s4, .un, .un, .un], h⟩ ∧ 0 ≤ m' ∧ Lw sz f := by
  obtain ⟨s', e, m', f, s4, rfl, h0, h1⟩ := for_range (G := G) (k := 4) (src := .it .range [(.v 2)]) (b := nBody) (st := ⟨[.d (.int m), .d (.str letters), .d (.int sz), .d (.str (Str.ofString "")), .un, .un, .un, .un], h⟩) (p := sz) (by simp) (by omega)
    (fun i s => ∃ (m' : Int) (f : Str) (s4 : Sl), s = ⟨[.d (.int m'), .d (.str letters), .d (.int sz), .d (.str f), s4, .un, .un, .un], h⟩ ∧ 0 ≤ m' ∧ Lw i f) ⟨m, _, _, rfl, hm, Lw.nil⟩ (fun i s hi ⟨m', f, s4, e, h0, h1⟩ => by
      subst e
      obtain ⟨c, hc, hc2⟩ := letter_at (m' / 26 % 26) (by omega) (by omega)
      have w := h1.app (Lw.one hc2)
      have l1 := h1.1
      have l2 : f.length + 1 ≤ 1000000 := by omega
      have l3 : Str.length ⟨#[c]⟩ = 1 := rfl
      have l4 := letters_len
      refine ⟨⟨[.d (.int (m' / 26)), .d (.str letters), .d (.int sz), .d (.str (f ++ ⟨#[c]⟩)), .d (.int i), .un, .un, .un], h⟩, .inl ?_, _, _, _, rfl, by omega, w⟩
      simp [nBody, hc, lim, l2, l3, l4])
  exact ⟨m', f, s4, e, h0, h1⟩
theorem names_b (G : Gam) (m : Int) (sz p : Nat) (f : Str) (s4 : Sl) (h : List O) (hs : sz ≤ 8) (hf : Lw sz f) (hp : p < sz) : ∃ (ns : List Str) (s4' s7' : Sl), ex G (.for_ (.v 4) (.it .range [(.k (.int 4))]) oBody) ⟨[.d (.int m), .d (.str letters), .d (.int sz), .d (.str f), s4, .d (.int p), .o (.lst []), .un], h⟩ =
    .ok .nx ⟨[.d (.int m), .d (.str letters), .d (.int sz), .d (.str f), s4', .d (.int p), .o (.lst (dNames ns)), s7'], h⟩ ∧ ns.length = 4 ∧ ∀ x ∈ ns, Lw sz x := by
  obtain ⟨s', e, ns, s4', s7', rfl, h0, h1⟩ := for_range (G := G) (k := 4) (src := .it .range [(.k (.int 4))]) (b := oBody) (st := ⟨[.d (.int m), .d (.str letters), .d (.int sz), .d (.str f), s4, .d (.int p), .o (.lst []), .un], h⟩) (p := 4) (by simp) (by omega)
    (fun i s => ∃ (ns : List Str) (s4' s7' : Sl), s = ⟨[.d (.int m), .d (.str letters), .d (.int sz), .d (.str f), s4', .d (.int p), .o (.lst (dNames ns)), s7'], h⟩ ∧ ns.length = i ∧ ∀ x ∈ ns, Lw sz x) ⟨[], _, _, rfl, rfl, fun x hx => by cases hx⟩ (fun i s hi ⟨ns, s4', s7', e, h0, h1⟩ => by
      subst e
      obtain ⟨c0, hc0, _⟩ := hf.at p hp
      obtain ⟨c, hc, hc2⟩ := letter_at ((Txt.find letters ⟨#[c0]⟩ + 7 * (i : Int)) % 26) (by omega) (by omega)
      have w1 := (hf.take p).app (Lw.one hc2)
      have w2 := w1.app (hf.drop (p + 1))
      have ew : min p sz + 1 + (sz - (p + 1)) = sz := by omega
      rw [ew] at w2
      have si : sm (i : Int) := sm_of (by omega) (by omega)
      have s7 : sm 7 := by decide
      have l4 := letters_len
      have lf := hf.1
      have lf2 : f.length ≤ 1000000 := by omega
      have t1 := (hf.take p).1
      have t2 := (hf.drop (p + 1)).1
      have t3 := w1.1
      have ep : ((p + 1 : Nat) : Int) = (p : Int) + 1 := by omega
      rw [ep] at t2 w2
      have l5 : Str.length ⟨#[c]⟩ = 1 := rfl
      have q1 : Str.length ⟨(cut f.cps.toList none (some (p : Int))).toArray⟩ + Str.length ⟨#[c]⟩ ≤ 1000000 := by omega
      have q2 : Str.length (⟨(cut f.cps.toList none (some (p : Int))).toArray⟩ ++ ⟨#[c]⟩) + Str.length ⟨(cut f.cps.toList (some ((p : Int) + 1)) none).toArray⟩ ≤ 1000000 := by omega
      have q3 : (dNames ns).length < 1000000 := by simp [dNames]; omega
      rw [l5] at q1
      refine ⟨⟨[.d (.int m), .d (.str letters), .d (.int sz), .d (.str f), .d (.int i), .d (.int p), .o (.lst (dNames (ns ++ [⟨(cut f.cps.toList none (some (p : Int))).toArray⟩ ++ ⟨#[c]⟩ ++ ⟨(cut f.cps.toList (some ((p : Int) + 1)) none).toArray⟩]))), .d (.str ⟨#[c]⟩)], h⟩, .inl ?_, _, _, _, rfl, by simp [h0], fun x hx => ?_⟩
      · simp [oBody, hc0, hc, lim, l4, lf2, si, s7, q1, q2, q3, l5]
        simp [dNames]
      · rcases List.mem_append.mp hx with z | z
        · exact h1 x z
        · have z' := List.mem_singleton.mp z
          rw [z']
          exact w2)
  exact ⟨ns, s4', s7', e, h0, h1⟩
theorem sp_names {T : Tab} (hT : T.fn "_law_names" = some cNames) (n : Nat) (c : Int) (h : List O) (h0 : 0 ≤ c) : ∃ ns : List Str, callN T (n + 1) "_law_names" [.int c] h = .ok (.o (.lst (dNames ns))) h ∧ ns.length = 5 ∧ ∀ x ∈ ns, Nm x := by
  obtain ⟨sz, hsz, hs1, hs8⟩ : ∃ sz : Nat, 1 + c % 8 = (sz : Int) ∧ 1 ≤ sz ∧ sz ≤ 8 := ⟨(1 + c % 8).toNat, by omega, by omega, by omega⟩
  obtain ⟨m, f, s4, e1, hm, hf⟩ := names_a (gam T n) c sz h h0 hs8
  obtain ⟨p, hp, hps⟩ : ∃ p : Nat, m / 26 % (sz : Int) = (p : Int) ∧ p < sz := by
    have h1 := Int.emod_nonneg (m / 26) (show (sz : Int) ≠ 0 by omega)
    have h2 := Int.emod_lt_of_pos (m / 26) (show (0 : Int) < sz by omega)
    exact ⟨(m / 26 % (sz : Int)).toNat, by omega, by omega⟩
  obtain ⟨ns, s4', s7', e2, hl, hw⟩ := names_b (gam T n) m sz p f s4 h hs8 hf hps
  have qm := bin_mod' (m / 26) sz (by omega)
  have hll : (dNames ns).length = 4 := by simp [dNames, hl]
  have lf := hf.1
  have la : Str.length (Str.ofString "a") = 1 := by decide +kernel
  by_cases h8 : (sz : Int) < 8
  · have wa : Lw 1 (Str.ofString "a") := ⟨la, fun d hd => by
      have e : (Str.ofString "a").cps.toList = [97] := by decide +kernel
      rw [e] at hd
      have e2 : d = 97 := by simpa using hd
      omega⟩
    have w := hf.app wa
    have q : f.length + 1 ≤ 1000000 := by omega
    refine ⟨ns ++ [f ++ Str.ofString "a"], ?_, by simp [hl], fun x hx => ?_⟩
    · rw [callN_run T n h hT rfl rfl, runB_end]
      simp [cNames, startS, hsz, e1, qm, hp, mkLst, e2, h8, la, q, lim, hll]
      simp [dNames]
    · rcases List.mem_append.mp hx with z | z
      · exact (hw x z).nm hs1 hs8
      · have z' := List.mem_singleton.mp z
        rw [z']
        exact w.nm (by omega) (by omega)
  · have w := hf.take 7
    have q : f.length ≤ 1000000 := by omega
    refine ⟨ns ++ [⟨(cut f.cps.toList none (some ((7 : Nat) : Int))).toArray⟩], ?_, by simp [hl], fun x hx => ?_⟩
    · rw [callN_run T n h hT rfl rfl, runB_end]
      simp [cNames, startS, hsz, e1, qm, hp, mkLst, e2, h8, q, lim, hll]
      simp [dNames]
    · rcases List.mem_append.mp hx with z | z
      · exact (hw x z).nm hs1 hs8
      · have z' := List.mem_singleton.mp z
        rw [z']
        exact w.nm (by omega) (by omega)
end EW

-- part: LawU
set_option maxHeartbeats 1000000
/-! terms, and how the laws draw them -/
namespace EW
open PySem
/-- terms: blanks, and names with places -/
inductive Tm where
  | bl (i : Int) | mk (f : Str) (ts : List Tm)
mutual
def Tm.d : Tm → D
  | .bl i => .int i
  | .mk f ts => .tup (.str f :: Tm.ds ts)
def Tm.ds : List Tm → List D
  | [] => []
  | t :: ts => t.d :: Tm.ds ts
end
mutual
def Tm.size : Tm → Nat
  | .bl _ => 1
  | .mk f ts => 1 + Tm.sizes ts
def Tm.sizes : List Tm → Nat
  | [] => 0
  | t :: ts => t.size + Tm.sizes ts
end
mutual
def Tm.dep : Tm → Nat
  | .bl _ => 1
  | .mk f ts => 1 + Tm.deps ts
def Tm.deps : List Tm → Nat
  | [] => 0
  | t :: ts => max t.dep (Tm.deps ts)
end
mutual
/-- a term of the document, but for its size -/
def Tm.ok : Tm → Prop
  | .bl i => 0 ≤ i ∧ i ≤ 999
  | .mk f ts => Nm f ∧ ts.length ≤ 9 ∧ Tm.oks ts
def Tm.oks : List Tm → Prop
  | [] => True
  | t :: ts => t.ok ∧ Tm.oks ts
end
theorem Tm.ds_map (ts : List Tm) : Tm.ds ts = ts.map Tm.d := by
  induction ts with
  | nil => rfl
  | cons t ts ih => simp [Tm.ds, ih]
theorem sizes_map (ts : List Tm) : Tm.sizes ts = (ts.map Tm.size).sum := by
  induction ts with
  | nil => rfl
  | cons t ts ih => simp [Tm.sizes, ih]
theorem dep_le {t : Tm} {ts : List Tm} (h : t ∈ ts) : t.dep ≤ Tm.deps ts := by
  induction ts with
  | nil => cases h
  | cons u us ih =>
    unfold Tm.deps
    rcases List.mem_cons.mp h with e | h
    · subst e
      omega
    · have := ih h
      omega
theorem size_le {t : Tm} {ts : List Tm} (h : t ∈ ts) : t.size ≤ Tm.sizes ts := by
  induction ts with
  | nil => cases h
  | cons u us ih =>
    unfold Tm.sizes
    rcases List.mem_cons.mp h with e | h
    · subst e
      omega
    · have := ih h
      omega
theorem deps_le {ts : List Tm} {k : Nat} (h : ∀ t ∈ ts, t.dep ≤ k) : Tm.deps ts ≤ k := by
  induction ts with
  | nil => exact Nat.zero_le _
  | cons u us ih =>
    have h1 := h u (by simp)
    have h2 := ih fun t ht => h t (by simp [ht])
    unfold Tm.deps
    omega
theorem oks_mem {t : Tm} {ts : List Tm} (w : Tm.oks ts) (h : t ∈ ts) : t.ok := by
  induction ts with
  | nil => cases h
  | cons u us ih =>
    unfold Tm.oks at w
    rcases List.mem_cons.mp h with e | h
    · subst e
      exact w.1
    · exact ih w.2 h
theorem oks_of {ts : List Tm} (h : ∀ t ∈ ts, t.ok) : Tm.oks ts := by
  induction ts with
  | nil => trivial
  | cons u us ih => exact ⟨h u (by simp), ih fun t ht => h t (by simp [ht])⟩
theorem mk_ok {f : Str} {ts : List Tm} (h1 : Nm f) (h2 : ts.length ≤ 9) (h3 : ∀ t ∈ ts, t.ok) : (Tm.mk f ts).ok := ⟨h1, h2, oks_of h3⟩
theorem dep_mk (f : Str) (ts : List Tm) : (Tm.mk f ts).dep = 1 + Tm.deps ts := by rw [Tm.dep]
theorem size_mk (f : Str) (ts : List Tm) : (Tm.mk f ts).size = 1 + Tm.sizes ts := by rw [Tm.size]
theorem d_mk (f : Str) (ts : List Tm) : (Tm.mk f ts).d = .tup (.str f :: ts.map Tm.d) := by rw [Tm.d, Tm.ds_map]
theorem d_bl (i : Int) : (Tm.bl i).d = .int i := by rw [Tm.d]
theorem sizes_bound {ts : List Tm} {k : Nat} (h : ∀ t ∈ ts, t.size ≤ k) : Tm.sizes ts ≤ ts.length * k := by
  induction ts with
  | nil => simp [Tm.sizes]
  | cons u us ih =>
    have h1 := h u (by simp)
    have h2 := ih fun t ht => h t (by simp [ht])
    unfold Tm.sizes
    rw [List.length_cons, Nat.add_mul]
    omega
theorem size_pos (t : Tm) : 1 ≤ t.size := by
  cases t with
  | bl i => rw [Tm.size]; exact Nat.le_refl _
  | mk f ts => rw [size_mk]; omega
theorem dep_pos (t : Tm) : 1 ≤ t.dep := by
  cases t with
  | bl i => rw [Tm.dep]; exact Nat.le_refl _
  | mk f ts => rw [dep_mk]; omega
def tBody : List S := [.asg (.tup [(.v 8), (.v 0)]) (.call "_law_term" [(.v 0), (.v 1), (.bin .Sub (.v 2) (.k (.int 1)))]),
    .ex (.meth "append" (.v 6) [(.v 8)])]
/-- _law_term -/
def cTerm : Fd := ⟨3, 9, 
  [.asg (.v 3) (.bin .Mod (.v 0) (.k (.int 6))),
  .asg (.v 0) (.bin .FloorDiv (.v 0) (.k (.int 6))),
  .ife (.or (.cmp .Eq (.v 3) (.k (.int 0))) (.and (.cmp .Eq (.v 2) (.k (.int 1))) (.cmp .Lt (.v 3) (.k (.int 4)))))
     [.ret (.tup [(.idx (.lst [(.k (.int 0)), (.k (.int 1)), (.k (.int 2)), (.bin .Mod (.bin .FloorDiv (.v 0) (.k (.int 4))) (.k (.int 1000)))]) (.bin .Mod (.v 0) (.k (.int 4)))), (.bin .FloorDiv (.v 0) (.k (.int 4000)))])]
     [],
  .ife (.or (.cmp .Eq (.v 3) (.k (.int 1))) (.cmp .Eq (.v 2) (.k (.int 1))))
     [.ret (.tup [(.tup [(.idx (.v 1) (.bin .Mod (.v 0) (.k (.int 5))))]), (.bin .FloorDiv (.v 0) (.k (.int 5)))])]
     [],
  .asg (.v 4) (.idx (.v 1) (.bin .Mod (.v 0) (.k (.int 5)))),
  .asg (.v 5) (.bin .Add (.k (.int 1)) (.bin .Mod (.bin .FloorDiv (.v 0) (.k (.int 5))) (.k (.int 3)))),
  .asg (.v 0) (.bin .FloorDiv (.v 0) (.k (.int 15))),
  .asg (.v 6) (.lst []),
  .for_ (.v 7) (.it .range [(.v 5)]) tBody,
  .ret (.tup [(.bi .tuple [(.bin .Add (.lst [(.v 4)]) (.v 6))]), (.v 0)])], []⟩
theorem nameAt {ns : List Str} (hl : ns.length = 5) (hns : ∀ x ∈ ns, Nm x) (i : Int) (h0 : 0 ≤ i) (h1 : i < 5) : ∃ x, L2.atI (dNames ns) i = some (.str x) ∧ x ∈ ns ∧ Nm x := by
  refine ⟨ns[i.toNat]'(by omega), ?_, List.getElem_mem _, hns _ (List.getElem_mem _)⟩
  rw [atI_int _ _ h0 (by simp [dNames]; omega)]
  simp [dNames]
theorem sp_term {T : Tab} (hT : T.fn "_law_term" = some cTerm) (a : Nat) (ns : List Str) (h : List O) (hr : h[a]? = some (.lst (dNames ns))) (hl : ns.length = 5) (hns : ∀ x ∈ ns, Nm x) :
    ∀ (room n : Nat) (num : Int), 0 ≤ num → 1 ≤ room → ∃ (num' : Int) (t : Tm), callN T (n + room) "_law_term" [.int num, .ref a, .int room] h = .ok (.d (.tup [t.d, .int num'])) h ∧ 0 ≤ num' ∧ t.ok ∧ t.dep ≤ room ∧ t.size ≤ 4 ^ room := by
  intro room
  have hll : (dNames ns).length = 5 := by simp [dNames, hl]
  induction room with
  | zero => intro n num h0 h1; omega
  | succ room ih =>
    intro n num h0 _
    obtain ⟨k, hk, k0, k6⟩ : ∃ k : Int, num % 6 = k ∧ 0 ≤ k ∧ k < 6 := ⟨_, rfl, by omega, by omega⟩
    obtain ⟨m, hm, m0⟩ : ∃ m : Int, num / 6 = m ∧ 0 ≤ m := ⟨_, rfl, by omega⟩
    have e0 : n + (room + 1) = (n + room) + 1 := by omega
    have p4 : 4 ≤ 4 ^ (room + 1) := by
      have : 1 ≤ 4 ^ room := Nat.one_le_pow _ _ (by decide)
      rw [Nat.pow_succ]
      omega
    by_cases cA : k = 0 ∨ (room = 0 ∧ k < 4)
    · obtain ⟨b, hb, b0, b1⟩ : ∃ b : Int, L2.atI [D.int 0, D.int 1, D.int 2, D.int (m / 4 % 1000)] (m % 4) = some (.int b) ∧ 0 ≤ b ∧ b ≤ 999 := by
        have h4 : m % 4 = 0 ∨ m % 4 = 1 ∨ m % 4 = 2 ∨ m % 4 = 3 := by omega
        rcases h4 with z | z | z | z <;> rw [z]
        · exact ⟨0, rfl, by omega, by omega⟩
        · exact ⟨1, rfl, by omega, by omega⟩
        · exact ⟨2, rfl, by omega, by omega⟩
        · exact ⟨m / 4 % 1000, rfl, by omega, by omega⟩
      refine ⟨m / 4000, .bl b, ?_, by omega, ⟨b0, b1⟩, by rw [Tm.dep]; omega, by rw [Tm.size]; omega⟩
      rw [e0, callN_run T (n + room) h hT rfl rfl, runB_end]
      rcases cA with z | ⟨z1, z2⟩
      · simp [cTerm, startS, hk, hm, z, mkLst, lim, hb, mkTup, d_bl]
      · subst z1
        by_cases z : k = 0
        · simp [cTerm, startS, hk, hm, z, mkLst, lim, hb, mkTup, d_bl]
        · simp [cTerm, startS, hk, hm, z, z2, mkLst, lim, hb, mkTup, d_bl]
    · have cA1 : k ≠ 0 := fun z => cA (.inl z)
      by_cases cB : k = 1 ∨ room = 0
      · obtain ⟨x, hx, _, hn⟩ := nameAt hl hns (m % 5) (by omega) (by omega)
        refine ⟨m / 5, .mk x [], ?_, by omega, mk_ok hn (by simp) (fun t ht => by cases ht), by rw [dep_mk]; simp [Tm.deps], by rw [size_mk]; simp [Tm.sizes]; omega⟩
        rw [e0, callN_run T (n + room) h hT rfl rfl, runB_end]
        by_cases z : k = 1
        · by_cases z2 : room = 0
          · exact (cA (.inr ⟨z2, by omega⟩)).elim
          · have z3 : ¬ (room : Int) + 1 = 1 := by omega
            simp [cTerm, startS, hk, hm, z, z2, z3, hr, hll, hx, lim, mkTup, d_mk]
        · have z2 : room = 0 := by
            rcases cB with y | y
            · exact (z y).elim
            · exact y
          subst z2
          have z3 : ¬ k < 4 := fun y => cA (.inr ⟨rfl, y⟩)
          simp [cTerm, startS, hk, hm, z, cA1, z3, hr, hll, hx, lim, mkTup, d_mk]
      · have cB1 : k ≠ 1 := fun z => cB (.inl z)
        have cB2 : room ≠ 0 := fun z => cB (.inr z)
        obtain ⟨x, hx, _, hn⟩ := nameAt hl hns (m % 5) (by omega) (by omega)
        obtain ⟨p, hp, p1, p3⟩ : ∃ p : Nat, 1 + m / 5 % 3 = (p : Int) ∧ 1 ≤ p ∧ p ≤ 3 := ⟨(1 + m / 5 % 3).toNat, by omega, by omega, by omega⟩
        obtain ⟨s', e1, m', ts, s7, s8, rfl, m0', hts, hok⟩ := for_range (G := gam T (n + room)) (k := 7) (src := .it .range [(.v 5)]) (b := tBody) (st := ⟨[.d (.int (m / 15)), .d (.ref a), .d (.int ((room : Int) + 1)), .d (.int k), .d (.str x), .d (.int p), .o (.lst []), .un, .un], h⟩) (p := p) (by simp) (by omega)
          (fun i s => ∃ (m' : Int) (ts : List Tm) (s7 s8 : Sl), s = ⟨[.d (.int m'), .d (.ref a), .d (.int ((room : Int) + 1)), .d (.int k), .d (.str x), .d (.int p), .o (.lst (ts.map Tm.d)), s7, s8], h⟩ ∧ 0 ≤ m' ∧ ts.length = i ∧ ∀ t ∈ ts, t.ok ∧ t.dep ≤ room ∧ t.size ≤ 4 ^ room)
          ⟨_, [], _, _, rfl, by omega, rfl, fun t ht => by cases ht⟩ (fun i s hi ⟨m', ts, s7, s8, e, m0', hts, hok⟩ => by
            subst e
            obtain ⟨m2, t, e1, b0, b1, b2, b3⟩ := ih n m' m0' (by omega)
            have ed : (room : Int) + 1 - 1 = (room : Int) := by omega
            have hl3 : ts.length < 1000000 := by omega
            refine ⟨⟨[.d (.int m2), .d (.ref a), .d (.int ((room : Int) + 1)), .d (.int k), .d (.str x), .d (.int p), .o (.lst ((ts ++ [t]).map Tm.d)), .d (.int i), .d t.d], h⟩, .inl ?_, _, _, _, _, rfl, b0, by simp [hts], fun u hu => ?_⟩
            · simp [tBody, ed, e1, lim, hl3]
            · rcases List.mem_append.mp hu with z | z
              · exact hok u z
              · rw [List.mem_singleton.mp z]
                exact ⟨b1, b2, b3⟩)
        refine ⟨m', .mk x ts, ?_, m0', mk_ok hn (by omega) (fun t ht => (hok t ht).1), ?_, ?_⟩
        · rw [e0, callN_run T (n + room) h hT rfl rfl, runB_end]
          have z3 : ¬ (room : Int) + 1 = 1 := by omega
          have hl5 : 1 + ts.length ≤ 1000000 := by omega
          simp [cTerm, startS, hk, hm, cA1, cB1, cB2, z3, hr, hll, hx, hp, mkLst, lim, e1, hl5, mkTup, d_mk]
        · rw [dep_mk]
          have := deps_le (k := room) fun t ht => (hok t ht).2.1
          omega
        · have h1 := sizes_bound (k := 4 ^ room) fun t ht => (hok t ht).2.2
          have h2 : ts.length * 4 ^ room ≤ 3 * 4 ^ room := Nat.mul_le_mul_right _ (by omega)
          have h3 : 1 ≤ 4 ^ room := Nat.one_le_pow _ _ (by decide)
          rw [size_mk, Nat.pow_succ]
          omega
/-! a wide term -/
def wBody : List S := [.ex (.meth "append" (.v 3) [(.call "_law_wide" [(.bin .FloorDiv (.bin .Add (.bin .Sub (.v 0) (.k (.int 1))) (.v 4)) (.v 2)), (.v 1)])])]
/-- _law_wide -/
def cWide : Fd := ⟨2, 5, 
  [.ife (.cmp .Eq (.v 0) (.k (.int 1)))
     [.ret (.tup [(.v 1)])]
     [],
  .asg (.v 2) (.bi .min [(.k (.int 9)), (.bin .Sub (.v 0) (.k (.int 1)))]),
  .asg (.v 3) (.lst []),
  .for_ (.v 4) (.it .range [(.v 2)]) wBody,
  .ret (.bi .tuple [(.bin .Add (.lst [(.v 1)]) (.v 3))])], []⟩
def wideB : Nat → Nat
  | 0 => 0
  | m + 1 => 9 * wideB m + 1
/-- shares of M -/
def shr (M s : Nat) : Nat → Nat
  | 0 => 0
  | i + 1 => shr M s i + (M + i) / s
theorem shr_part (s q r : Nat) (h1 : 1 ≤ s) (hr : r < s) : ∀ i, i ≤ s → shr (s * q + r) s i = i * q + (i - (s - r))
  | 0, _ => by simp [shr]
  | i + 1, hi => by
    have ih := shr_part s q r h1 hr i (by omega)
    have e : (s * q + r + i) / s = q + (r + i) / s := by rw [Nat.add_assoc, Nat.mul_add_div (by omega)]
    rw [shr, ih, e, Nat.add_mul, Nat.one_mul]
    by_cases z : s ≤ r + i
    · have : (r + i) / s = 1 := by
        rw [Nat.div_eq_iff (by omega)]
        omega
      omega
    · have : (r + i) / s = 0 := Nat.div_eq_of_lt (by omega)
      omega
theorem shr_all (M s : Nat) (h1 : 1 ≤ s) (h9 : s ≤ 9) : shr M s s = M := by
  have h := shr_part s (M / s) (M % s) h1 (Nat.mod_lt _ (by omega)) s (Nat.le_refl _)
  rw [Nat.div_add_mod] at h
  have h2 := Nat.div_add_mod M s
  have h3 := Nat.mod_lt M (show s > 0 by omega)
  rw [h]
  omega
theorem sp_wide {T : Tab} (hT : T.fn "_law_wide" = some cWide) (x : Str) (hx : Nm x) (h : List O) : ∀ (m n : Nat) (many : Nat), 1 ≤ many → many ≤ wideB m →
    ∃ t : Tm, callN T (n + m) "_law_wide" [.int many, .str x] h = .ok (.d t.d) h ∧ t.ok ∧ t.dep ≤ m ∧ t.size = many := by
  intro m
  induction m with
  | zero => intro n many h1 h2; unfold wideB at h2; omega
  | succ m ih =>
    intro n many h1 h2
    have e0 : n + (m + 1) = (n + m) + 1 := by omega
    by_cases c1 : many = 1
    · subst c1
      refine ⟨.mk x [], ?_, mk_ok hx (by simp) (fun t ht => by cases ht), by rw [dep_mk]; simp [Tm.deps], by rw [size_mk]; simp [Tm.sizes]⟩
      rw [e0, callN_run T (n + m) h hT rfl rfl, runB_end]
      simp [cWide, startS, mkTup, lim, d_mk]
    · unfold wideB at h2
      obtain ⟨s, hs, s1, s9⟩ : ∃ s : Nat, (if (many : Int) - 1 < 9 then (many : Int) - 1 else 9) = (s : Int) ∧ 1 ≤ s ∧ s ≤ 9 := by
        by_cases q : (many : Int) - 1 < 9
        · rw [if_pos q]
          exact ⟨many - 1, by omega, by omega, by omega⟩
        · rw [if_neg q]
          exact ⟨9, by omega, by omega, by omega⟩
      have hs2 : (s = many - 1 ∧ many ≤ 10) ∨ (s = 9 ∧ 10 ≤ many) := by
        by_cases q : (many : Int) - 1 < 9
        · rw [if_pos q] at hs
          omega
        · rw [if_neg q] at hs
          omega
      have hm1 : 1 ≤ wideB m := by
        cases m with
        | zero =>
          unfold wideB at h2
          omega
        | succ m =>
          unfold wideB
          omega
      obtain ⟨s', e1, ts, s4, rfl, hts, hsz, hok⟩ := for_range (G := gam T (n + m)) (k := 4) (src := .it .range [(.v 2)]) (b := wBody) (st := ⟨[.d (.int many), .d (.str x), .d (.int s), .o (.lst []), .un], h⟩) (p := s) (by simp) (by omega)
        (fun i st => ∃ (ts : List Tm) (s4 : Sl), st = ⟨[.d (.int many), .d (.str x), .d (.int s), .o (.lst (ts.map Tm.d)), s4], h⟩ ∧ ts.length = i ∧ Tm.sizes ts = shr (many - 1) s i ∧ ∀ t ∈ ts, t.ok ∧ t.dep ≤ m)
        ⟨[], _, rfl, rfl, rfl, fun t ht => by cases ht⟩ (fun i st hi ⟨ts, s4, e, hts, hsz, hok⟩ => by
          subst e
          have c0 : 1 ≤ (many - 1 + i) / s := by
            rw [Nat.one_le_div_iff (by omega)]
            omega
          have c2 : (many - 1 + i) / s ≤ wideB m := by
            have : (many - 1 + i) / s ≤ (wideB m * s + (s - 1)) / s := Nat.div_le_div_right (by
              rcases hs2 with ⟨a1, a2⟩ | ⟨a1, a2⟩
              · have : 1 * s ≤ wideB m * s := Nat.mul_le_mul_right _ hm1
                omega
              · subst a1
                omega)
            have e2 : (wideB m * s + (s - 1)) / s = wideB m := by
              rw [Nat.mul_comm, Nat.mul_add_div (by omega), Nat.div_eq_of_lt (by omega), Nat.add_zero]
            omega
          obtain ⟨t, e1, b0, b1, b2⟩ := ih n ((many - 1 + i) / s) c0 c2
          have ec : ((many : Int) - 1 + i) / s = (((many - 1 + i) / s : Nat) : Int) := by
            rw [Int.natCast_ediv]
            congr 1
            omega
          have q := bin_fdiv' ((many : Int) - 1 + i) s (by omega) (by omega)
          rw [ec] at q
          have hl3 : ts.length < 1000000 := by omega
          refine ⟨⟨[.d (.int many), .d (.str x), .d (.int s), .o (.lst ((ts ++ [t]).map Tm.d)), .d (.int i)], h⟩, .inl ?_, _, _, rfl, by simp [hts], ?_, fun u hu => ?_⟩
          · have e1' : callN T (n + m) "_law_wide" [.int (((many - 1 + i) / s : Nat) : Int), .str x] h = .ok (.d t.d) h := e1
            simp only [wBody, exs_cons, exs_nil, ex_ex, ev_meth, ev_v, evs_cons, evs_nil, ev_call, ev_bin, ev_k]
            simp [q, e1', lim, hl3, -Int.natCast_ediv]
          · rw [sizes_map, List.map_append, List.sum_append, ← sizes_map, hsz]
            simp [shr, b2]
          · rcases List.mem_append.mp hu with z | z
            · exact hok u z
            · rw [List.mem_singleton.mp z]
              exact ⟨b0, b1⟩)
      rw [shr_all _ _ s1 s9] at hsz
      refine ⟨.mk x ts, ?_, mk_ok hx (by omega) (fun t ht => (hok t ht).1), ?_, by rw [size_mk]; omega⟩
      · rw [e0, callN_run T (n + m) h hT rfl rfl, runB_end]
        have c1' : ¬ (many : Int) = 1 := by omega
        have hl5 : 1 + ts.length ≤ 1000000 := by omega
        simp [cWide, startS, c1, c1', hs, mkLst, lim, e1, hl5, d_mk]
      · rw [dep_mk]
        have := deps_le (k := m) fun t ht => (hok t ht).2
        omega
end EW

-- part: TermT
set_option maxHeartbeats 1000000
/-! is_whole, is_name, is_term of any data; over any table that has them -/
namespace EW.TT
open PySem EW
def fWhole : Fd := ⟨1, 1, 
  [.ret (.and (.isi (.v 0) ["int"]) (.not (.isi (.v 0) ["bool"])))], []⟩
def fName : Fd := ⟨1, 2, 
  [.ife (.or (.not (.isi (.v 0) ["str"])) (.or (.cmp .Lt (.bi .len [(.v 0)]) (.k (.int 1))) (.cmp .Gt (.bi .len [(.v 0)]) (.g "LONGEST_NAME" (.int 8)))))
     [.ret (.k (.bl false))]
     [],
  .ret (.bi .all [(.lc (.cmp .In (.v 1) (.g "LETTERS" (.str "abcdefghijklmnopqrstuvwxyz"))) (.v 1) (.v 0) .no)])], []⟩
def fParts : Fd := ⟨2, 5, 
  [.ife (.cmp .Eq (.v 1) (.k (.int 0)))
     [.ret (.k (.int 0))]
     [],
  .ife (.call "is_whole" [(.v 0)])
     [.ret (.bi .int [(.chn .LtE .LtE (.k (.int 0)) (.v 0) (.g "MOST_BLANK" (.int 999)))])]
     [],
  .ife (.or (.not (.isi (.v 0) ["tuple"])) (.or (.cmp .Lt (.bi .len [(.v 0)]) (.k (.int 1))) (.or (.cmp .Gt (.bi .len [(.v 0)]) (.bin .Add (.k (.int 1)) (.g "MOST_PLACES" (.int 9)))) (.not (.call "is_name" [(.idx (.v 0) (.k (.int 0)))])))))
     [.ret (.k (.int 0))]
     [],
  .asg (.v 2) (.k (.int 1)),
  .for_ (.v 3) (.sl (.v 0) (.k (.int 1)) .no)
     [.asg (.v 4) (.call "parts_within" [(.v 3), (.bin .Sub (.v 1) (.k (.int 1)))]),
    .aug 2 .Add (.v 4),
    .ife (.or (.cmp .Eq (.v 4) (.k (.int 0))) (.cmp .Gt (.v 2) (.g "MOST_PARTS" (.int 1000))))
       [.ret (.k (.int 0))]
       []],
  .ret (.v 2)], []⟩
def fTerm : Fd := ⟨1, 1, 
  [.ret (.cmp .Gt (.call "parts_within" [(.v 0), (.g "MOST_LEVELS" (.int 60))]) (.k (.int 0)))], []⟩
structure TFns (T : Tab) : Prop where
  whole : T.fn "is_whole" = some fWhole
  name : T.fn "is_name" = some fName
  parts : T.fn "parts_within" = some fParts
  term : T.fn "is_term" = some fTerm
section
variable {T : Tab}
mutual
/-- data that can be asked about: refs below m -/
def fin (m : Nat) : D → Prop
  | .non => True | .bl _ => True | .int _ => True
  | .str x => x.length ≤ 1000000
  | .tup ds => fins m ds
  | .ref a => a < m
  | .fz _ => False | .exn _ => False
def fins (m : Nat) : List D → Prop
  | [] => True
  | d :: ds => fin m d ∧ fins m ds
end
mutual
theorem fin.mono {m n : Nat} (h : m ≤ n) : ∀ d : D, fin m d → fin n d
  | .non, _ => trivial
  | .bl _, _ => trivial
  | .int _, _ => trivial
  | .str x, w => w
  | .tup ds, w => fins.mono h ds w
  | .ref a, w => Nat.lt_of_lt_of_le w h
  | .fz _, w => w
  | .exn _, w => w
theorem fins.mono {m n : Nat} (h : m ≤ n) : ∀ ds : List D, fins m ds → fins n ds
  | [], _ => trivial
  | d :: ds, w => ⟨fin.mono h d w.1, fins.mono h ds w.2⟩
end
theorem fins_iff {m : Nat} {ds : List D} : fins m ds ↔ ∀ d ∈ ds, fin m d := by
  induction ds with
  | nil => simp [fins]
  | cons d ds ih => simp [fins, ih]
/-- lists and dicts alone -/
def LD (h : List O) : Prop := ∀ o ∈ h, (∃ xs, o = .lst xs) ∨ ∃ kvs, o = .dct false kvs
theorem LD.at {h : List O} (w : LD h) {a : Nat} (ha : a < h.length) : (∃ xs, h[a]? = some (.lst xs)) ∨ ∃ kvs, h[a]? = some (.dct false kvs) := by
  rw [List.getElem?_eq_getElem ha]
  rcases w h[a] (List.getElem_mem ha) with ⟨xs, e⟩ | ⟨xs, e⟩
  · exact .inl ⟨xs, by rw [e]⟩
  · exact .inr ⟨xs, by rw [e]⟩
theorem LD.app {h t : List O} (w : LD h) (z : LD t) : LD (h ++ t) := fun o ho => by
  rcases List.mem_append.mp ho with q | q
  · exact w o q
  · exact z o q
def isW : D → Bool
  | .int _ => true
  | _ => false
def isN : D → Bool
  | .str x => decide (1 ≤ x.length ∧ x.length ≤ 8) && (x.cps.toList.all lB)
  | _ => false
@[simp] theorem mapM_nil {α β : Type} (f : α → Option β) : ([] : List α).mapM f = some [] := rfl
theorem sp_is_whole {f : String} (hT : T.fn f = some fWhole) (n : Nat) (h : List O) (hh : LD h) (d : D) (hd : fin h.length d) : callN T (n + 1) f [d] h = .ok (.d (.bl (isW d))) h := by
  rw [callN_run T n h (fd := fWhole) hT rfl rfl, runB_end]
  cases d with
  | ref a => rcases hh.at hd with ⟨xs, e⟩ | ⟨xs, e⟩ <;> simp [fWhole, startS, isiE, isiW, e, isW]
  | fz ds => exact hd.elim
  | exn c => exact hd.elim
  | _ => simp [fWhole, startS, isiE, isiW, isW]
theorem sp_whole (TF : TFns T) (n : Nat) (h : List O) (hh : LD h) (d : D) (hd : fin h.length d) : callN T (n + 1) "is_whole" [d] h = .ok (.d (.bl (isW d))) h := sp_is_whole TF.whole n h hh d hd
theorem strItems_len (x : Str) : (strItems x).length = x.length := by simp [strItems, Str.length]
theorem sp_name (TF : TFns T) (n : Nat) (h : List O) (hh : LD h) (d : D) (hd : fin h.length d) : callN T (n + 1) "is_name" [d] h = .ok (.d (.bl (isN d))) h := by
  rw [callN_run T n h (fd := fName) TF.name rfl rfl, runB_end]
  cases d with
  | ref a => rcases hh.at hd with ⟨xs, e⟩ | ⟨xs, e⟩ <;> simp [fName, startS, isiE, isiW, e, isN]
  | fz ds => exact hd.elim
  | exn c => exact hd.elim
  | str x =>
    have hx : x.length ≤ 1000000 := hd
    by_cases c1 : x.length < 1
    · have c1' : ¬ 1 ≤ x.length := by omega
      have c2 : (x.length : Int) < 1 := by omega
      simp [fName, startS, isiE, isiW, isN, hx, lim, c1, c1', c2]
    · by_cases c3 : 8 < x.length
      · have c3' : ¬ x.length ≤ 8 := by omega
        have c2 : ¬ (x.length : Int) < 1 := by omega
        have c4 : (8 : Int) < x.length := by omega
        simp [fName, startS, isiE, isiW, isN, hx, lim, c1, c2, c3, c3', c4]
      · have c2 : ¬ (x.length : Int) < 1 := by omega
        have c4 : ¬ (8 : Int) < x.length := by omega
        have c5 : 1 ≤ x.length ∧ x.length ≤ 8 := by omega
        have lc := ev_map (G := gam T n) (elt := .cmp .In (.v 1) (.g "LETTERS" (.str "abcdefghijklmnopqrstuvwxyz"))) (src := .v 0) (tg := .v 1) (st := ⟨[.d (.str x), .un], h⟩) (st1 := ⟨[.d (.str x), .un], h⟩) (v := .d (.str x)) x.cps.toList (fun c => .str ⟨#[c]⟩) (fun c => .bl (lB c))
          (by simp) (by simp [items_d, strItems]) (by
            have e : x.cps.toList.length = x.length := by simp [Str.length]
            rw [e]
            exact hx) rfl (fun c hc => ⟨_, rfl, by simp [wst, wipeS, Tg.vars, in_letters], by simp [wst, wipeS, Tg.vars]⟩)
        have hb := boolsD_map (lB) x.cps.toList
        simp [fName, startS, isiE, isiW, isN, hx, lim, c1, c2, c3, c4, c5, lc, hb, List.all_map, Function.comp_def]
  | _ => simp [fName, startS, isiE, isiW, isN]
mutual
/-- the shape of a term -/
def wf : D → Bool
  | .int i => decide (0 ≤ i) && decide (i ≤ 999)
  | .tup (d :: r) => decide (r.length ≤ 9) && isN d && wfs r
  | _ => false
def wfs : List D → Bool
  | [] => true
  | d :: r => wf d && wfs r
end
mutual
def dsz : D → Nat
  | .tup (_ :: r) => 1 + dszs r
  | _ => 1
def dszs : List D → Nat
  | [] => 0
  | d :: r => dsz d + dszs r
end
mutual
def ddp : D → Nat
  | .tup (_ :: r) => 1 + ddps r
  | _ => 1
def ddps : List D → Nat
  | [] => 0
  | d :: r => max (ddp d) (ddps r)
end
theorem wfs_app (a b : List D) : wfs (a ++ b) = (wfs a && wfs b) := by
  induction a with
  | nil => simp [wfs]
  | cons d r ih => simp [wfs, ih, Bool.and_assoc]
theorem dszs_app (a b : List D) : dszs (a ++ b) = dszs a + dszs b := by
  induction a with
  | nil => simp [dszs]
  | cons d r ih => simp only [List.cons_append, dszs, ih]; omega
theorem ddps_app (a b : List D) : ddps (a ++ b) = max (ddps a) (ddps b) := by
  induction a with
  | nil => simp [ddps]
  | cons d r ih => simp only [List.cons_append, ddps, ih]; omega
theorem wfs_iff {ds : List D} : wfs ds = true ↔ ∀ d ∈ ds, wf d = true := by
  induction ds with
  | nil => simp [wfs]
  | cons d r ih => simp [wfs, ih]
theorem ddps_iff {ds : List D} {k : Nat} : ddps ds ≤ k ↔ ∀ d ∈ ds, ddp d ≤ k := by
  induction ds with
  | nil => simp [ddps]
  | cons d r ih =>
    simp [ddps, ← ih]
    exact Nat.max_le
theorem dsz_pos (d : D) : 1 ≤ dsz d := by
  unfold dsz
  split <;> omega
theorem ddp_pos (d : D) : 1 ≤ ddp d := by
  unfold ddp
  split <;> omega
/-- a term in so many levels, a thousand parts -/
def good (r : Nat) (d : D) : Bool := wf d && decide (ddp d ≤ r) && decide (dsz d ≤ 1000)
def pw (r : Nat) (d : D) : Nat := if good r d = true then dsz d else 0
theorem pw_zero {r : Nat} {d : D} : pw r d = 0 ↔ good r d = false := by
  unfold pw
  cases good r d with
  | true =>
    have := dsz_pos d
    simp
    omega
  | false => simp
theorem pw_of {r : Nat} {d : D} (h : good r d = true) : pw r d = dsz d := by
  unfold pw
  rw [if_pos h]
theorem good_iff {r : Nat} {d : D} : good r d = true ↔ wf d = true ∧ ddp d ≤ r ∧ dsz d ≤ 1000 := by
  unfold good
  simp only [Bool.and_eq_true, decide_eq_true_eq, and_assoc]
theorem take_one {α : Type} (xs : List α) (i : Nat) (hi : i < xs.length) : xs.take (i + 1) = xs.take i ++ [xs[i]] := List.take_succ_eq_append_getElem hi
theorem dszs_take (xs : List D) (i : Nat) : dszs (xs.take i) ≤ dszs xs := by
  have := dszs_app (xs.take i) (xs.drop i)
  rw [List.take_append_drop] at this
  omega
def pBody : List S := [.asg (.v 4) (.call "parts_within" [(.v 3), (.bin .Sub (.v 1) (.k (.int 1)))]),
    .aug 2 .Add (.v 4),
    .ife (.or (.cmp .Eq (.v 4) (.k (.int 0))) (.cmp .Gt (.v 2) (.g "MOST_PARTS" (.int 1000))))
       [.ret (.k (.int 0))]
       []]
theorem sp_parts (TF : TFns T) : ∀ (r n : Nat) (h : List O), LD h → ∀ d, fin h.length d → callN T (n + r + 2) "parts_within" [d, .int r] h = .ok (.d (.int (pw r d))) h
  | 0, n, h, hh, d, hd => by
    have e : pw 0 d = 0 := pw_zero.mpr (by
      have := ddp_pos d
      unfold good
      simp
      omega)
    rw [e, callN_run T (n + 0 + 1) h (fd := fParts) TF.parts rfl rfl, runB_end]
    simp [fParts, startS]
  | r + 1, n, h, hh, d, hd => by
    have hw := sp_whole TF (n + r + 1) h hh d hd
    have e0 : n + (r + 1) + 2 = (n + r + 2) + 1 := by omega
    rw [e0, callN_run T (n + r + 2) h (fd := fParts) TF.parts rfl rfl, runB_end]
    have z0 : ¬ (r : Int) + 1 = 0 := by omega
    cases d with
    | fz ds => exact hd.elim
    | exn c => exact hd.elim
    | ref a =>
      have e1 : pw (r + 1) (.ref a) = 0 := rfl
      rcases hh.at hd with ⟨xs, e⟩ | ⟨xs, e⟩ <;> simp [fParts, startS, isiE, isiW, e, hw, isW, e1, z0]
    | int i =>
      by_cases q1 : 0 ≤ i
      · by_cases q2 : i ≤ 999
        · have e1 : pw (r + 1) (.int i) = 1 := by
            rw [pw_of (good_iff.mpr ⟨by simp [wf, q1, q2], by simp [ddp], by simp [dsz]⟩)]
            simp [dsz]
          have q3 : ¬ 999 < i := by omega
          simp [fParts, startS, hw, isW, e1, z0, q1, q2, q3]
        · have e1 : pw (r + 1) (.int i) = 0 := pw_zero.mpr (by simp [good, wf, q2])
          have q3 : 999 < i := by omega
          simp [fParts, startS, hw, isW, e1, z0, q1, q2, q3]
      · have e1 : pw (r + 1) (.int i) = 0 := pw_zero.mpr (by simp [good, wf, q1])
        simp [fParts, startS, hw, isW, e1, z0, q1]
    | tup ds =>
      cases ds with
      | nil =>
        have e1 : pw (r + 1) (.tup []) = 0 := rfl
        simp [fParts, startS, isiE, isiW, hw, isW, e1, z0]
      | cons a rest =>
        have ha : fin h.length a := hd.1
        have hr : fins h.length rest := hd.2
        have hn := sp_name TF (n + r + 1) h hh a ha
        have z1 : ¬ (rest.length : Int) + 1 < 1 := by omega
        by_cases q1 : 9 < rest.length
        · have e1 : pw (r + 1) (.tup (a :: rest)) = 0 := pw_zero.mpr (by
            have : ¬ rest.length ≤ 9 := by omega
            simp [good, wf, this])
          have z2 : (10 : Int) < (rest.length : Int) + 1 := by omega
          simp [fParts, startS, isiE, isiW, hw, isW, e1, z0, z1, z2]
        · have z2 : ¬ (10 : Int) < (rest.length : Int) + 1 := by omega
          cases q2 : isN a with
          | false =>
            have e1 : pw (r + 1) (.tup (a :: rest)) = 0 := pw_zero.mpr (by simp [good, wf, q2])
            simp [fParts, startS, isiE, isiW, hw, isW, e1, z0, z1, z2, hn, q2]
          | true =>
            have gd : good (r + 1) (.tup (a :: rest)) = true ↔ wfs rest = true ∧ ddps rest ≤ r ∧ 1 + dszs rest ≤ 1000 := by
              rw [good_iff, wf, ddp, dsz]
              simp only [q2, Bool.and_eq_true, decide_eq_true_eq, and_true]
              constructor
              · rintro ⟨⟨_, b⟩, c, d⟩
                exact ⟨b, by omega, d⟩
              · rintro ⟨b, c, d⟩
                exact ⟨⟨by omega, b⟩, by omega, d⟩
            rcases for_exit (G := gam T (n + r + 2)) (tg := .v 3) (src := .sl (.v 0) (.k (.int 1)) .no) (b := pBody) (st := ⟨[.d (.tup (a :: rest)), .d (.int ((r : Int) + 1)), .d (.int 1), .un, .un], h⟩) (st1 := ⟨[.d (.tup (a :: rest)), .d (.int ((r : Int) + 1)), .d (.int 1), .un, .un], h⟩) (v := .d (.tup rest)) (xs := rest) (by simp) (fun s => by simp [items_d]) rfl
              (fun i s => (∃ s3 s4, s = ⟨[.d (.tup (a :: rest)), .d (.int ((r : Int) + 1)), .d (.int (1 + dszs (rest.take i) : Nat)), s3, s4], h⟩) ∧ wfs (rest.take i) = true ∧ ddps (rest.take i) ≤ r ∧ 1 + dszs (rest.take i) ≤ 1000)
              (fun v s => v = .d (.int 0) ∧ s.h = h ∧ ¬ good (r + 1) (.tup (a :: rest)) = true) ⟨⟨_, _, rfl⟩, rfl, Nat.zero_le _, by simp [dszs]⟩
              (fun i hi s ⟨⟨s3, s4, e⟩, i1, i2, i3⟩ => by
                subst e
                have hm : rest[i] ∈ rest := List.getElem_mem hi
                have ih := sp_parts TF r n h hh rest[i] (fins_iff.mp hr _ hm)
                have ec : (r : Int) + 1 - 1 = (r : Int) := by omega
                have et := take_one rest i hi
                have es : dszs (rest.take (i + 1)) = dszs (rest.take i) + dsz rest[i] := by rw [et, dszs_app]; simp [dszs]
                have em : ((1 + dszs (rest.take i) : Nat) : Int) = 1 + (dszs (rest.take i) : Int) := by omega
                refine ⟨⟨[.d (.tup (a :: rest)), .d (.int ((r : Int) + 1)), .d (.int (1 + dszs (rest.take i) : Nat)), .d rest[i], s4], h⟩, rfl, ?_⟩
                rw [em]
                cases g : good r rest[i] with
                | false =>
                  have g0 := pw_zero.mpr g
                  rw [g0] at ih
                  refine .inr ⟨.d (.int 0), ⟨[.d (.tup (a :: rest)), .d (.int ((r : Int) + 1)), .d (.int (1 + (dszs (rest.take i) : Int))), .d rest[i], .d (.int 0)], h⟩, ?_, rfl, rfl, fun z => ?_⟩
                  · simp [pBody, ec, ih]
                  · obtain ⟨y1, y2, y3⟩ := gd.mp z
                    have : good r rest[i] = true := good_iff.mpr ⟨wfs_iff.mp y1 _ hm, ddps_iff.mp y2 _ hm, by
                      have := dszs_take rest (i + 1)
                      omega⟩
                    rw [g] at this
                    cases this
                | true =>
                  rw [pw_of g] at ih
                  obtain ⟨g1, g2, g3⟩ := good_iff.mp g
                  have dp := dsz_pos rest[i]
                  have dn : ¬ (dsz rest[i] : Int) = 0 := by omega
                  have dn' : ¬ dsz rest[i] = 0 := by omega
                  by_cases q : 1000 < 1 + dszs (rest.take i) + dsz rest[i]
                  · have q' : (1000 : Int) < 1 + (dszs (rest.take i) : Int) + (dsz rest[i] : Int) := by omega
                    refine .inr ⟨.d (.int 0), ⟨[.d (.tup (a :: rest)), .d (.int ((r : Int) + 1)), .d (.int (1 + (dszs (rest.take i) : Int) + dsz rest[i])), .d rest[i], .d (.int (dsz rest[i]))], h⟩, ?_, rfl, rfl, fun z => ?_⟩
                    · simp [pBody, ec, ih, dn', q']
                    · obtain ⟨y1, y2, y3⟩ := gd.mp z
                      have := dszs_take rest (i + 1)
                      omega
                  · have q' : ¬ (1000 : Int) < 1 + (dszs (rest.take i) : Int) + (dsz rest[i] : Int) := by omega
                    refine .inl ⟨⟨[.d (.tup (a :: rest)), .d (.int ((r : Int) + 1)), .d (.int (1 + (dszs (rest.take i) : Int) + dsz rest[i])), .d rest[i], .d (.int (dsz rest[i]))], h⟩, .inl ?_, ⟨.d rest[i], .d (.int (dsz rest[i])), ?_⟩, ?_, ?_, ?_⟩
                    · simp [pBody, ec, ih, dn', q']
                    · have : ((1 + dszs (rest.take (i + 1)) : Nat) : Int) = 1 + (dszs (rest.take i) : Int) + dsz rest[i] := by omega
                      rw [this]
                    · rw [et, wfs_app]
                      simp [i1, wfs, g1]
                    · rw [et, ddps_app]
                      simp [ddps]
                      omega
                    · omega) with ⟨s', e, ⟨s3, s4, rfl⟩, i1, i2, i3⟩ | ⟨v, s', e, rfl, rfl, hg⟩
            · rw [List.take_length] at i1 i2 i3
              have e1 : pw (r + 1) (.tup (a :: rest)) = 1 + dszs rest := by
                rw [pw_of (gd.mpr ⟨i1, i2, i3⟩), dsz]
              unfold pBody at e
              rw [List.take_length] at e
              simp [fParts, startS, isiE, isiW, hw, isW, e1, z0, z1, z2, hn, q2, e]
            · have e1 : pw (r + 1) (.tup (a :: rest)) = 0 := pw_zero.mpr (by
                cases z : good (r + 1) (.tup (a :: rest)) with
                | false => rfl
                | true => exact (hg z).elim)
              unfold pBody at e
              simp [fParts, startS, isiE, isiW, hw, isW, e1, z0, z1, z2, hn, q2, e]
    | _ =>
      have e1 : ∀ x, (match x with | .non => True | .bl _ => True | .str _ => True | _ => False) → pw (r + 1) x = 0 := fun x hx => by cases x <;> first | rfl | exact hx.elim
      simp [fParts, startS, isiE, isiW, hw, isW, z0, e1]
theorem sp_isterm (TF : TFns T) (n : Nat) (h : List O) (hh : LD h) (d : D) (hd : fin h.length d) : callN T (n + 63) "is_term" [d] h = .ok (.d (.bl (good 60 d))) h := by
  have e := sp_parts TF 60 n h hh d hd
  have e2 : callN T (n + 62) "parts_within" [d, .int 60] h = .ok (.d (.int (pw 60 d))) h := e
  rw [callN_run T (n + 62) h (fd := fTerm) TF.term rfl rfl, runB_end]
  cases g : good 60 d with
  | true =>
    rw [pw_of g] at e2
    have := dsz_pos d
    have q : (0 : Int) < dsz d := by omega
    simp [fTerm, startS, e2, q]
    omega
  | false =>
    rw [pw_zero.mpr g] at e2
    simp [fTerm, startS, e2]
end
end EW.TT

-- part: TmT
set_option maxHeartbeats 1000000
/-! terms as data: good, pure, equal -/
namespace EW.TT
open PySem EW
theorem isN_nm {f : Str} (h : Nm f) : isN (.str f) = true := by
  unfold isN
  simp only [Bool.and_eq_true, decide_eq_true_eq, List.all_eq_true]
  exact ⟨⟨h.1, h.2.1⟩, fun c hc => by
    unfold lB
    exact decide_eq_true (h.2.2 c hc)⟩
mutual
theorem tm_wf : ∀ t : Tm, t.ok → wf t.d = true
  | .bl i, h => by
    rw [d_bl, wf]
    simp [h.1, h.2]
  | .mk f ts, h => by
    rw [Tm.d, wf]
    have hl : (Tm.ds ts).length = ts.length := by simp [Tm.ds_map]
    simp [isN_nm h.1, tms_wf ts h.2.2, hl, h.2.1]
theorem tms_wf : ∀ ts : List Tm, Tm.oks ts → wfs (Tm.ds ts) = true
  | [], _ => rfl
  | t :: ts, h => by
    rw [Tm.ds, wfs, tm_wf t h.1, tms_wf ts h.2]
    rfl
end
mutual
theorem tm_dsz : ∀ t : Tm, dsz t.d = t.size
  | .bl i => by
    rw [d_bl, Tm.size]
    simp [dsz]
  | .mk f ts => by rw [Tm.d, dsz, Tm.size, tms_dsz ts]
theorem tms_dsz : ∀ ts : List Tm, dszs (Tm.ds ts) = Tm.sizes ts
  | [] => rfl
  | t :: ts => by rw [Tm.ds, dszs, Tm.sizes, tm_dsz t, tms_dsz ts]
end
mutual
theorem tm_ddp : ∀ t : Tm, ddp t.d = t.dep
  | .bl i => by
    rw [d_bl, Tm.dep]
    simp [ddp]
  | .mk f ts => by rw [Tm.d, ddp, Tm.dep, tms_ddp ts]
theorem tms_ddp : ∀ ts : List Tm, ddps (Tm.ds ts) = Tm.deps ts
  | [] => rfl
  | t :: ts => by rw [Tm.ds, ddps, Tm.deps, tm_ddp t, tms_ddp ts]
end
theorem tm_good {t : Tm} (h : t.ok) (hd : t.dep ≤ 60) (hs : t.size ≤ 1000) : good 60 t.d = true := good_iff.mpr ⟨tm_wf t h, by rw [tm_ddp]; exact hd, by rw [tm_dsz]; exact hs⟩
mutual
theorem fin_tm (m : Nat) : ∀ t : Tm, t.ok → fin m t.d
  | .bl i, _ => by rw [d_bl]; trivial
  | .mk f ts, h => by
    rw [Tm.d]
    refine ⟨?_, fins_tm m ts h.2.2⟩
    have := h.1.2.1
    show f.length ≤ 1000000
    omega
theorem fins_tm (m : Nat) : ∀ ts : List Tm, Tm.oks ts → fins m (Tm.ds ts)
  | [], _ => trivial
  | t :: ts, h => ⟨fin_tm m t h.1, fins_tm m ts h.2⟩
end
mutual
theorem tm_pure : ∀ t : Tm, t.ok → t.d.pure = true
  | .bl i, _ => by rw [d_bl]; rfl
  | .mk f ts, h => by
    rw [Tm.d]
    show D.pures (.str f :: Tm.ds ts) = true
    simp [D.pures, D.pure, h.1.ok, tms_pure ts h.2.2]
theorem tms_pure : ∀ ts : List Tm, Tm.oks ts → D.pures (Tm.ds ts) = true
  | [], _ => rfl
  | t :: ts, h => by
    simp [Tm.ds, D.pures, tm_pure t h.1, tms_pure ts h.2]
end
mutual
theorem tm_depth : ∀ t : Tm, t.d.toP.depth ≤ t.dep
  | .bl i => by rw [d_bl]; simp [D.toP, PyData.depth]
  | .mk f ts => by
    have := tms_depth ts
    simp [Tm.d, D.toP, D.toPs, PyData.depth, PyData.depthAll, Tm.dep]
    omega
theorem tms_depth : ∀ ts : List Tm, PyData.depthAll (D.toPs (Tm.ds ts)) ≤ Tm.deps ts
  | [] => Nat.le_refl _
  | t :: ts => by
    have h1 := tm_depth t
    have h2 := tms_depth ts
    simp only [Tm.ds, D.toPs, PyData.depthAll, Tm.deps]
    omega
end
mutual
theorem tm_eqv : ∀ a b : Tm, PyData.eqv a.d.toP b.d.toP = true ↔ a = b
  | .bl i, .bl j => by simp [Tm.d, D.toP, PyData.eqv]
  | .bl i, .mk g us => by simp [Tm.d, D.toP, D.toPs, PyData.eqv]
  | .mk f ts, .bl j => by simp [Tm.d, D.toP, D.toPs, PyData.eqv]
  | .mk f ts, .mk g us => by simp [Tm.d, D.toP, D.toPs, PyData.eqv, PyData.eqvAll, tms_eqv ts us]
theorem tms_eqv : ∀ as bs : List Tm, PyData.eqvAll (D.toPs (Tm.ds as)) (D.toPs (Tm.ds bs)) = true ↔ as = bs
  | [], [] => by simp [Tm.ds, D.toPs, PyData.eqvAll]
  | [], _ :: _ => by simp [Tm.ds, D.toPs, PyData.eqvAll]
  | _ :: _, [] => by simp [Tm.ds, D.toPs, PyData.eqvAll]
  | a :: as, b :: bs => by simp [Tm.ds, D.toPs, PyData.eqvAll, tm_eqv a b, tms_eqv as bs]
end
/-- terms are equal as data where they are the same -/
theorem tm_eqW {a b : Tm} (ha : a.ok) (hb : b.ok) (hd : a.dep ≤ 140) : eqW (.d a.d) (.d b.d) = some (PyData.eqv a.d.toP b.d.toP) := by
  have c : ((Wv.d a.d).pure && (Wv.d b.d).pure && decide (min (Wv.d a.d).toP.depth (Wv.d b.d).toP.depth ≤ deepest)) = true := by
    simp only [Wv.pure, Wv.toP, tm_pure a ha, tm_pure b hb, Bool.and_true, Bool.true_and, decide_eq_true_eq]
    refine decide_eq_true ?_
    exact Nat.le_trans (Nat.min_le_left _ _) (Nat.le_trans (tm_depth a) (Nat.le_trans hd (show 140 ≤ deepest by decide)))
  cases a with
  | bl i =>
    cases b with
    | bl j =>
      rw [d_bl, d_bl]
      rfl
    | mk g us =>
      unfold eqW
      rw [d_bl, d_mk] at c ⊢
      simp only
      rw [if_pos c]
      rfl
  | mk f ts =>
    unfold eqW
    rw [d_mk] at c ⊢
    simp only
    rw [if_pos c]
    rfl
theorem rd_tm (st : St) (t : Tm) : rd st (.d t.d) = some (.d t.d) := by
  cases t with
  | bl i => rw [d_bl]; rfl
  | mk f ts => rw [d_mk]; rfl
end EW.TT

-- part: TxtT
set_option maxHeartbeats 1000000
/-! the texts of terms -/
namespace EW.TT
open PySem EW
/-- a number's figures -/
def dg (i : Int) : List Nat := (Str.ofString (toString i)).cps.toList
def dgOk (l : List Nat) (i : Int) : Bool := decide (1 ≤ l.length) && decide (l.length ≤ 3) && l.all (fun c => decide (48 ≤ c) && decide (c ≤ 57)) && (!(l.head? == some 48) || l.length == 1) && (PySem.intText? ⟨l.toArray⟩ == some i)
theorem dg_all : ∀ i : Fin 1000, dgOk (dg (i.val : Int)) (i.val : Int) = true := by decide +kernel
def fShown : Fd := ⟨1, 2, 
  [.ife (.call "is_whole" [(.v 0)])
     [.ret (.bin .Add (.k (.str "?")) (.bi .str [(.v 0)]))]
     [],
  .ife (.cmp .Eq (.bi .len [(.v 0)]) (.k (.int 1)))
     [.ret (.idx (.v 0) (.k (.int 0)))]
     [],
  .ret (.bin .Add (.bin .Add (.bin .Add (.idx (.v 0) (.k (.int 0))) (.k (.str "("))) (.sm "join" (.k (.str ",")) [(.lc (.call "shown" [(.v 1)]) (.v 1) (.sl (.v 0) (.k (.int 1)) .no) .no)])) (.k (.str ")")))], []⟩
def fRunOf : Fd := ⟨3, 3, 
  [.whl (.and (.cmp .Lt (.v 1) (.bi .len [(.v 0)])) (.cmp .In (.idx (.v 0) (.v 1)) (.v 2)))
     [.aug 1 .Add (.k (.int 1))],
  .ret (.v 1)], []⟩
def fReadBlank : Fd := ⟨2, 4, 
  [.asg (.v 2) (.call "run_of" [(.v 0), (.v 1), (.g "FIGURES" (.str "0123456789"))]),
  .asg (.v 3) (.sl (.v 0) (.v 1) (.v 2)),
  .ife (.or (.cmp .Eq (.v 3) (.k (.str ""))) (.or (.cmp .Gt (.bi .len [(.v 3)]) (.g "MOST_FIGURES" (.int 3))) (.and (.cmp .Eq (.idx (.v 3) (.k (.int 0))) (.k (.str "0"))) (.cmp .Gt (.bi .len [(.v 3)]) (.k (.int 1))))))
     [.rse "NoText"]
     [],
  .ret (.tup [(.bi .int [(.v 3)]), (.v 2)])], []⟩
def fReadTerm : Fd := ⟨3, 7, 
  [.ife (.cmp .Eq (.v 2) (.k (.int 0)))
     [.rse "NoText"]
     [],
  .ife (.cmp .Eq (.sl (.v 0) (.v 1) (.bin .Add (.v 1) (.k (.int 1)))) (.k (.str "?")))
     [.ret (.call "read_blank" [(.v 0), (.bin .Add (.v 1) (.k (.int 1)))])]
     [],
  .asg (.v 3) (.call "run_of" [(.v 0), (.v 1), (.g "LETTERS" (.str "abcdefghijklmnopqrstuvwxyz"))]),
  .asg (.v 4) (.sl (.v 0) (.v 1) (.v 3)),
  .ife (.or (.cmp .Eq (.v 4) (.k (.str ""))) (.cmp .Gt (.bi .len [(.v 4)]) (.g "LONGEST_NAME" (.int 8))))
     [.rse "NoText"]
     [],
  .ife (.cmp .NotEq (.sl (.v 0) (.v 3) (.bin .Add (.v 3) (.k (.int 1)))) (.k (.str "(")))
     [.ret (.tup [(.tup [(.v 4)]), (.v 3)])]
     [],
  .asg (.v 5) (.lst []),
  .whl (.or (.cmp .Eq (.sl (.v 0) (.v 3) (.bin .Add (.v 3) (.k (.int 1)))) (.k (.str ","))) (.cmp .Eq (.v 5) (.lst [])))
     [.asg (.tup [(.v 6), (.v 3)]) (.call "read_term" [(.v 0), (.bin .Add (.v 3) (.k (.int 1))), (.bin .Sub (.v 2) (.k (.int 1)))]),
    .ex (.meth "append" (.v 5) [(.v 6)])],
  .ife (.or (.cmp .NotEq (.sl (.v 0) (.v 3) (.bin .Add (.v 3) (.k (.int 1)))) (.k (.str ")"))) (.cmp .Gt (.bi .len [(.v 5)]) (.g "MOST_PLACES" (.int 9))))
     [.rse "NoText"]
     [],
  .ret (.tup [(.bi .tuple [(.bin .Add (.lst [(.v 4)]) (.v 5))]), (.bin .Add (.v 3) (.k (.int 1)))])], []⟩
def fRead : Fd := ⟨1, 3, 
  [.ife (.not (.isi (.v 0) ["str"]))
     [.rse "NoText"]
     [],
  .asg (.tup [(.v 1), (.v 2)]) (.call "read_term" [(.v 0), (.k (.int 0)), (.g "MOST_LEVELS" (.int 60))]),
  .ife (.or (.cmp .Lt (.v 2) (.bi .len [(.v 0)])) (.not (.call "is_term" [(.v 1)])))
     [.rse "NoText"]
     [],
  .ret (.v 1)], []⟩
structure TxFns (T : Tab) : Prop extends TFns T where
  shown : T.fn "shown" = some fShown
  runOf : T.fn "run_of" = some fRunOf
  blank : T.fn "read_blank" = some fReadBlank
  rterm : T.fn "read_term" = some fReadTerm
  read : T.fn "read" = some fRead
/-! texts as lists of signs -/
def Sx (l : List Nat) : Str := ⟨l.toArray⟩
@[simp] theorem S_cps (l : List Nat) : (Sx l).cps.toList = l := by simp [Sx]
@[simp] theorem S_len (l : List Nat) : (Sx l).length = l.length := by simp [Sx, Str.length]
@[simp] theorem S_app (a b : List Nat) : Sx a ++ Sx b = Sx (a ++ b) := by
  show (⟨(Sx a).cps ++ (Sx b).cps⟩ : Str) = Sx (a ++ b)
  simp [Sx]
theorem S_of (x : Str) : x = Sx x.cps.toList := by simp [Sx]
theorem S_inj {a b : List Nat} : Sx a = Sx b ↔ a = b := by
  constructor
  · intro h
    have := congrArg (fun x : Str => x.cps.toList) h
    simpa using this
  · intro h
    rw [h]
@[simp] theorem S_beq (a b : List Nat) : (Sx a == Sx b) = decide (a = b) := by
  rw [Bool.eq_iff_iff]
  simp [S_inj]
theorem slW_S (l : List Nat) (lo hi : Option Int) : slW (.d (.str (Sx l))) lo hi = if l.length ≤ lim then some (.d (.str (Sx (cut l lo hi)))) else none := by
  rw [slW_str, S_len, S_cps]
  rfl
theorem idx_S (l : List Nat) (i : Int) : idxE (.d (.str (Sx l))) (.d (.int i)) = (if l.length ≤ lim then (L2.atI l i).map fun c => D.str (Sx [c]) else none).map EV.d := by
  rw [idx_str, S_len, S_cps]
  rfl
theorem in_S (c : Nat) (y : Str) : inW (.d (.str (Sx [c]))) (.d (.str y)) = some (decide (c ∈ y.cps.toList)) := in_one c y
theorem cut_ab (l : List Nat) (a b : Nat) (hab : a ≤ b) (hb : b ≤ l.length) : cut l (some (a : Int)) (some (b : Int)) = (l.drop a).take (b - a) := by
  unfold EW.cut
  rw [HT.sIx_nat, HT.sIx_nat, Nat.min_eq_left hb, Nat.min_eq_left (Nat.le_trans hab hb)]
theorem cut_mid (A M B : List Nat) : cut (A ++ M ++ B) (some (A.length : Int)) (some ((A.length + M.length : Nat) : Int)) = M := by
  rw [cut_ab _ _ _ (by omega) (by simp), List.append_assoc, List.drop_left, Nat.add_sub_cancel_left, List.take_left]
theorem cut_one (A R : List Nat) (c : Nat) : cut (A ++ c :: R) (some (A.length : Int)) (some ((A.length : Int) + 1)) = [c] := by
  rw [show (A.length : Int) + 1 = ((A.length + 1 : Nat) : Int) by omega, cut_ab _ _ _ (by omega) (by simp), List.drop_left]
  simp
theorem cut_end (A : List Nat) : cut A (some (A.length : Int)) (some ((A.length : Int) + 1)) = [] := by
  unfold EW.cut
  rw [show (A.length : Int) + 1 = ((A.length + 1 : Nat) : Int) by omega, HT.sIx_nat, HT.sIx_nat, Nat.min_self, List.drop_length]
  simp
/-! the text of a term -/
mutual
def tx : Tm → List Nat
  | .bl i => 63 :: dg i
  | .mk f [] => f.cps.toList
  | .mk f (t :: ts) => f.cps.toList ++ 40 :: (tx t ++ txs ts)
def txs : List Tm → List Nat
  | [] => [41]
  | t :: ts => 44 :: (tx t ++ txs ts)
end
theorem dg_ok {i : Int} (h0 : 0 ≤ i) (h1 : i ≤ 999) : dgOk (dg i) i = true := by
  have h := dg_all ⟨i.toNat, by omega⟩
  have e : ((i.toNat : Nat) : Int) = i := by omega
  simp only at h
  rw [e] at h
  exact h
structure Dg (l : List Nat) (i : Int) : Prop where
  l1 : 1 ≤ l.length
  l3 : l.length ≤ 3
  fig : ∀ c ∈ l, 48 ≤ c ∧ c ≤ 57
  zero : l.head? = some 48 → l.length = 1
  val : PySem.intText? (Sx l) = some i
theorem dg_is {i : Int} (h0 : 0 ≤ i) (h1 : i ≤ 999) : Dg (dg i) i := by
  have h := dg_ok h0 h1
  unfold dgOk at h
  simp only [Bool.and_eq_true, decide_eq_true_eq, List.all_eq_true, Bool.or_eq_true, Bool.not_eq_true', beq_eq_false_iff_ne, beq_iff_eq] at h
  obtain ⟨⟨⟨⟨a, b⟩, c⟩, d⟩, e⟩ := h
  exact ⟨a, b, c, fun z => by
    rcases d with d | d
    · exact (d z).elim
    · exact d, e⟩
mutual
theorem tx_len : ∀ t : Tm, t.ok → (tx t).length + 1 ≤ 12 * t.size
  | .bl i, h => by
    have := (dg_is h.1 h.2).l3
    rw [tx, Tm.size, List.length_cons]
    omega
  | .mk f [], h => by
    have h1 : f.cps.toList.length = f.length := by simp [Str.length]
    have := h.1.2.1
    rw [tx, Tm.size, Tm.sizes]
    omega
  | .mk f (t :: ts), h => by
    have h1 : f.cps.toList.length = f.length := by simp [Str.length]
    have h2 := h.1.2.1
    have h3 := tx_len t h.2.2.1
    have h4 := txs_len ts h.2.2.2
    rw [tx, Tm.size, Tm.sizes, List.length_append, List.length_cons, List.length_append]
    omega
theorem txs_len : ∀ ts : List Tm, Tm.oks ts → (txs ts).length ≤ 1 + 12 * Tm.sizes ts
  | [], _ => by simp [txs]
  | t :: ts, h => by
    have h3 := tx_len t h.1
    have h4 := txs_len ts h.2
    rw [txs, Tm.sizes, List.length_cons, List.length_append]
    omega
end
theorem txs_join (t : Tm) (ts : List Tm) : TL.joinL [44] ((t :: ts).map tx) ++ [41] = tx t ++ txs ts := by
  induction ts generalizing t with
  | nil => rfl
  | cons u us ih =>
    have e : TL.joinL [44] ((t :: u :: us).map tx) = tx t ++ ([44] ++ TL.joinL [44] ((u :: us).map tx)) := rfl
    rw [e, txs, List.append_assoc, List.append_assoc, ih u]
    rfl
theorem join_S (ls : List (List Nat)) : Txt.join (Sx [44]) (ls.map Sx) = Sx (TL.joinL [44] ls) := by
  rw [TL.join_eq]
  rw [S_of (Str.join (Sx [44]) (ls.map Sx))]
  congr 1
  have := TL.tl_join (Sx [44]) (ls.map Sx)
  have e2 : (ls.map Sx).map TL.tl = ls := by
    rw [List.map_map]
    conv => rhs; rw [← List.map_id ls]
    apply List.map_congr_left
    intro a _
    exact S_cps a
  rw [e2] at this
  have e3 : TL.tl (Sx [44]) = [44] := S_cps _
  rw [e3] at this
  exact this
end EW.TT

-- part: TxtU
set_option maxHeartbeats 1000000
/-! terms written, and read again -/
namespace EW.TT
open PySem EW
section
variable {T : Tab}
theorem c_q : Str.ofString "?" = Sx [63] := by decide +kernel
theorem c_l : Str.ofString "(" = Sx [40] := by decide +kernel
theorem c_r : Str.ofString ")" = Sx [41] := by decide +kernel
theorem c_c : Str.ofString "," = Sx [44] := by decide +kernel
theorem c_0 : Str.ofString "0" = Sx [48] := by decide +kernel
theorem c_e : Str.ofString "" = Sx [] := by decide +kernel
theorem atI_some {α : Type} {xs : List α} {i : Nat} {x : α} (h : xs[i]? = some x) : L2.atI xs (i : Int) = some x := by
  obtain ⟨hl, e⟩ := List.getElem?_eq_some_iff.mp h
  rw [atI_nat xs i hl, e]
theorem whole_tm (TF : TFns T) (n : Nat) (h : List O) (f : Str) (ts : List Tm) : callN T (n + 1) "is_whole" [(Tm.mk f ts).d] h = .ok (.d (.bl false)) h := by
  rw [callN_run T n h (fd := fWhole) TF.whole rfl rfl, runB_end, d_mk]
  simp [fWhole, startS, isiE, isiW]
theorem whole_bl (TF : TFns T) (n : Nat) (h : List O) (i : Int) : callN T (n + 1) "is_whole" [(Tm.bl i).d] h = .ok (.d (.bl true)) h := by
  rw [callN_run T n h (fd := fWhole) TF.whole rfl rfl, runB_end, d_bl]
  simp [fWhole, startS, isiE, isiW]
theorem dg_S (i : Int) : Str.ofString (toString i) = Sx (dg i) := S_of _
theorem dg_S' (i : Int) : Str.ofString i.repr = Sx (dg i) := S_of _
theorem sp_shown (TX : TxFns T) : ∀ (k : Nat) (t : Tm) (n : Nat) (h : List O), t.dep ≤ k → t.ok → t.size ≤ 10000 → callN T (n + k + 1) "shown" [t.d] h = .ok (.d (.str (Sx (tx t)))) h
  | 0, t, n, h, hk, _, _ => by
    have := dep_pos t
    omega
  | k + 1, .bl i, n, h, hk, hok, _ => by
    have hw := whole_bl TX.toTFns (n + k) h i
    have hd := dg_is hok.1 hok.2
    have hl : i.natAbs.log2 < 1000 := by
      have : sm i := sm_of hok.1 (by have := hok.2; omega)
      have := log_sm this
      have h2 : i.natAbs < 2 ^ 10 := by have := hok.1; have := hok.2; omega
      by_cases z : i.natAbs = 0
      · rw [z]; decide
      · have := (Nat.log2_lt z).mpr h2
        omega
    have l3 := hd.l3
    have l4 : 1 + (dg i).length ≤ 1000000 := by omega
    rw [show n + (k + 1) + 1 = (n + k + 1) + 1 by omega, callN_run T (n + k + 1) h (fd := fShown) TX.shown rfl rfl, runB_end]
    rw [d_bl] at hw ⊢
    simp [fShown, startS, hw, hl, dg_S', c_q, lim, l4, tx]
  | k + 1, .mk f [], n, h, hk, hok, _ => by
    have hw := whole_tm TX.toTFns (n + k) h f []
    rw [show n + (k + 1) + 1 = (n + k + 1) + 1 by omega, callN_run T (n + k + 1) h (fd := fShown) TX.shown rfl rfl, runB_end]
    rw [d_mk] at hw ⊢
    have e := S_of f
    simp only [List.map_nil] at hw ⊢
    simp [fShown, startS, hw, tx]
    exact e
  | k + 1, .mk f (t :: ts), n, h, hk, hok, hs => by
    rw [dep_mk] at hk
    have hw := whole_tm TX.toTFns (n + k) h f (t :: ts)
    have lc := fun s1 : Sl => ev_map (G := gam T (n + k + 1)) (elt := .call "shown" [(.v 1)]) (src := .sl (.v 0) (.k (.int 1)) .no) (tg := .v 1) (st := ⟨[.d (Tm.mk f (t :: ts)).d, s1], h⟩) (st1 := ⟨[.d (Tm.mk f (t :: ts)).d, s1], h⟩) (v := .d (.tup ((t :: ts).map Tm.d))) (t :: ts) Tm.d (fun u => .str (Sx (tx u)))
      (by simp [d_mk]) (by simp [items_d]) (by have := hok.2.1; simp only [lim]; omega) rfl (fun u hu => ⟨_, rfl, by
        have h1 := dep_le hu
        have h2 := size_le hu
        rw [size_mk] at hs
        have ih := sp_shown TX k u n h (by omega) (oks_mem hok.2.2 hu) (by omega)
        simp [wst, wipeS, Tg.vars, ih], by simp [wst, wipeS, Tg.vars]⟩)
    have hb := strsD_map (fun u : Tm => Sx (tx u)) (t :: ts)
    have hl := tx_len _ hok
    have ht : tx (.mk f (t :: ts)) = f.cps.toList ++ 40 :: (TL.joinL [44] ((t :: ts).map tx) ++ [41]) := by rw [tx, txs_join]
    have hj : Txt.join (Sx [44]) ((t :: ts).map fun u => Sx (tx u)) = Sx (TL.joinL [44] ((t :: ts).map tx)) := by
      rw [← join_S, List.map_map]
      rfl
    have sumle : ∀ us : List Tm, Tm.oks us → (us.map fun u => (Sx (tx u)).length).sum + us.length ≤ 12 * Tm.sizes us := by
      intro us
      induction us with
      | nil => intro _; simp
      | cons u us ih =>
        intro ho
        have h1 := tx_len u ho.1
        have h2 := ih ho.2
        simp only [List.map_cons, List.sum_cons, List.length_cons, Tm.sizes, S_len]
        simp only [S_len] at h2
        omega
    have hs2 := sumle (t :: ts) hok.2.2
    rw [size_mk] at hs hl
    have hlt : (tx (.mk f (t :: ts))).length = f.cps.toList.length + (1 + ((TL.joinL [44] ((t :: ts).map tx)).length + 1)) := by
      rw [ht]
      simp
      omega
    have q0 : (((t :: ts).map fun u => Sx (tx u)).map (·.length)).sum + ((t :: ts).map fun u => Sx (tx u)).length * (Sx [44]).length ≤ lim := by
      rw [List.map_map, List.length_map, S_len]
      simp only [Function.comp_def, List.length_singleton, Nat.mul_one]
      simp only [lim]
      omega
    have q1 : f.cps.toList.length + 1 ≤ 1000000 := by omega
    have q2 : f.cps.toList.length + 1 + (TL.joinL [44] ((t :: ts).map tx)).length ≤ 1000000 := by omega
    have q3 : f.cps.toList.length + 1 + (TL.joinL [44] ((t :: ts).map tx)).length + 1 ≤ 1000000 := by omega
    rw [show n + (k + 1) + 1 = (n + k + 1) + 1 by omega, callN_run T (n + k + 1) h (fd := fShown) TX.shown rfl rfl, runB_end, ht]
    rw [d_mk] at hw lc ⊢
    have ef := S_of f
    have jn : ∀ s1 : Sl, ev (gam T (n + k + 1)) (.sm "join" (.k (.str ",")) [(.lc (.call "shown" [(.v 1)]) (.v 1) (.sl (.v 0) (.k (.int 1)) .no) .no)]) ⟨[.d (.tup (.str f :: (t :: ts).map Tm.d)), s1], h⟩ = .ok (.d (.str (Sx (TL.joinL [44] ((t :: ts).map tx))))) ⟨[.d (.tup (.str f :: (t :: ts).map Tm.d)), s1], h⟩ := fun s1 => by
      rw [ev_sm]
      simp only [ev_k, Out.bind_ok, evs_cons, evs_nil, lc, sm_join, rd_o, Option.bind_some, hb, c_c, if_pos q0, Out.of_some, hj]
    generalize TL.joinL [44] ((t :: ts).map tx) = J at jn q2 q3 ⊢
    have z : ¬ (ts.length : Int) + 1 + 1 = 1 := by omega
    generalize hL : f.cps.toList = F at ef q1 q2 q3 ⊢
    rw [ef] at hw jn ⊢
    simp only [List.map_cons] at hw jn ⊢
    have q2' : F.length + (1 + J.length) ≤ 1000000 := by omega
    have q3' : F.length + (J.length + 1) ≤ 999999 := by omega
    simp [fShown, startS, hw, z, jn, -ev_sm, c_l, c_r, lim, q1, q2, q3, q2', q3']
theorem whl_run (TX : TxFns T) (n : Nat) (h : List O) (A M B : List Nat) (sg : Str) (hM : ∀ c ∈ M, c ∈ sg.cps.toList) (hB : ∀ b, B.head? = some b → b ∉ sg.cps.toList) (hl : (A ++ M ++ B).length ≤ 900000) :
    callN T (n + 1) "run_of" [.str (Sx (A ++ M ++ B)), .int A.length, .str sg] h = .ok (.d (.int ((A.length + M.length : Nat)))) h := by
  rw [callN_run T n h (fd := fRunOf) TX.runOf rfl rfl, runB_end]
  have main := whl_exit (G := gam T n) (c := .and (.cmp .Lt (.v 1) (.bi .len [(.v 0)])) (.cmp .In (.idx (.v 0) (.v 1)) (.v 2))) (b := [.aug 1 .Add (.k (.int 1))])
    (fun m s => ∃ i : Nat, s = ⟨[.d (.str (Sx (A ++ M ++ B))), .d (.int ((A.length + i : Nat))), .d (.str sg)], h⟩ ∧ i ≤ M.length ∧ m = M.length - i)
    (fun s => s = ⟨[.d (.str (Sx (A ++ M ++ B))), .d (.int ((A.length + M.length : Nat))), .d (.str sg)], h⟩) (fun _ _ => False) (fun m s ⟨i, e, hi, hm⟩ => by
      subst e
      have hlen : (A ++ M ++ B).length = A.length + M.length + B.length := by simp [Nat.add_assoc]
      have hl : (A ++ M ++ B).length ≤ 1000000 := by omega
      by_cases q : i < M.length
      · have at' : L2.atI (A ++ M ++ B) ((A.length + i : Nat) : Int) = some M[i] := by
          refine atI_some ?_
          rw [List.append_assoc, List.getElem?_append_right (by omega), Nat.add_sub_cancel_left, List.getElem?_append_left q, List.getElem?_eq_getElem q]
        have mem := hM _ (List.getElem_mem q)
        refine ⟨true, ⟨[.d (.str (Sx (A ++ M ++ B))), .d (.int ((A.length + i : Nat))), .d (.str sg)], h⟩, ?_, fun z => (nomatch z), fun _ => .inl ⟨⟨[.d (.str (Sx (A ++ M ++ B))), .d (.int ((A.length + (i + 1) : Nat))), .d (.str sg)], h⟩, M.length - (i + 1), .inl ?_, by omega, i + 1, rfl, by omega, rfl⟩⟩
        · have z1 : ((A.length + i : Nat) : Int) < ((A ++ M ++ B).length : Int) := by omega
          generalize A ++ M ++ B = L at at' hl z1 ⊢
          generalize ((A.length + i : Nat) : Int) = p at at' z1 ⊢
          simp [-idx_str, idx_S, in_S, lim, hl, at', z1, mem]
        · have : ((A.length + (i + 1) : Nat) : Int) = ((A.length + i : Nat) : Int) + 1 := by omega
          rw [this]
          generalize ((A.length + i : Nat) : Int) = p
          simp
      · have e : i = M.length := by omega
        subst e
        refine ⟨false, ⟨[.d (.str (Sx (A ++ M ++ B))), .d (.int ((A.length + M.length : Nat))), .d (.str sg)], h⟩, ?_, fun _ => rfl, fun z => (nomatch z)⟩
        cases hBc : B with
        | nil =>
          have z1 : ¬ ((A.length + M.length : Nat) : Int) < ((A ++ M ++ B).length : Int) := by
            rw [hlen, hBc]
            simp
          rw [hBc] at z1 hl
          generalize A ++ M ++ [] = L at hl z1 ⊢
          generalize ((A.length + M.length : Nat) : Int) = p at z1 ⊢
          simp [lim, hl, z1]
        | cons b B' =>
          have z1 : ((A.length + M.length : Nat) : Int) < ((A ++ M ++ B).length : Int) := by
            rw [hlen, hBc, List.length_cons]
            omega
          have at' : L2.atI (A ++ M ++ B) ((A.length + M.length : Nat) : Int) = some b := by
            refine atI_some ?_
            rw [List.getElem?_append_right (by simp), hBc]
            simp
          have mem := hB b (by rw [hBc]; rfl)
          rw [hBc] at z1 hl at'
          generalize A ++ M ++ b :: B' = L at at' hl z1 ⊢
          generalize ((A.length + M.length : Nat) : Int) = p at at' z1 ⊢
          simp [-idx_str, idx_S, in_S, lim, hl, at', z1, mem])
    (m := M.length) (st := ⟨[.d (.str (Sx (A ++ M ++ B))), .d (.int A.length), .d (.str sg)], h⟩) (by
      have : (A ++ M ++ B).length = A.length + M.length + B.length := by simp [Nat.add_assoc]
      simp only [gam_W]
      omega) ⟨0, rfl, Nat.zero_le _, rfl⟩
  rcases main with ⟨s', e, rfl⟩ | ⟨_, _, _, z⟩
  · simp only [fRunOf, startS]
    have es : List.map Sl.d [D.str (Sx (A ++ M ++ B)), .int A.length, .str sg] ++ List.replicate (3 - [D.str (Sx (A ++ M ++ B)), .int A.length, .str sg].length) Sl.un = [.d (.str (Sx (A ++ M ++ B))), .d (.int A.length), .d (.str sg)] := rfl
    rw [es, exs_cons, e]
    generalize A ++ M ++ B = L
    generalize ((A.length + M.length : Nat) : Int) = p
    simp
  · exact z.elim
end
end EW.TT

-- part: TxtV
set_option maxHeartbeats 2000000
/-! terms read -/
namespace EW.TT
open PySem EW
section
variable {T : Tab}
theorem fig_mem (c : Nat) : c ∈ (Str.ofString "0123456789").cps.toList ↔ 48 ≤ c ∧ c ≤ 57 := by
  have e : (Str.ofString "0123456789").cps.toList = List.range' 48 10 := by decide +kernel
  rw [e, List.mem_range'_1]
  omega
/-- what may stand behind a term -/
def stopB (B : List Nat) : Prop := ∀ b, B.head? = some b → b = 44 ∨ b = 41
theorem sp_blank (TX : TxFns T) (n : Nat) (h : List O) (A B : List Nat) (i : Int) (h0 : 0 ≤ i) (h1 : i ≤ 999) (hB : stopB B) (hl : (A ++ dg i ++ B).length ≤ 900000) :
    callN T (n + 2) "read_blank" [.str (Sx (A ++ dg i ++ B)), .int A.length] h = .ok (.d (.tup [.int i, .int ((A.length + (dg i).length : Nat))])) h := by
  have hd := dg_is h0 h1
  have run := whl_run TX n h A (dg i) B "0123456789" (fun c hc => (fig_mem c).mpr (hd.fig c hc)) (fun b hb => by
    rw [fig_mem]
    rcases hB b hb with rfl | rfl <;> omega) hl
  have cm := cut_mid A (dg i) B
  have hl2 : (A ++ dg i ++ B).length ≤ 1000000 := by omega
  obtain ⟨c0, r, hc⟩ : ∃ c0 r, dg i = c0 :: r := by
    cases q : dg i with
    | nil =>
      have := hd.l1
      rw [q] at this
      simp at this
    | cons c0 r => exact ⟨c0, r, rfl⟩
  have l3 := hd.l3
  have z1 : ¬ dg i = [] := by rw [hc]; simp
  have z2 : ¬ (3 : Int) < ((dg i).length : Int) := by omega
  have z3 : (dg i).length ≤ 1000000 := by omega
  have z5 : (dg i).length ≤ 640 := by omega
  have at' : L2.atI (dg i) 0 = some c0 := by rw [hc]; exact atI_0 _ _
  have z4 : c0 = 48 → ¬ (1 : Int) < ((dg i).length : Int) := fun e => by
    have := hd.zero (by rw [hc, e]; rfl)
    omega
  have v := hd.val
  rw [callN_run T (n + 1) h (fd := fReadBlank) TX.blank rfl rfl, runB_end]
  generalize A ++ dg i ++ B = L at run cm hl2 ⊢
  generalize dg i = M at run cm z1 z2 z3 z4 z5 at' v ⊢
  generalize ((A.length + M.length : Nat) : Int) = p at run cm ⊢
  by_cases e : c0 = 48
  · simp [fReadBlank, startS, run, -slW_str, slW_S, -idx_str, idx_S, lim, hl2, cm, c_e, c_0, z1, z2, z3, z4 e, z5, at', v, mkTup, e]
  · simp [fReadBlank, startS, run, -slW_str, slW_S, -idx_str, idx_S, lim, hl2, cm, c_e, c_0, z1, z2, z3, z5, at', v, mkTup, e]
theorem Nm.cons {f : Str} (h : Nm f) : ∃ c r, f.cps.toList = c :: r ∧ 97 ≤ c ∧ c ≤ 122 := by
  cases q : f.cps.toList with
  | nil =>
    have h1 := h.1
    have : f.length = f.cps.toList.length := by simp [Str.length]
    rw [this, q] at h1
    simp at h1
  | cons c r => exact ⟨c, r, rfl, h.2.2 c (by rw [q]; simp)⟩
/-- what stands at a loop's head -/
def hd (done us : List Tm) : List Nat := match us with
  | [] => [41]
  | u :: r => (if done.isEmpty then 40 else 44) :: (tx u ++ txs r)
def vBody : List EW.S := [.asg (.tup [(.v 6), (.v 3)]) (.call "read_term" [(.v 0), (.bin .Add (.v 3) (.k (.int 1))), (.bin .Sub (.v 2) (.k (.int 1)))]),
    .ex (.meth "append" (.v 5) [(.v 6)])]
theorem stop_txs (us : List Tm) (B : List Nat) : stopB (txs us ++ B) := fun b hb => by
  cases us with
  | nil =>
    simp [txs] at hb
    exact .inr hb.symm
  | cons u us =>
    simp [txs] at hb
    exact .inl hb.symm
theorem sp_rterm (TX : TxFns T) : ∀ (k : Nat) (t : Tm) (n room : Nat) (A B : List Nat) (h : List O), t.dep ≤ k → t.ok → t.dep ≤ room → stopB B → (A ++ tx t ++ B).length ≤ 900000 →
    callN T (n + k + 2) "read_term" [.str (Sx (A ++ tx t ++ B)), .int A.length, .int room] h = .ok (.d (.tup [t.d, .int ((A.length + (tx t).length : Nat))])) h
  | 0, t, n, room, A, B, h, hk, _, _, _, _ => by
    have := dep_pos t
    omega
  | k + 1, .bl i, n, room, A, B, h, hk, hok, hr, hB, hl => by
    have hr0 : ¬ room = 0 := by
      have := dep_pos (.bl i)
      omega
    have e1 : A ++ tx (.bl i) ++ B = A ++ 63 :: (dg i ++ B) := by simp [tx]
    have e2 : A ++ tx (.bl i) ++ B = (A ++ [63]) ++ dg i ++ B := by simp [tx]
    have c1 := cut_one A (dg i ++ B) 63
    have bl := sp_blank TX (n + k) h (A ++ [63]) B i hok.1 hok.2 hB (by rw [← e2]; exact hl)
    have e3 : (((A ++ [63]).length : Nat) : Int) = (A.length : Int) + 1 := by simp
    have e4 : (((A ++ [63]).length + (dg i).length : Nat) : Int) = ((A.length + (tx (.bl i)).length : Nat) : Int) := by
      rw [tx]
      simp
      omega
    rw [e3, e4, ← e2] at bl
    rw [← e1] at c1
    have hl2 : (A ++ tx (.bl i) ++ B).length ≤ 1000000 := by omega
    rw [show n + (k + 1) + 2 = (n + k + 2) + 1 by omega, callN_run T (n + k + 2) h (fd := fReadTerm) TX.rterm rfl rfl, runB_end, d_bl]
    generalize A ++ tx (.bl i) ++ B = L at c1 bl hl2 ⊢
    generalize ((A.length + (tx (.bl i)).length : Nat) : Int) = p at bl ⊢
    simp [fReadTerm, startS, hr0, -slW_str, slW_S, lim, hl2, c1, c_q, bl]
  | k + 1, .mk f ts, n, room, A, B, h, hk, hok, hr, hB, hl => by
    rw [dep_mk] at hk hr
    obtain ⟨c0, fr, hf, hc⟩ := Nm.cons hok.1
    have ef := S_of f
    have fl8 : f.cps.toList.length ≤ 8 := by
      have := hok.1.2.1
      simpa [Str.length] using this
    have fl1 : f.cps.toList ≠ [] := by rw [hf]; simp
    have fmem : ∀ c ∈ f.cps.toList, c ∈ letters.cps.toList := fun c hc => (mem_letters c).mpr (hok.1.2.2 c hc)
    have hr0 : ¬ room = 0 := by omega
    obtain ⟨W, hW, hWs⟩ : ∃ W, tx (.mk f ts) = f.cps.toList ++ W ∧ ((ts = [] ∧ W = []) ∨ ∃ u us, ts = u :: us ∧ W = 40 :: (tx u ++ txs us)) := by
      cases ts with
      | nil => exact ⟨[], by simp [tx], .inl ⟨rfl, rfl⟩⟩
      | cons u us => exact ⟨_, by rw [tx], .inr ⟨u, us, rfl, rfl⟩⟩
    have e1 : A ++ tx (.mk f ts) ++ B = A ++ c0 :: (fr ++ W ++ B) := by rw [hW, hf]; simp
    have e2 : A ++ tx (.mk f ts) ++ B = A ++ f.cps.toList ++ (W ++ B) := by rw [hW]; simp
    have c1 := cut_one A (fr ++ W ++ B) c0
    rw [← e1] at c1
    have run := whl_run TX (n + k + 1) h A f.cps.toList (W ++ B) letters fmem (fun b hb => by
      rw [mem_letters]
      rcases hWs with ⟨_, rfl⟩ | ⟨u, us, _, rfl⟩
      · rcases hB b (by simpa using hb) with rfl | rfl <;> omega
      · simp at hb
        omega) (by rw [← e2]; exact hl)
    have cm := cut_mid A f.cps.toList (W ++ B)
    rw [← e2] at run cm
    have hl2 : (A ++ tx (.mk f ts) ++ B).length ≤ 1000000 := by omega
    have z1 : ¬ c0 = 63 := by omega
    have z2 : ¬ (8 : Int) < (f.cps.toList.length : Int) := by omega
    have z3 : f.cps.toList.length ≤ 1000000 := by omega
    have eA : (((A ++ f.cps.toList).length : Nat) : Int) = ((A.length + f.cps.toList.length : Nat) : Int) := by simp
    rw [show n + (k + 1) + 2 = (n + k + 2) + 1 by omega, callN_run T (n + k + 2) h (fd := fReadTerm) TX.rterm rfl rfl, runB_end]
    rcases hWs with ⟨rfl, rfl⟩ | ⟨u, us, rfl, rfl⟩
    · have eend : A.length + (tx (.mk f [])).length = A.length + f.cps.toList.length := by rw [hW]; simp
      rw [eend, d_mk]
      have c2 : ∃ M, cut (A ++ tx (.mk f []) ++ B) (some ((A.length + f.cps.toList.length : Nat) : Int)) (some (((A.length + f.cps.toList.length : Nat) : Int) + 1)) = M ∧ M ≠ [40] ∧ M.length ≤ 1 := by
        refine ⟨_, rfl, ?_⟩
        rw [e2]
        cases B with
        | nil =>
          have := cut_end (A ++ f.cps.toList)
          rw [eA] at this
          simp only [List.append_nil]
          rw [this]
          simp
        | cons b B' =>
          have := cut_one (A ++ f.cps.toList) B' b
          rw [eA] at this
          simp only [List.nil_append]
          rw [this]
          rcases hB b rfl with rfl | rfl <;> simp
      obtain ⟨M, c2, c3, _⟩ := c2
      generalize A ++ tx (.mk f []) ++ B = L at c1 run cm hl2 c2 ⊢
      generalize ((A.length + f.cps.toList.length : Nat) : Int) = p at run cm c2 ⊢
      generalize f.cps.toList = F at ef cm z2 z3 fl1 ⊢
      rw [ef]
      simp [fReadTerm, startS, hr0, -slW_str, slW_S, lim, hl2, c1, c_q, c_l, c_e, run, z1, cm, fl1, z2, z3, c2, c3, mkTup]
    · have c2 := cut_one (A ++ f.cps.toList) (tx u ++ txs us ++ B) 40
      have e3 : A ++ tx (.mk f (u :: us)) ++ B = A ++ f.cps.toList ++ 40 :: (tx u ++ txs us ++ B) := by rw [hW]; simp
      rw [eA, ← e3] at c2
      have hlen : (A ++ tx (.mk f (u :: us)) ++ B).length = A.length + (tx (.mk f (u :: us))).length + B.length := by simp [Nat.add_assoc]
      have main := whl_exit (G := gam T (n + k + 2)) (c := .or (.cmp .Eq (.sl (.v 0) (.v 3) (.bin .Add (.v 3) (.k (.int 1)))) (.k (.str ","))) (.cmp .Eq (.v 5) (.lst []))) (b := vBody)
        (fun m s => ∃ (done rest : List Tm) (Pre : List Nat) (s6 : Sl), s = ⟨[.d (.str (Sx (A ++ tx (.mk f (u :: us)) ++ B))), .d (.int A.length), .d (.int room), .d (.int Pre.length), .d (.str f), .o (.lst (done.map Tm.d)), s6], h⟩ ∧ m = rest.length ∧
          A ++ tx (.mk f (u :: us)) ++ B = Pre ++ hd done rest ++ B ∧ done ++ rest = u :: us ∧ (done = [] → rest ≠ []))
        (fun s => ∃ (Pre : List Nat) (s6 : Sl), s = ⟨[.d (.str (Sx (A ++ tx (.mk f (u :: us)) ++ B))), .d (.int A.length), .d (.int room), .d (.int Pre.length), .d (.str f), .o (.lst ((u :: us).map Tm.d)), s6], h⟩ ∧ A ++ tx (.mk f (u :: us)) ++ B = Pre ++ 41 :: B)
        (fun _ _ => False) (fun m s ⟨done, rest, Pre, s6, e, hm, hL, hdr, hne⟩ => by
          subst e
          rw [hL] at hl2 ⊢
          cases rest with
          | nil =>
            have hdn : done ≠ [] := fun z => hne z rfl
            rw [List.append_nil] at hdr
            subst hdr
            have c4 := cut_one Pre B 41
            refine ⟨false, ⟨[.d (.str (Sx (Pre ++ hd (u :: us) [] ++ B))), .d (.int A.length), .d (.int room), .d (.int Pre.length), .d (.str f), .o (.lst ((u :: us).map Tm.d)), s6], h⟩, ?_, fun _ => ⟨Pre, s6, rfl, by simp [hd]⟩, fun z => (nomatch z)⟩
            have e5 : Pre ++ hd (u :: us) [] ++ B = Pre ++ 41 :: B := by simp [hd]
            rw [e5] at hl2 ⊢
            generalize Pre ++ 41 :: B = L at hl2 c4 ⊢
            simp [-slW_str, slW_S, lim, hl2, c4, c_c, mkLst]
          | cons v rest =>
            have hv : v ∈ u :: us := by rw [← hdr]; simp
            have hvd := dep_le hv
            have hvo := oks_mem hok.2.2 hv
            have e5 : Pre ++ hd done (v :: rest) ++ B = Pre ++ (if done.isEmpty then 40 else 44) :: (tx v ++ txs rest ++ B) := by simp [hd]
            have c4 := cut_one Pre (tx v ++ txs rest ++ B) (if done.isEmpty then 40 else 44)
            rw [← e5] at c4
            have e6 : Pre ++ hd done (v :: rest) ++ B = (Pre ++ [if done.isEmpty then 40 else 44]) ++ tx v ++ (txs rest ++ B) := by simp [hd]
            have ih := sp_rterm TX k v n (room - 1) (Pre ++ [if done.isEmpty then 40 else 44]) (txs rest ++ B) h (by omega) hvo (by omega) (stop_txs rest B) (by rw [← e6, ← hL]; exact hl)
            rw [← e6] at ih
            have e7 : (((Pre ++ [if done.isEmpty then 40 else 44]).length : Nat) : Int) = (Pre.length : Int) + 1 := by simp
            have e8 : ((room - 1 : Nat) : Int) = (room : Int) - 1 := by omega
            rw [e7, e8] at ih
            have hdl : done.length < 1000000 := by
              have h9 := hok.2.1
              have := congrArg List.length hdr
              rw [List.length_append] at this
              omega
            refine ⟨true, ⟨[.d (.str (Sx (Pre ++ hd done (v :: rest) ++ B))), .d (.int A.length), .d (.int room), .d (.int Pre.length), .d (.str f), .o (.lst (done.map Tm.d)), s6], h⟩, ?_, fun z => (nomatch z), fun _ => .inl ⟨⟨[.d (.str (Sx (Pre ++ hd done (v :: rest) ++ B))), .d (.int A.length), .d (.int room), .d (.int ((Pre ++ [if done.isEmpty then 40 else 44] ++ tx v).length : Nat)), .d (.str f), .o (.lst ((done ++ [v]).map Tm.d)), .d v.d], h⟩, rest.length, .inl ?_, by rw [hm]; simp, done ++ [v], rest, Pre ++ [if done.isEmpty then 40 else 44] ++ tx v, .d v.d, rfl, rfl, ?_, by rw [← hdr]; simp, fun z => by simp at z⟩⟩
            · cases done with
              | nil =>
                generalize Pre ++ hd [] (v :: rest) ++ B = L at hl2 c4 ⊢
                simp at c4
                simp [-slW_str, slW_S, lim, hl2, c4, c_c, mkLst]
              | cons d0 done =>
                generalize Pre ++ hd (d0 :: done) (v :: rest) ++ B = L at hl2 c4 ⊢
                simp at c4
                simp [-slW_str, slW_S, lim, hl2, c4, c_c, mkLst]
            · have e9 : (((Pre ++ [if done.isEmpty then 40 else 44] ++ tx v).length : Nat) : Int) = (((Pre ++ [if done.isEmpty then 40 else 44]).length + (tx v).length : Nat) : Int) := by rw [List.length_append]
              rw [e9]
              generalize Pre ++ hd done (v :: rest) ++ B = L at ih ⊢
              generalize (((Pre ++ [if done.isEmpty then 40 else 44]).length + (tx v).length : Nat) : Int) = p at ih ⊢
              simp [vBody, ih, lim, hdl]
            · rw [e6]
              cases rest with
              | nil => simp [hd, txs]
              | cons w rest =>
                have : (done ++ [v]).isEmpty = false := by simp
                simp [hd, txs, this])
        (m := (u :: us).length) (st := ⟨[.d (.str (Sx (A ++ tx (.mk f (u :: us)) ++ B))), .d (.int A.length), .d (.int room), .d (.int ((A ++ f.cps.toList).length : Nat)), .d (.str f), .o (.lst []), .un], h⟩) (by
          have := hok.2.1
          simp only [gam_W]
          omega) ⟨[], u :: us, A ++ f.cps.toList, .un, rfl, rfl, by rw [hW]; simp [hd], rfl, fun _ z => by simp at z⟩
      rcases main with ⟨s', e, Pre, s6, rfl, hL⟩ | ⟨_, _, _, z⟩
      · have c5 := cut_one Pre B 41
        rw [← hL] at c5
        have eend : (Pre.length : Int) + 1 = ((A.length + (tx (.mk f (u :: us))).length : Nat) : Int) := by
          have := congrArg List.length hL
          rw [hlen, List.length_append, List.length_cons] at this
          omega
        rw [eA] at e
        have h9 : ¬ (9 : Int) < (us.length : Int) + 1 := by
          have := hok.2.1
          simp at this
          omega
        have hll : 1 + (us.length + 1) ≤ 1000000 := by
          have := hok.2.1
          simp at this
          omega
        unfold vBody at e
        rw [← eend, d_mk]
        generalize A ++ tx (.mk f (u :: us)) ++ B = L at c1 run cm hl2 c2 c5 e ⊢
        generalize ((A.length + f.cps.toList.length : Nat) : Int) = p at run cm c2 e ⊢
        generalize f.cps.toList = F at ef cm z2 z3 fl1
        rw [ef] at e ⊢
        simp [fReadTerm, startS, hr0, -slW_str, slW_S, lim, hl2, c1, c_q, c_l, c_e, c_r, run, z1, cm, fl1, z2, z3, c2, mkTup, mkLst, e, c5, h9, hll]
      · exact z.elim
theorem sp_read (TX : TxFns T) (n : Nat) (t : Tm) (h : List O) (hh : LD h) (hok : t.ok) (hd : t.dep ≤ 60) (hs : t.size ≤ 1000) (hg : good 60 t.d = true) (hfin : fin h.length t.d) : callN T (n + 64) "read" [.str (Sx (tx t))] h = .ok (.d t.d) h := by
  have hl := tx_len t hok
  have e1 := sp_rterm TX 61 t n 60 [] [] h (by omega) hok hd (fun b hb => by simp at hb) (by simp; omega)
  have e2 : callN T (n + 63) "is_term" [t.d] h = _ := sp_isterm TX.toTFns n h hh t.d hfin
  simp only [List.nil_append, List.append_nil, List.length_nil, Nat.zero_add] at e1
  have e1' : callN T (n + 63) "read_term" [.str (Sx (tx t)), .int 0, .int 60] h = .ok (.d (.tup [t.d, .int (tx t).length])) h := e1
  rw [hg] at e2
  have hl2 : (tx t).length ≤ 1000000 := by omega
  rw [callN_run T (n + 63) h (fd := fRead) TX.read rfl rfl, runB_end]
  generalize tx t = M at e1' hl2 ⊢
  simp [fRead, startS, isiE, isiW, e1', lim, hl2, e2]
end
end EW.TT

-- part: PartT
set_option maxHeartbeats 2000000
/-! the parts of a term: head, levels, count_parts, parts_from, blanks, heads; over any table that has them -/
namespace EW.PT
open PySem EW EW.TT
def fHead : Fd := ⟨1, 1, 
  [.ife (.call "is_whole" [(.v 0)])
     [.ret (.k .non)]
     [],
  .ret (.tup [(.idx (.v 0) (.k (.int 0))), (.bin .Sub (.bi .len [(.v 0)]) (.k (.int 1)))])], []⟩
def fLevels : Fd := ⟨1, 2, 
  [.ife (.call "is_whole" [(.v 0)])
     [.ret (.k (.int 1))]
     [],
  .ret (.bin .Add (.k (.int 1)) (.bid (.lc (.call "levels" [(.v 1)]) (.v 1) (.sl (.v 0) (.k (.int 1)) .no) .no) (.k (.int 0))))], []⟩
def fCount : Fd := ⟨1, 2, 
  [.ife (.call "is_whole" [(.v 0)])
     [.ret (.k (.int 1))]
     [],
  .ret (.bin .Add (.k (.int 1)) (.bi .sum [(.lc (.call "count_parts" [(.v 1)]) (.v 1) (.sl (.v 0) (.k (.int 1)) .no) .no)]))], []⟩
def fromB : List EW.S := [.ex (.ext (.v 2) (.call "parts_from" [(.v 4), (.bin .Add (.v 1) (.tup [(.v 3)]))]))]
def fFrom : Fd := ⟨2, 5, 
  [.asg (.v 2) (.lst [(.tup [(.v 1), (.v 0)])]),
  .ife (.not (.call "is_whole" [(.v 0)]))
     [.for_ (.tup [(.v 3), (.v 4)]) (.it .enumerate [(.sl (.v 0) (.k (.int 1)) .no)]) fromB]
     [],
  .ret (.v 2)], []⟩
def fOf : Fd := ⟨1, 1, 
  [.ret (.call "parts_from" [(.v 0), (.tup [])])], []⟩
def blkB : List EW.S := [.ife (.call "is_whole" [(.v 3)])
       [.sub (.v 1) (.v 3) (.k (.bl true))]
       []]
def fBlanks : Fd := ⟨1, 4, 
  [.asg (.v 1) (.dct false [] []),
  .for_ (.tup [(.v 2), (.v 3)]) (.call "parts_of" [(.v 0)]) blkB,
  .ret (.bi .list [(.v 1)])], []⟩
def hdsB : List EW.S := [.ife (.not (.call "is_whole" [(.v 3)]))
       [.sub (.v 1) (.call "head" [(.v 3)]) (.k (.bl true))]
       []]
def fHeads : Fd := ⟨1, 4, 
  [.asg (.v 1) (.dct true [] []),
  .for_ (.tup [(.v 2), (.v 3)]) (.call "parts_of" [(.v 0)]) hdsB,
  .ret (.bi .sorted [(.v 1)])], []⟩
/-! plain -/
def isBl : Tm → Bool
  | .bl _ => true
  | _ => false
mutual
/-- the parts, each ahead of its own -/
def sub : Tm → List Tm
  | .bl i => [.bl i]
  | .mk f ts => .mk f ts :: subs ts
def subs : List Tm → List Tm
  | [] => []
  | t :: ts => sub t ++ subs ts
end
mutual
def prt : List D → Tm → List (List D × Tm)
  | p, .bl i => [(p, .bl i)]
  | p, .mk f ts => (p, .mk f ts) :: prts p 0 ts
def prts : List D → Nat → List Tm → List (List D × Tm)
  | _, _, [] => []
  | p, k, t :: ts => prt (p ++ [.int k]) t ++ prts p (k + 1) ts
end
mutual
theorem prt_sub : ∀ (t : Tm) (p : List D), (prt p t).map (·.2) = sub t
  | .bl i, p => by rw [prt, sub]; rfl
  | .mk f ts, p => by rw [prt, sub, List.map_cons, prts_sub ts p 0]
theorem prts_sub : ∀ (ts : List Tm) (p : List D) (k : Nat), (prts p k ts).map (·.2) = subs ts
  | [], p, k => by rw [prts, subs]; rfl
  | t :: ts, p, k => by rw [prts, subs, List.map_append, prt_sub t, prts_sub ts p (k + 1)]
end
mutual
theorem sub_len : ∀ t : Tm, (sub t).length = t.size
  | .bl i => by rw [sub, Tm.size]; rfl
  | .mk f ts => by rw [sub, Tm.size, List.length_cons, subs_len ts]; omega
theorem subs_len : ∀ ts : List Tm, (subs ts).length = Tm.sizes ts
  | [] => by rw [subs, Tm.sizes]; rfl
  | t :: ts => by rw [subs, Tm.sizes, List.length_append, sub_len t, subs_len ts]
end
theorem prt_len (t : Tm) (p : List D) : (prt p t).length = t.size := by rw [← sub_len, ← prt_sub t p, List.length_map]
theorem prts_len (ts : List Tm) (p : List D) (k : Nat) : (prts p k ts).length = Tm.sizes ts := by rw [← subs_len, ← prts_sub ts p k, List.length_map]
theorem prts_app (p : List D) : ∀ (as bs : List Tm) (k : Nat), prts p k (as ++ bs) = prts p k as ++ prts p (k + as.length) bs
  | [], bs, k => by rw [prts, List.nil_append, List.nil_append, List.length_nil, Nat.add_zero]
  | a :: as, bs, k => by
    rw [List.cons_append, prts, prts, prts_app p as bs (k + 1), List.length_cons, List.append_assoc, show k + 1 + as.length = k + (as.length + 1) by omega]
theorem sizes_app (as bs : List Tm) : Tm.sizes (as ++ bs) = Tm.sizes as + Tm.sizes bs := by
  induction as with
  | nil => simp [Tm.sizes]
  | cons a as ih => rw [List.cons_append, Tm.sizes, Tm.sizes, ih]; omega
mutual
theorem sub_ok : ∀ t : Tm, t.ok → ∀ u ∈ sub t, u.ok ∧ u.dep ≤ t.dep ∧ u.size ≤ t.size
  | .bl i, h, u, hu => by
    rw [sub, List.mem_singleton] at hu
    subst hu
    exact ⟨h, Nat.le_refl _, Nat.le_refl _⟩
  | .mk f ts, h, u, hu => by
    rw [sub, List.mem_cons] at hu
    rcases hu with rfl | hu
    · exact ⟨h, Nat.le_refl _, Nat.le_refl _⟩
    · obtain ⟨a, b, c⟩ := subs_ok ts h.2.2 u hu
      rw [dep_mk, size_mk]
      exact ⟨a, by omega, by omega⟩
theorem subs_ok : ∀ ts : List Tm, Tm.oks ts → ∀ u ∈ subs ts, u.ok ∧ u.dep ≤ Tm.deps ts ∧ u.size ≤ Tm.sizes ts
  | [], _, u, hu => by rw [subs] at hu; cases hu
  | t :: ts, h, u, hu => by
    rw [subs, List.mem_append] at hu
    rw [Tm.deps, Tm.sizes]
    rcases hu with hu | hu
    · obtain ⟨a, b, c⟩ := sub_ok t h.1 u hu
      exact ⟨a, by omega, by omega⟩
    · obtain ⟨a, b, c⟩ := subs_ok ts h.2 u hu
      exact ⟨a, by omega, by omega⟩
end
/-- a path and what stands there -/
def pD (x : List D × Tm) : D := .tup [.tup x.1, x.2.d]
theorem intsD_map {β : Type} (f : β → Int) : ∀ ys : List β, intsD (ys.map fun y => D.int (f y)) = some (ys.map f)
  | [] => rfl
  | y :: ys => by simp [intsD, intsD_map f ys]
theorem maxI_deps : ∀ (ts : List Tm) (a : Nat), maxI a (ts.map fun u => (u.dep : Int)) = ((max a (Tm.deps ts) : Nat) : Int)
  | [], a => by simp [maxI, Tm.deps]
  | t :: ts, a => by
    rw [List.map_cons, maxI, Tm.deps]
    by_cases q : (a : Int) < t.dep
    · rw [if_pos q, maxI_deps ts t.dep]
      congr 1
      omega
    · rw [if_neg q, maxI_deps ts a]
      congr 1
      omega
theorem maxd_tm (ts : List Tm) : maxdW 0 (.o (.lst (ts.map fun u => D.int u.dep))) = some (.d (.int (Tm.deps ts))) := by
  rw [maxdW_lst, intsD_map (fun u : Tm => (u.dep : Int))]
  cases ts with
  | nil => rfl
  | cons t ts =>
    simp only [List.map_cons, Option.map_some]
    rw [maxI_deps ts t.dep, Tm.deps]
/-- what is new comes behind -/
def inc {α : Type} [DecidableEq α] (acc : List α) (x : α) : List α := if x ∈ acc then acc else acc ++ [x]
def uqs {α : Type} [DecidableEq α] (acc xs : List α) : List α := xs.foldl inc acc
theorem inc_len {α : Type} [DecidableEq α] (acc : List α) (x : α) : (inc acc x).length ≤ acc.length + 1 := by
  unfold inc
  split <;> simp
theorem uqs_len {α : Type} [DecidableEq α] : ∀ (xs acc : List α), (uqs acc xs).length ≤ acc.length + xs.length
  | [], acc => by simp [uqs]
  | x :: xs, acc => by
    have h1 := uqs_len xs (inc acc x)
    have h2 := inc_len acc x
    show (uqs (inc acc x) xs).length ≤ _
    rw [List.length_cons]
    omega
theorem mem_inc {α : Type} [DecidableEq α] (acc : List α) (x y : α) : y ∈ inc acc x ↔ y ∈ acc ∨ y = x := by
  unfold inc
  by_cases q : x ∈ acc
  · rw [if_pos q]
    exact ⟨.inl, fun z => z.elim id fun z => z ▸ q⟩
  · rw [if_neg q]
    simp
theorem mem_uqs {α : Type} [DecidableEq α] : ∀ (xs acc : List α) (y : α), y ∈ uqs acc xs ↔ y ∈ acc ∨ y ∈ xs
  | [], acc, y => by simp [uqs]
  | x :: xs, acc, y => by
    show y ∈ uqs (inc acc x) xs ↔ _
    rw [mem_uqs xs (inc acc x) y, mem_inc, List.mem_cons, or_assoc]
theorem uqs_snoc {α : Type} [DecidableEq α] (xs acc : List α) (x : α) : uqs acc (xs ++ [x]) = inc (uqs acc xs) x := by simp [uqs]
def blOf : Tm → Option Int
  | .bl i => some i
  | _ => none
def hdOf : Tm → Option (Str × Nat)
  | .mk f ts => some (f, ts.length)
  | _ => none
/-- the blanks as they are met -/
def bls (t : Tm) : List Int := uqs [] ((sub t).filterMap blOf)
def hds (t : Tm) : List (Str × Nat) := uqs [] ((sub t).filterMap hdOf)
def hD (x : Str × Nat) : D := .tup [.str x.1, .int x.2]
theorem bls_len (t : Tm) : (bls t).length ≤ t.size := by
  have h1 := uqs_len ((sub t).filterMap blOf) []
  have h2 := List.length_filterMap_le blOf (sub t)
  rw [sub_len] at h2
  unfold bls
  simp only [List.length_nil] at h1
  omega
theorem hds_len (t : Tm) : (hds t).length ≤ t.size := by
  have h1 := uqs_len ((sub t).filterMap hdOf) []
  have h2 := List.length_filterMap_le hdOf (sub t)
  rw [sub_len] at h2
  unfold hds
  simp only [List.length_nil] at h1
  omega
theorem mem_bls {t : Tm} (h : t.ok) {i : Int} (hi : i ∈ bls t) : 0 ≤ i ∧ i ≤ 999 := by
  unfold bls at hi
  rw [mem_uqs] at hi
  rcases hi with hi | hi
  · cases hi
  · obtain ⟨u, hu, e⟩ := List.mem_filterMap.mp hi
    obtain ⟨w, _⟩ := sub_ok t h u hu
    cases u with
    | bl j =>
      have e' : j = i := Option.some.inj e
      subst e'
      exact w
    | mk f ts => cases e
theorem mem_hds {t : Tm} (h : t.ok) {x : Str × Nat} (hx : x ∈ hds t) : Nm x.1 ∧ x.2 ≤ 9 := by
  unfold hds at hx
  rw [mem_uqs] at hx
  rcases hx with hx | hx
  · cases hx
  · obtain ⟨u, hu, e⟩ := List.mem_filterMap.mp hx
    obtain ⟨w, _⟩ := sub_ok t h u hu
    cases u with
    | bl j => cases e
    | mk f ts =>
      have e' : (f, ts.length) = x := Option.some.inj e
      subst e'
      exact ⟨w.1, w.2.1⟩
/-! dicts as sets -/
theorem dput_set {α : Type} [DecidableEq α] (t : Bool) (K : α → D) (hK : ∀ x y, kkey t (K x) = kkey t (K y) ↔ x = y) (xs : List α) (y : α) : dput t (xs.map fun x => (K x, D.bl true)) (K y) (.bl true) = (inc xs y).map fun x => (K x, D.bl true) := by
  unfold dput
  have e1 : ((xs.map fun x => (K x, D.bl true)).any fun p => decide (kkey t p.1 = kkey t (K y))) = decide (y ∈ xs) := by
    rw [List.any_map, Bool.eq_iff_iff, List.any_eq_true, decide_eq_true_iff]
    constructor
    · rintro ⟨x, hx, e⟩
      have e := (hK _ _).mp (of_decide_eq_true e)
      exact e ▸ hx
    · intro hy
      exact ⟨y, hy, decide_eq_true rfl⟩
  rw [e1]
  unfold inc
  by_cases q : y ∈ xs
  · rw [if_pos (decide_eq_true q), if_pos q, List.map_map]
    refine List.map_congr_left fun x _ => ?_
    simp only [Function.comp]
    split <;> rfl
  · rw [if_neg (by simpa using q), if_neg q, List.map_append]
    rfl
theorem kI (i j : Int) : kkey false (.int i) = kkey false (.int j) ↔ i = j := by simp [kkey, fkey]
theorem kH (x y : Str × Nat) : kkey true (hD x) = kkey true (hD y) ↔ x = y := by
  obtain ⟨a, b⟩ := x
  obtain ⟨c, d⟩ := y
  simp [kkey, tkey, fkeys, fkey, hD]
  try omega
theorem kI_some (i : Int) : (kkey false (.int i)).isSome = true := rfl
theorem kH_some (x : Str × Nat) : (kkey true (hD x)).isSome = true := rfl
/-! the walk -/
section
variable {T : Tab}
theorem sp_wh (hw : T.fn "is_whole" = some fWhole) (n : Nat) (t : Tm) (h : List O) : callN T (n + 1) "is_whole" [t.d] h = .ok (.d (.bl (isBl t))) h := by
  rw [callN_run T n h (fd := fWhole) hw rfl rfl, runB_end]
  cases t with
  | bl i => rw [d_bl]; simp [fWhole, startS, isiE, isiW, isBl]
  | mk f ts => rw [d_mk]; simp [fWhole, startS, isiE, isiW, isBl]
theorem sp_head (hw : T.fn "is_whole" = some fWhole) (hf : T.fn "head" = some fHead) (n : Nat) (t : Tm) (h : List O) : callN T (n + 2) "head" [t.d] h = .ok (.d (match hdOf t with | some x => hD x | none => .non)) h := by
  have e1 := sp_wh hw n t h
  rw [callN_run T (n + 1) h (fd := fHead) hf rfl rfl, runB_end]
  cases t with
  | bl i =>
    rw [d_bl] at e1 ⊢
    simp [fHead, startS, e1, isBl, hdOf]
  | mk f ts =>
    rw [d_mk] at e1 ⊢
    simp [fHead, startS, e1, isBl, hdOf, hD, mkTup, lim]
theorem sp_levels (hw : T.fn "is_whole" = some fWhole) (hf : T.fn "levels" = some fLevels) : ∀ (k : Nat) (t : Tm) (n : Nat) (h : List O), t.dep ≤ k → t.ok → callN T (n + k + 1) "levels" [t.d] h = .ok (.d (.int t.dep)) h
  | 0, t, n, h, hk, _ => by
    have := dep_pos t
    omega
  | k + 1, .bl i, n, h, hk, _ => by
    have e1 := sp_wh hw (n + k) (.bl i) h
    rw [show n + (k + 1) + 1 = (n + k + 1) + 1 by omega, callN_run T (n + k + 1) h (fd := fLevels) hf rfl rfl, runB_end, Tm.dep]
    rw [d_bl] at e1 ⊢
    simp [fLevels, startS, e1, isBl]
  | k + 1, .mk f ts, n, h, hk, hok => by
    rw [dep_mk] at hk
    have e1 := sp_wh hw (n + k) (.mk f ts) h
    have lc := fun s1 : Sl => ev_map (G := gam T (n + k + 1)) (elt := .call "levels" [(.v 1)]) (src := .sl (.v 0) (.k (.int 1)) .no) (tg := .v 1) (st := ⟨[.d (Tm.mk f ts).d, s1], h⟩) (st1 := ⟨[.d (Tm.mk f ts).d, s1], h⟩) (v := .d (.tup (ts.map Tm.d))) ts Tm.d (fun u => .int u.dep)
      (by simp [d_mk]) (by simp [items_d]) (by have := hok.2.1; simp only [lim]; omega) rfl (fun u hu => ⟨_, rfl, by
        have h1 := dep_le hu
        have ih := sp_levels hw hf k u n h (by omega) (oks_mem hok.2.2 hu)
        simp [wst, wipeS, Tg.vars, ih], by simp [wst, wipeS, Tg.vars]⟩)
    have hb := maxd_tm ts
    rw [show n + (k + 1) + 1 = (n + k + 1) + 1 by omega, callN_run T (n + k + 1) h (fd := fLevels) hf rfl rfl, runB_end, dep_mk]
    rw [d_mk] at e1 lc ⊢
    generalize (ts.map fun u => D.int u.dep) = B at lc hb
    simp only [fLevels, startS]
    simp only [maxdW_lst] at hb
    simp [e1, isBl, lc, hb]
theorem sp_count (hw : T.fn "is_whole" = some fWhole) (hf : T.fn "count_parts" = some fCount) : ∀ (k : Nat) (t : Tm) (n : Nat) (h : List O), t.dep ≤ k → t.ok → callN T (n + k + 1) "count_parts" [t.d] h = .ok (.d (.int t.size)) h
  | 0, t, n, h, hk, _ => by
    have := dep_pos t
    omega
  | k + 1, .bl i, n, h, hk, _ => by
    have e1 := sp_wh hw (n + k) (.bl i) h
    rw [show n + (k + 1) + 1 = (n + k + 1) + 1 by omega, callN_run T (n + k + 1) h (fd := fCount) hf rfl rfl, runB_end, Tm.size]
    rw [d_bl] at e1 ⊢
    simp [fCount, startS, e1, isBl]
  | k + 1, .mk f ts, n, h, hk, hok => by
    rw [dep_mk] at hk
    have e1 := sp_wh hw (n + k) (.mk f ts) h
    have lc := fun s1 : Sl => ev_map (G := gam T (n + k + 1)) (elt := .call "count_parts" [(.v 1)]) (src := .sl (.v 0) (.k (.int 1)) .no) (tg := .v 1) (st := ⟨[.d (Tm.mk f ts).d, s1], h⟩) (st1 := ⟨[.d (Tm.mk f ts).d, s1], h⟩) (v := .d (.tup (ts.map Tm.d))) ts Tm.d (fun u => .int u.size)
      (by simp [d_mk]) (by simp [items_d]) (by have := hok.2.1; simp only [lim]; omega) rfl (fun u hu => ⟨_, rfl, by
        have h1 := dep_le hu
        have ih := sp_count hw hf k u n h (by omega) (oks_mem hok.2.2 hu)
        simp [wst, wipeS, Tg.vars, ih], by simp [wst, wipeS, Tg.vars]⟩)
    have hb := sumD_map (fun u : Tm => (u.size : Int)) ts 0
    have hs : ((ts.map fun u : Tm => (u.size : Int)).sum) = ((Tm.sizes ts : Nat) : Int) := by
      have : ∀ us : List Tm, ((us.map fun u : Tm => (u.size : Int)).sum) = ((Tm.sizes us : Nat) : Int) := fun us => by
        induction us with
        | nil => rfl
        | cons a r ih => rw [List.map_cons, List.sum_cons, ih, Tm.sizes]; omega
      exact this ts
    rw [hs] at hb
    rw [show n + (k + 1) + 1 = (n + k + 1) + 1 by omega, callN_run T (n + k + 1) h (fd := fCount) hf rfl rfl, runB_end, size_mk]
    rw [d_mk] at e1 lc ⊢
    generalize (ts.map fun u => D.int u.size) = B at lc hb
    simp [fCount, startS, e1, isBl, lc, hb]
theorem sp_from (hw : T.fn "is_whole" = some fWhole) (hf : T.fn "parts_from" = some fFrom) : ∀ (k : Nat) (t : Tm) (n : Nat) (p : List D) (h : List O), t.dep ≤ k → t.size ≤ 100000 → p.length + t.dep ≤ 100000 → callN T (n + k + 1) "parts_from" [t.d, .tup p] h = .ok (.o (.lst ((prt p t).map pD))) h
  | 0, t, n, p, h, hk, _, _ => by
    have := dep_pos t
    omega
  | k + 1, .bl i, n, p, h, hk, _, _ => by
    have e1 := sp_wh hw (n + k) (.bl i) h
    rw [show n + (k + 1) + 1 = (n + k + 1) + 1 by omega, callN_run T (n + k + 1) h (fd := fFrom) hf rfl rfl, runB_end, prt]
    rw [d_bl] at e1 ⊢
    simp [fFrom, startS, e1, isBl, mkTup, mkLst, lim, pD, d_bl]
  | k + 1, .mk f ts, n, p, h, hk, hs, hp => by
    rw [dep_mk] at hk hp
    rw [size_mk] at hs
    have e1 := sp_wh hw (n + k) (.mk f ts) h
    obtain ⟨s', e2, s3, s4, rfl⟩ := for_data (G := gam T (n + k + 1)) (tg := .tup [(.v 3), (.v 4)]) (src := .it .enumerate [(.sl (.v 0) (.k (.int 1)) .no)]) (b := fromB) (st := ⟨[.d (Tm.mk f ts).d, .d (.tup p), .o (.lst [pD (p, .mk f ts)]), .un, .un], h⟩) (st1 := ⟨[.d (Tm.mk f ts).d, .d (.tup p), .o (.lst [pD (p, .mk f ts)]), .un, .un], h⟩)
      (v := .it .enumerate [.d (.tup (ts.map Tm.d))]) (xs := enumD 0 (ts.map Tm.d)) (by simp [d_mk]) (fun s => by simp [items]) rfl
      (fun i s => ∃ s3 s4, s = ⟨[.d (Tm.mk f ts).d, .d (.tup p), .o (.lst (((p, Tm.mk f ts) :: prts p 0 (ts.take i)).map pD)), s3, s4], h⟩) ⟨.un, .un, by simp [prts]⟩ (fun i hi s ⟨s3, s4, e⟩ => by
        subst e
        have hi' : i < ts.length := by
          rw [enumD_length, List.length_map] at hi
          exact hi
        have ex : (enumD 0 (ts.map Tm.d))[i] = .tup [.int i, ts[i].d] := by
          have := enumD_get (ts.map Tm.d) 0 i ts[i].d (by rw [List.getElem?_map, List.getElem?_eq_getElem hi']; rfl)
          rw [List.getElem?_eq_getElem hi] at this
          rw [Option.some.inj this, Nat.zero_add]
        have hm : ts[i] ∈ ts := List.getElem_mem hi'
        have h1 := dep_le hm
        have h2 := size_le hm
        have ih := sp_from hw hf k ts[i] n (p ++ [.int i]) h (by omega) (by omega) (by simp; omega)
        have et := take_one ts i hi'
        have ez : prts p 0 (ts.take (i + 1)) = prts p 0 (ts.take i) ++ prt (p ++ [.int i]) ts[i] := by
          rw [et, prts_app, List.length_take, Nat.min_eq_left (by omega), prts, prts, List.append_nil, Nat.zero_add]
        have hsz : Tm.sizes (ts.take i) + ts[i].size ≤ Tm.sizes ts := by
          have e3 : ts = ts.take i ++ ts[i] :: ts.drop (i + 1) := by
            rw [← List.drop_eq_getElem_cons hi', List.take_append_drop]
          have e4 := sizes_app (ts.take i) (ts[i] :: ts.drop (i + 1))
          rw [← e3, Tm.sizes] at e4
          omega
        have hl1 : (((p, Tm.mk f ts) :: prts p 0 (ts.take i)).map pD).length + ((prt (p ++ [.int i]) ts[i]).map pD).length ≤ 1000000 := by
          rw [List.length_map, List.length_map, List.length_cons, prts_len, prt_len]
          omega
        have hl2 : p.length + 1 ≤ 1000000 := by omega
        refine ⟨⟨[.d (Tm.mk f ts).d, .d (.tup p), .o (.lst (((p, Tm.mk f ts) :: prts p 0 (ts.take i)).map pD)), .d (.int i), .d ts[i].d], h⟩, ⟨[.d (Tm.mk f ts).d, .d (.tup p), .o (.lst (((p, Tm.mk f ts) :: prts p 0 (ts.take (i + 1))).map pD)), .d (.int i), .d ts[i].d], h⟩, by rw [ex]; rfl, .inl ?_, _, _, rfl⟩
        have e5 : ((p, Tm.mk f ts) :: prts p 0 (ts.take (i + 1))).map pD = ((p, Tm.mk f ts) :: prts p 0 (ts.take i)).map pD ++ (prt (p ++ [.int i]) ts[i]).map pD := by rw [ez, ← List.cons_append, List.map_append]
        rw [e5]
        generalize ((p, Tm.mk f ts) :: prts p 0 (ts.take i)).map pD = A at hl1 ⊢
        generalize (prt (p ++ [.int i]) ts[i]).map pD = B at ih hl1 ⊢
        generalize ts[i].d = d at ih ⊢
        generalize (Tm.mk f ts).d = d0
        simp [fromB, mkTup, lim, hl2, ih, hl1])
    rw [enumD_length, List.length_map, List.take_length] at e2
    rw [show n + (k + 1) + 1 = (n + k + 1) + 1 by omega, callN_run T (n + k + 1) h (fd := fFrom) hf rfl rfl, runB_end, prt]
    simp only [pD] at e2
    have ep : ((p, Tm.mk f ts) :: prts p 0 ts).map pD = D.tup [.tup p, (Tm.mk f ts).d] :: (prts p 0 ts).map pD := rfl
    rw [ep] at e2 ⊢
    generalize (Tm.mk f ts).d = d0 at e1 e2 ⊢
    simp [fFrom, startS, e1, isBl, mkTup, mkLst, lim, e2]
    try rfl
theorem sp_of (hw : T.fn "is_whole" = some fWhole) (hf : T.fn "parts_from" = some fFrom) (ho : T.fn "parts_of" = some fOf) (k : Nat) (t : Tm) (n : Nat) (h : List O) (hk : t.dep ≤ k) (h2 : t.size ≤ 100000) (h3 : k ≤ 1000) : callN T (n + k + 2) "parts_of" [t.d] h = .ok (.o (.lst ((prt [] t).map pD))) h := by
  have e1 := sp_from hw hf k t n [] h hk h2 (by simp; omega)
  rw [callN_run T (n + k + 1) h (fd := fOf) ho rfl rfl, runB_end]
  generalize (prt [] t).map pD = B at e1 ⊢
  simp [fOf, startS, mkTup, lim, e1]
end
end EW.PT

-- part: PartU
set_option maxHeartbeats 2000000
/-! blanks and heads of a term -/
namespace EW.PT
open PySem EW EW.TT
section
variable {T : Tab}
/-- a loop over what a slot holds or a call told: the walked list stays -/
theorem for_stay {G : Gam} {tg : Tg} {src : E} {b : List EW.S} {st st1 : St} {v : EV} {xs : List D} (h : ev G src st = .ok v st1) (hp : (v.pls.all fun i => !(tg.vars ++ S.asgss b).contains i) = true) (I : Nat → St → Prop) (hs : ∀ i s, I i s → items s v = some xs) (h0 : I 0 st1)
    (hb : ∀ (i : Nat) (hi : i < xs.length) (s : St), I i s → ∃ s1 s2, bindD tg xs[i] s = some s1 ∧ (exs G b s1 = .ok .nx s2 ∨ exs G b s1 = .ok .ct s2) ∧ I (i + 1) s2) : ∃ s', ex G (.for_ tg src b) st = .ok .nx s' ∧ I xs.length s' := by
  obtain ⟨s', e, h1⟩ := foL_inv (stay := fun s => items s v = some xs) (tg := tg) (b := exs G b) (xs := xs) I (fun i s _ hI => hs i s hI) (fun i x s hx hI => by
    obtain ⟨hl, e⟩ := List.getElem?_eq_some_iff.mp hx
    subst e
    exact hb i hl s hI) h0
  exact ⟨s', (ex_for h (hs 0 st1 h0) hp).trans e, h1⟩
def bkv (xs : List Int) : List (D × D) := xs.map fun x => (D.int x, D.bl true)
def hkv (xs : List (Str × Nat)) : List (D × D) := xs.map fun x => (hD x, D.bl true)
theorem bkv_put (xs : List Int) (y : Int) : dput false (bkv xs) (.int y) (.bl true) = bkv (inc xs y) := dput_set false D.int kI xs y
theorem hkv_put (xs : List (Str × Nat)) (y : Str × Nat) : dput true (hkv xs) (hD y) (.bl true) = hkv (inc xs y) := dput_set true hD kH xs y
theorem sp_blanks (hw : T.fn "is_whole" = some fWhole) (hf : T.fn "parts_from" = some fFrom) (ho : T.fn "parts_of" = some fOf) (hb : T.fn "blanks" = some fBlanks) (k : Nat) (t : Tm) (n : Nat) (h : List O) (hk : t.dep ≤ k) (h2 : t.size ≤ 100000) (h3 : k ≤ 1000) :
    callN T (n + k + 3) "blanks" [t.d] h = .ok (.o (.lst ((bls t).map D.int))) h := by
  have e1 := sp_of hw hf ho k t n h hk h2 h3
  have hlen := prt_len t []
  obtain ⟨s', e2, s2, s3, rfl⟩ := for_stay (G := gam T (n + k + 2)) (tg := .tup [(.v 2), (.v 3)]) (src := .call "parts_of" [(.v 0)]) (b := blkB) (st := ⟨[.d t.d, .o (.dct false (bkv [])), .un, .un], h⟩) (st1 := ⟨[.d t.d, .o (.dct false (bkv [])), .un, .un], h⟩)
    (v := .o (.lst ((prt [] t).map pD))) (xs := (prt [] t).map pD) (by
      generalize (prt [] t).map pD = B at e1 ⊢
      simp [e1]) rfl
    (fun i s => ∃ s2 s3, s = ⟨[.d t.d, .o (.dct false (bkv (uqs [] ((((prt [] t).take i).map (·.2)).filterMap blOf)))), s2, s3], h⟩) (fun i s _ => by simp [items]) ⟨_, _, rfl⟩ (fun i hi s ⟨s2, s3, e⟩ => by
      subst e
      rw [List.length_map] at hi
      have et : (prt [] t).take (i + 1) = (prt [] t).take i ++ [(prt [] t)[i]] := List.take_succ_eq_append_getElem hi
      have ew : ((((prt [] t).take (i + 1)).map (·.2)).filterMap blOf) = ((((prt [] t).take i).map (·.2)).filterMap blOf) ++ (match blOf (prt [] t)[i].2 with | some j => [j] | none => []) := by
        rw [et, List.map_append, List.filterMap_append, List.map_singleton]
        cases e0 : blOf (prt [] t)[i].2 <;> simp [e0]
      have hl : (bkv (uqs [] ((((prt [] t).take i).map (·.2)).filterMap blOf))).length < 1000000 := by
        unfold bkv
        rw [List.length_map]
        have a1 := uqs_len ((((prt [] t).take i).map (·.2)).filterMap blOf) []
        have a2 := List.length_filterMap_le blOf (((prt [] t).take i).map (·.2))
        rw [List.length_map, List.length_take] at a2
        simp only [List.length_nil] at a1
        omega
      rw [List.getElem_map]
      generalize (((prt [] t).take i).map (·.2)).filterMap blOf = X at ew hl ⊢
      generalize (prt [] t)[i] = y at ew ⊢
      obtain ⟨q, u⟩ := y
      simp only at ew ⊢
      rw [ew]
      clear ew et e1
      refine ⟨⟨[.d t.d, .o (.dct false (bkv (uqs [] X))), .d (.tup q), .d u.d], h⟩, ⟨[.d t.d, .o (.dct false (bkv (uqs [] (X ++ (match blOf u with | some j => [j] | none => []))))), .d (.tup q), .d u.d], h⟩, rfl, .inl ?_, _, _, rfl⟩
      have ew := sp_wh hw (n + k + 1) u h
      generalize t.d = d0
      cases u with
      | bl j =>
        simp only [blOf]
        rw [uqs_snoc]
        rw [d_bl] at ew ⊢
        have ep := bkv_put (uqs [] X) j
        generalize uqs [] X = Y at ep hl ⊢
        rw [← ep]
        generalize bkv Y = Z at hl ⊢
        simp [blkB, ew, isBl, kI_some, lim, hl]
      | mk f ts =>
        simp only [blOf, List.append_nil]
        rw [d_mk] at ew ⊢
        generalize uqs [] X = Y at hl ⊢
        simp [blkB, ew, isBl])
  rw [List.length_map, List.take_of_length_le (Nat.le_refl _), prt_sub] at e2
  have hl : (bkv (bls t)).length ≤ 1000000 := by
    have := bls_len t
    unfold bkv
    rw [List.length_map]
    omega
  have em : (bkv (bls t)).map (·.1) = (bls t).map D.int := by
    unfold bkv
    rw [List.map_map]
    rfl
  rw [callN_run T (n + k + 2) h (fd := fBlanks) hb rfl rfl, runB_end]
  change ex (gam T (n + k + 2)) _ _ = .ok .nx ⟨[.d t.d, .o (.dct false (bkv (bls t))), s2, s3], h⟩ at e2
  rw [← em]
  have e3 : bkv [] = [] := rfl
  rw [e3] at e2
  generalize bkv (bls t) = Z at e2 hl ⊢
  generalize t.d = d0 at e2 ⊢
  simp [fBlanks, startS, e2, lim, hl]
theorem sp_heads (hw : T.fn "is_whole" = some fWhole) (hh : T.fn "head" = some fHead) (hf : T.fn "parts_from" = some fFrom) (ho : T.fn "parts_of" = some fOf) (hb : T.fn "heads" = some fHeads) (k : Nat) (t : Tm) (n : Nat) (h : List O) (hk : t.dep ≤ k) (h2 : t.size ≤ 100000) (h3 : k ≤ 1000) (hsrt : sortOk ((hds t).map hD) = true) :
    callN T (n + k + 3) "heads" [t.d] h = .ok (.o (.lst (sortD ((hds t).map hD)))) h := by
  have e1 := sp_of hw hf ho k t n h hk h2 h3
  have hlen := prt_len t []
  obtain ⟨s', e2, s2, s3, rfl⟩ := for_stay (G := gam T (n + k + 2)) (tg := .tup [(.v 2), (.v 3)]) (src := .call "parts_of" [(.v 0)]) (b := hdsB) (st := ⟨[.d t.d, .o (.dct true (hkv [])), .un, .un], h⟩) (st1 := ⟨[.d t.d, .o (.dct true (hkv [])), .un, .un], h⟩)
    (v := .o (.lst ((prt [] t).map pD))) (xs := (prt [] t).map pD) (by
      generalize (prt [] t).map pD = B at e1 ⊢
      simp [e1]) rfl
    (fun i s => ∃ s2 s3, s = ⟨[.d t.d, .o (.dct true (hkv (uqs [] ((((prt [] t).take i).map (·.2)).filterMap hdOf)))), s2, s3], h⟩) (fun i s _ => by simp [items]) ⟨_, _, rfl⟩ (fun i hi s ⟨s2, s3, e⟩ => by
      subst e
      rw [List.length_map] at hi
      have et : (prt [] t).take (i + 1) = (prt [] t).take i ++ [(prt [] t)[i]] := List.take_succ_eq_append_getElem hi
      have ew : ((((prt [] t).take (i + 1)).map (·.2)).filterMap hdOf) = ((((prt [] t).take i).map (·.2)).filterMap hdOf) ++ (match hdOf (prt [] t)[i].2 with | some j => [j] | none => []) := by
        rw [et, List.map_append, List.filterMap_append, List.map_singleton]
        cases e0 : hdOf (prt [] t)[i].2 <;> simp [e0]
      have hl : (hkv (uqs [] ((((prt [] t).take i).map (·.2)).filterMap hdOf))).length < 1000000 := by
        unfold hkv
        rw [List.length_map]
        have a1 := uqs_len ((((prt [] t).take i).map (·.2)).filterMap hdOf) []
        have a2 := List.length_filterMap_le hdOf (((prt [] t).take i).map (·.2))
        rw [List.length_map, List.length_take] at a2
        simp only [List.length_nil] at a1
        omega
      rw [List.getElem_map]
      generalize (((prt [] t).take i).map (·.2)).filterMap hdOf = X at ew hl ⊢
      generalize (prt [] t)[i] = y at ew ⊢
      obtain ⟨q, u⟩ := y
      simp only at ew ⊢
      rw [ew]
      clear ew et e1
      refine ⟨⟨[.d t.d, .o (.dct true (hkv (uqs [] X))), .d (.tup q), .d u.d], h⟩, ⟨[.d t.d, .o (.dct true (hkv (uqs [] (X ++ (match hdOf u with | some j => [j] | none => []))))), .d (.tup q), .d u.d], h⟩, rfl, .inl ?_, _, _, rfl⟩
      have ew := sp_wh hw (n + k + 1) u h
      have eh := sp_head hw hh (n + k) u h
      generalize t.d = d0
      cases u with
      | bl j =>
        simp only [hdOf, List.append_nil]
        rw [d_bl] at ew ⊢
        generalize uqs [] X = Y at hl ⊢
        simp [hdsB, ew, isBl]
      | mk f ts =>
        simp only [hdOf] at eh ⊢
        rw [uqs_snoc]
        have ep := hkv_put (uqs [] X) (f, ts.length)
        have ek := kH_some (f, ts.length)
        generalize uqs [] X = Y at ep hl ⊢
        rw [← ep]
        generalize hkv Y = Z at hl ⊢
        have er : ∀ st : St, rd st (.d (hD (f, ts.length))) = some (.d (hD (f, ts.length))) := fun st => rfl
        generalize hD (f, ts.length) = x at eh ek er ⊢
        simp only [isBl] at ew
        have ed : (Tm.mk f ts).d = .tup (.str f :: ts.map Tm.d) := d_mk f ts
        generalize (Tm.mk f ts).d = d1 at ew eh ed ⊢
        simp [hdsB, ew, eh, er, ek, lim, hl])
  rw [List.length_map, List.take_of_length_le (Nat.le_refl _), prt_sub] at e2
  have hl : (hkv (hds t)).length ≤ 1000000 := by
    have := hds_len t
    unfold hkv
    rw [List.length_map]
    omega
  have em : (hkv (hds t)).map (·.1) = (hds t).map hD := by
    unfold hkv
    rw [List.map_map]
    rfl
  rw [callN_run T (n + k + 2) h (fd := fHeads) hb rfl rfl, runB_end]
  change ex (gam T (n + k + 2)) _ _ = .ok .nx ⟨[.d t.d, .o (.dct true (hkv (hds t))), s2, s3], h⟩ at e2
  rw [← em] at hsrt ⊢
  have e3 : hkv [] = [] := rfl
  rw [e3] at e2
  generalize hkv (hds t) = Z at e2 hl hsrt ⊢
  generalize t.d = d0 at e2 ⊢
  simp [fHeads, startS, e2, lim, hl, hsrt]
end
theorem mem_sortD {ds : List D} {d : D} : d ∈ sortD ds ↔ d ∈ ds := by
  unfold sortD
  exact (List.mergeSort_perm _ _).mem_iff
theorem hD_pure {x : Str × Nat} (h : Nm x.1) : (hD x).pure = true := by simp [hD, D.pure, D.pures, h.ok]
theorem hD_depth (x : Str × Nat) : (hD x).toP.depth ≤ 3 := by simp [hD, D.toP, D.toPs, PyData.depth, PyData.depthAll]
theorem hD_alike (x y : Str × Nat) : W.alike (hD x).toP (hD y).toP = true := by
  simp only [hD, D.toP, D.toPs]
  rfl
theorem hds_sortOk {xs : List (Str × Nat)} (h : ∀ x ∈ xs, Nm x.1) (hl : xs.length ≤ 1000000) : sortOk (xs.map hD) = true := by
  unfold sortOk
  simp only [Bool.and_eq_true, Bool.or_eq_true]
  refine ⟨⟨⟨⟨?_, ?_⟩, .inl ?_⟩, ?_⟩, ?_⟩
  · rw [pures_all, List.all_map, List.all_eq_true]
    exact fun x hx => hD_pure (h x hx)
  · rw [List.all_map, List.all_eq_true]
    intro x hx
    simp only [Function.comp]
    rw [List.all_map, List.all_eq_true]
    intro y hy
    exact hD_alike x y
  · rw [List.all_map, List.all_eq_true]
    intro x hx
    rfl
  · rw [List.all_map, List.all_eq_true]
    intro x hx
    exact decide_eq_true (Nat.le_trans (hD_depth x) (show 3 ≤ deepest by decide))
  · exact decide_eq_true (by rw [List.length_map]; exact hl)
theorem depthAll_le {ds : List D} {k : Nat} (h : ∀ d ∈ ds, d.toP.depth ≤ k) : PyData.depthAll (D.toPs ds) ≤ k := by
  induction ds with
  | nil => simp [D.toPs, PyData.depthAll]
  | cons d ds ih =>
    have h1 := h d (by simp)
    have h2 := ih fun x hx => h x (by simp [hx])
    simp only [D.toPs, PyData.depthAll]
    omega
/-- a list is equal to itself -/
theorem eqW_self {ds : List D} (h : ∀ d ∈ ds, d.pure = true ∧ d.toP.depth ≤ 140) : eqW (.o (.lst ds)) (.o (.lst ds)) = some true := by
  have hp : D.pures ds = true := by
    rw [pures_all, List.all_eq_true]
    exact fun d hd => (h d hd).1
  have hd := depthAll_le (k := 140) fun d hd => (h d hd).2
  have hd2 : (D.tup ds).toP.depth ≤ deepest := by
    simp only [D.toP, PyData.depth]
    unfold deepest
    omega
  rw [eqW_lst hp hp hd2, eqvs_refl ds hp]
end EW.PT

-- part: FillT
set_option maxHeartbeats 2000000
/-! terms filled; blanks exchanged, numbered anew -/
namespace EW.PT
open PySem EW EW.TT
mutual
def fill (F : Int → Option Tm) : Tm → Tm
  | .bl i => (F i).getD (.bl i)
  | .mk f ts => .mk f (fills F ts)
def fills (F : Int → Option Tm) : List Tm → List Tm
  | [] => []
  | t :: ts => fill F t :: fills F ts
end
theorem fills_map (F : Int → Option Tm) (ts : List Tm) : fills F ts = ts.map (fill F) := by
  induction ts with
  | nil => rfl
  | cons t ts ih => rw [fills, List.map_cons, ih]
mutual
/-- the blanks, from the left -/
def bks : Tm → List Int
  | .bl i => [i]
  | .mk f ts => bkss ts
def bkss : List Tm → List Int
  | [] => []
  | t :: ts => bks t ++ bkss ts
end
mutual
theorem sub_bs : ∀ t : Tm, (sub t).filterMap blOf = bks t
  | .bl i => by rw [sub, bks]; rfl
  | .mk f ts => by
    rw [sub, bks, ← subs_bs ts]
    rfl
theorem subs_bs : ∀ ts : List Tm, (subs ts).filterMap blOf = bkss ts
  | [] => by rw [subs, bkss]; rfl
  | t :: ts => by rw [subs, bkss, List.filterMap_append, sub_bs t, subs_bs ts]
end
theorem bls_bs (t : Tm) : bls t = uqs [] (bks t) := by unfold bls; rw [sub_bs]
mutual
theorem bs_len : ∀ t : Tm, (bks t).length ≤ t.size
  | .bl i => by rw [bks, Tm.size]; exact Nat.le_refl _
  | .mk f ts => by
    have := bss_len ts
    rw [bks, size_mk]
    omega
theorem bss_len : ∀ ts : List Tm, (bkss ts).length ≤ Tm.sizes ts
  | [] => Nat.le_refl _
  | t :: ts => by
    have h1 := bs_len t
    have h2 := bss_len ts
    rw [bkss, Tm.sizes, List.length_append]
    omega
end
mutual
theorem fill_congr {F F' : Int → Option Tm} : ∀ t : Tm, (∀ i ∈ bks t, F i = F' i) → fill F t = fill F' t
  | .bl i, h => by
    rw [bks] at h
    rw [fill, fill, h i (by simp)]
  | .mk f ts, h => by
    rw [bks] at h
    rw [fill, fill, fills_congr ts h]
theorem fills_congr {F F' : Int → Option Tm} : ∀ ts : List Tm, (∀ i ∈ bkss ts, F i = F' i) → fills F ts = fills F' ts
  | [], h => rfl
  | t :: ts, h => by
    rw [bkss] at h
    rw [fills, fills, fill_congr t fun i hi => h i (by simp [hi]), fills_congr ts fun i hi => h i (by simp [hi])]
end
/-- blanks exchanged -/
def ren (e : Int → Int) (t : Tm) : Tm := fill (fun i => some (.bl (e i))) t
theorem ren_bl (e : Int → Int) (i : Int) : ren e (.bl i) = .bl (e i) := by unfold ren; rw [fill]; rfl
theorem ren_mk (e : Int → Int) (f : Str) (ts : List Tm) : ren e (.mk f ts) = .mk f (ts.map (ren e)) := by
  unfold ren
  rw [fill, fills_map]
mutual
theorem bs_ren (e : Int → Int) : ∀ t : Tm, bks (ren e t) = (bks t).map e
  | .bl i => by rw [ren_bl, bks, bks]; rfl
  | .mk f ts => by rw [ren_mk, bks, bks, bss_ren e ts]
theorem bss_ren (e : Int → Int) : ∀ ts : List Tm, bkss (ts.map (ren e)) = (bkss ts).map e
  | [] => rfl
  | t :: ts => by rw [List.map_cons, bkss, bkss, List.map_append, bs_ren e t, bss_ren e ts]
end
mutual
theorem ren_ren (e e' : Int → Int) : ∀ t : Tm, ren e (ren e' t) = ren (fun i => e (e' i)) t
  | .bl i => by rw [ren_bl, ren_bl, ren_bl]
  | .mk f ts => by rw [ren_mk, ren_mk, ren_mk, rens_ren e e' ts]
theorem rens_ren (e e' : Int → Int) : ∀ ts : List Tm, (ts.map (ren e')).map (ren e) = ts.map (ren (fun i => e (e' i)))
  | [] => rfl
  | t :: ts => by rw [List.map_cons, List.map_cons, List.map_cons, ren_ren e e' t, rens_ren e e' ts]
end
mutual
theorem ren_dep (e : Int → Int) : ∀ t : Tm, (ren e t).dep = t.dep
  | .bl i => by rw [ren_bl, Tm.dep, Tm.dep]
  | .mk f ts => by rw [ren_mk, dep_mk, dep_mk, rens_dep e ts]
theorem rens_dep (e : Int → Int) : ∀ ts : List Tm, Tm.deps (ts.map (ren e)) = Tm.deps ts
  | [] => rfl
  | t :: ts => by rw [List.map_cons, Tm.deps, Tm.deps, ren_dep e t, rens_dep e ts]
end
mutual
theorem ren_size (e : Int → Int) : ∀ t : Tm, (ren e t).size = t.size
  | .bl i => by rw [ren_bl, Tm.size, Tm.size]
  | .mk f ts => by rw [ren_mk, size_mk, size_mk, rens_size e ts]
theorem rens_size (e : Int → Int) : ∀ ts : List Tm, Tm.sizes (ts.map (ren e)) = Tm.sizes ts
  | [] => rfl
  | t :: ts => by rw [List.map_cons, Tm.sizes, Tm.sizes, ren_size e t, rens_size e ts]
end
mutual
theorem ren_pure (e : Int → Int) : ∀ t : Tm, t.d.pure = true → (ren e t).d.pure = true
  | .bl i, h => by rw [ren_bl, d_bl]; rfl
  | .mk f ts, h => by
    rw [d_mk, D.pure, D.pures, Bool.and_eq_true] at h
    rw [ren_mk, d_mk, D.pure, D.pures, h.1, rens_pure e ts h.2]
    rfl
theorem rens_pure (e : Int → Int) : ∀ ts : List Tm, D.pures (ts.map Tm.d) = true → D.pures ((ts.map (ren e)).map Tm.d) = true
  | [], _ => rfl
  | t :: ts, h => by
    rw [List.map_cons, D.pures, Bool.and_eq_true] at h
    rw [List.map_cons, List.map_cons, D.pures, ren_pure e t h.1, rens_pure e ts h.2]
    rfl
end
theorem ren_congr {e e' : Int → Int} (t : Tm) (h : ∀ i ∈ bks t, e i = e' i) : ren e t = ren e' t := fill_congr t fun i hi => by rw [h i hi]
/-! numbered anew -/
theorem uqs_uqs (N : List Int) : ∀ (X A : List Int), uqs N (uqs A X) = uqs (uqs N A) X
  | [], A => rfl
  | x :: X, A => by
    show uqs N (uqs (inc A x) X) = uqs (inc (uqs N A) x) X
    rw [uqs_uqs N X (inc A x)]
    congr 1
    unfold inc
    by_cases q : x ∈ A
    · rw [if_pos q, if_pos ((mem_uqs A N x).mpr (.inr q))]
    · rw [if_neg q, uqs_snoc]
      rfl
theorem uqs_app {α : Type} [DecidableEq α] (A X Y : List α) : uqs A (X ++ Y) = uqs (uqs A X) Y := by simp [uqs]
theorem uqs_nil' (N X : List Int) : uqs N (uqs [] X) = uqs N X := uqs_uqs N X []
theorem inc_pre {α : Type} [DecidableEq α] (A : List α) (x : α) : A <+: inc A x := by
  unfold inc
  split
  · exact List.prefix_refl _
  · exact List.prefix_append _ _
theorem uqs_pre {α : Type} [DecidableEq α] : ∀ (X A : List α), A <+: uqs A X
  | [], A => List.prefix_refl _
  | x :: X, A => (inc_pre A x).trans (uqs_pre X (inc A x))
theorem idxOf_pre {A B : List Int} {x : Int} (h : A <+: B) (hx : x ∈ A) : B.idxOf x = A.idxOf x := by
  obtain ⟨t, rfl⟩ := h
  rw [List.idxOf_append, if_pos hx]
theorem inc_map {e : Int → Int} {A : List Int} {x : Int} (h : ∀ y ∈ A, e y = e x → y = x) : inc (A.map e) (e x) = (inc A x).map e := by
  unfold inc
  by_cases q : x ∈ A
  · rw [if_pos q, if_pos (List.mem_map_of_mem q)]
  · rw [if_neg q, if_neg fun z => ?_, List.map_append]
    · rfl
    · obtain ⟨y, hy, ey⟩ := List.mem_map.mp z
      exact q (h y hy ey ▸ hy)
theorem uqs_map {e : Int → Int} : ∀ (X A : List Int), (∀ x ∈ A ++ X, ∀ y ∈ A ++ X, e x = e y → x = y) → uqs (A.map e) (X.map e) = (uqs A X).map e
  | [], A, h => rfl
  | x :: X, A, h => by
    show uqs (inc (A.map e) (e x)) (X.map e) = (uqs (inc A x) X).map e
    rw [inc_map fun y hy ey => h y (by simp [hy]) x (by simp) ey]
    refine uqs_map X (inc A x) fun a ha b hb => h a ?_ b ?_
    · rw [List.mem_append, mem_inc] at ha
      simp only [List.mem_append, List.mem_cons]
      rcases ha with (ha | ha) | ha
      · exact .inl ha
      · exact .inr (.inl ha)
      · exact .inr (.inr ha)
    · rw [List.mem_append, mem_inc] at hb
      simp only [List.mem_append, List.mem_cons]
      rcases hb with (hb | hb) | hb
      · exact .inl hb
      · exact .inr (.inl hb)
      · exact .inr (.inr hb)
theorem idxOf_map {e : Int → Int} {x : Int} : ∀ {A : List Int}, (∀ y ∈ A, e y = e x → y = x) → (A.map e).idxOf (e x) = A.idxOf x
  | [], _ => rfl
  | a :: A, h => by
    rw [List.map_cons, List.idxOf_cons, List.idxOf_cons]
    by_cases q : a = x
    · subst q
      simp
    · have q2 : ¬ e a = e x := fun z => q (h a (by simp) z)
      rw [show (e a == e x) = false by simpa using q2, show (a == x) = false by simpa using q, idxOf_map fun y hy => h y (by simp [hy])]
def nums (ts : List Tm) : List Int := uqs [] (bkss ts)
/-- terms numbered anew -/
def anewL (ts : List Tm) : List Tm := ts.map (ren fun i => ((nums ts).idxOf i : Int))
theorem mem_nums {ts : List Tm} {i : Int} : i ∈ nums ts ↔ i ∈ bkss ts := by
  unfold nums
  rw [mem_uqs]
  simp
theorem bs_bss {t : Tm} {ts : List Tm} (h : t ∈ ts) {i : Int} (hi : i ∈ bks t) : i ∈ bkss ts := by
  induction ts with
  | nil => cases h
  | cons u us ih =>
    rw [bkss, List.mem_append]
    rcases List.mem_cons.mp h with rfl | h
    · exact .inl hi
    · exact .inr (ih h)
/-- exchanged one for one: the same numbers -/
theorem anew_ren {e : Int → Int} {ts : List Tm} (h : ∀ x ∈ bkss ts, ∀ y ∈ bkss ts, e x = e y → x = y) : anewL (ts.map (ren e)) = anewL ts := by
  have e1 : nums (ts.map (ren e)) = (nums ts).map e := by
    unfold nums
    rw [bss_ren]
    exact uqs_map (bkss ts) [] (by simpa using h)
  unfold anewL
  rw [e1, rens_ren]
  refine List.map_congr_left fun t ht => ren_congr t fun i hi => ?_
  have hi' := bs_bss ht hi
  show (((nums ts).map e).idxOf (e i) : Int) = _
  rw [idxOf_map fun y hy ey => h y (mem_nums.mp hy) i hi' ey]
theorem idx_inj {A : List Int} {x y : Int} (hx : x ∈ A) (hy : y ∈ A) (h : A.idxOf x = A.idxOf y) : x = y := by
  have h1 := List.getElem_idxOf (List.idxOf_lt_length_of_mem hx)
  have h2 := List.getElem_idxOf (List.idxOf_lt_length_of_mem hy)
  rw [← h1, ← h2]
  simp only [h]
theorem anew_anew (ts : List Tm) : anewL (anewL ts) = anewL ts := by
  have := anew_ren (e := fun i => ((nums ts).idxOf i : Int)) (ts := ts) fun x hx y hy h => idx_inj (mem_nums.mpr hx) (mem_nums.mpr hy) (by exact_mod_cast h)
  exact this
/-! the walk -/
def fFilled : Fd := ⟨2, 3, 
  [.ife (.call "is_whole" [(.v 0)])
     [.ret (.meth "get" (.v 1) [(.v 0), (.v 0)])]
     [],
  .ret (.bi .tuple [(.bin .Add (.lst [(.idx (.v 0) (.k (.int 0)))]) (.lc (.call "filled_in" [(.v 2), (.v 1)]) (.v 2) (.sl (.v 0) (.k (.int 1)) .no) .no))])], []⟩
theorem set_same {α : Type} {h : List α} {a : Nat} {x : α} (e : h[a]? = some x) : h.set a x = h := by
  apply List.ext_getElem?
  intro j
  rw [List.getElem?_set]
  by_cases q : a = j
  · subst q
    obtain ⟨hl, _⟩ := List.getElem?_eq_some_iff.mp e
    rw [if_pos rfl, if_pos hl, e]
  · rw [if_neg q]
section
variable {T : Tab}
theorem len_sizes (ts : List Tm) : ts.length ≤ Tm.sizes ts := by
  induction ts with
  | nil => exact Nat.le_refl _
  | cons a r ih =>
    have := size_pos a
    rw [Tm.sizes, List.length_cons]
    omega
theorem sp_filled (hw : T.fn "is_whole" = some fWhole) (hf : T.fn "filled_in" = some fFilled) (F : Int → Option Tm) (a : Nat) (h : List O) (kvs : List (D × D)) (ha : h[a]? = some (.dct false kvs)) (hF : ∀ i, dget false kvs (.int i) = (F i).map Tm.d) :
    ∀ (k : Nat) (t : Tm) (n : Nat), t.dep ≤ k → t.size ≤ 100000 → callN T (n + k + 1) "filled_in" [t.d, .ref a] h = .ok (.d (fill F t).d) h
  | 0, t, n, hk, _ => by
    have := dep_pos t
    omega
  | k + 1, .bl i, n, hk, _ => by
    have e1 := sp_wh hw (n + k) (.bl i) h
    have e2 := hF i
    have e3 : ((dget false kvs (.int i)).getD (.int i)) = (fill F (.bl i)).d := by
      rw [e2, fill]
      cases F i with
      | none => rw [← d_bl]; rfl
      | some u => rfl
    have e4 := set_same ha
    rw [show n + (k + 1) + 1 = (n + k + 1) + 1 by omega, callN_run T (n + k + 1) h (fd := fFilled) hf rfl rfl, runB_end]
    rw [d_bl] at e1 ⊢
    simp [fFilled, startS, e1, isBl, ha, kI_some, e3, e4]
  | k + 1, .mk f ts, n, hk, hs => by
    rw [dep_mk] at hk
    rw [size_mk] at hs
    have hln := len_sizes ts
    have e1 := sp_wh hw (n + k) (.mk f ts) h
    have lc := fun s1 : Sl => ev_map (G := gam T (n + k + 1)) (elt := .call "filled_in" [(.v 2), (.v 1)]) (src := .sl (.v 0) (.k (.int 1)) .no) (tg := .v 2) (st := ⟨[.d (Tm.mk f ts).d, .d (.ref a), s1], h⟩) (st1 := ⟨[.d (Tm.mk f ts).d, .d (.ref a), s1], h⟩) (v := .d (.tup (ts.map Tm.d))) ts Tm.d (fun u => (fill F u).d)
      (by simp [d_mk]) (by simp [items_d]) (by simp only [lim]; omega) rfl (fun u hu => ⟨_, rfl, by
        have h1 := dep_le hu
        have h2 := size_le hu
        have ih := sp_filled hw hf F a h kvs ha hF k u n (by omega) (by omega)
        simp [wst, wipeS, Tg.vars, ih], by simp [wst, wipeS, Tg.vars]⟩)
    have hl : 1 + (ts.map fun u => (fill F u).d).length ≤ 1000000 := by
      rw [List.length_map]
      omega
    have eg : (fill F (.mk f ts)).d = .tup (.str f :: (ts.map fun u => (fill F u).d)) := by
      rw [fill, d_mk, fills_map, List.map_map]
      rfl
    rw [show n + (k + 1) + 1 = (n + k + 1) + 1 by omega, callN_run T (n + k + 1) h (fd := fFilled) hf rfl rfl, runB_end, eg]
    rw [d_mk] at e1 lc ⊢
    generalize (ts.map fun u => (fill F u).d) = B at lc hl ⊢
    simp [fFilled, startS, e1, isBl, lc, mkLst, lim, hl]
/-- a comprehension that maps; the state may go on -/
theorem ev_mapS {β : Type} {G : Gam} {elt src : E} {tg : Tg} {st st1 : St} {v : EV} (ys : List β) (f g : β → D) (I : St → Prop) (h : ev G src st = .ok v st1) (hi : ∀ s, I s → items s v = some (ys.map f)) (h1 : I st1) (hl : ys.length ≤ lim) (hp : (v.pls.all fun i => !tg.vars.contains i) = true)
    (he : ∀ y ∈ ys, ∀ s, I s → ∃ s1 s2, bindD tg (f y) (wst s tg.vars) = some s1 ∧ ev G elt s1 = .ok (.d (g y)) s2 ∧ I s2) :
    ∃ s', ev G (.lc elt tg src .no) st = .ok (.o (.lst (ys.map g))) { s' with σ := backS s'.σ st1.σ tg.vars } ∧ I s' := by
  have main : ∀ (zs : List β) (acc : List D) (s : St), (∀ x ∈ zs, x ∈ ys) → I s →
      ∃ s', lcL (fun s => items s v = some (ys.map f)) tg (fun s => .ok true s) (ev G elt) (zs.map f) acc s = .ok (acc ++ zs.map g) s' ∧ I s' := by
    intro zs
    induction zs with
    | nil =>
      intro acc s _ e
      refine ⟨s, ?_, e⟩
      rw [List.map_nil]
      unfold lcL
      rw [if_pos (hi s e)]
      simp
    | cons y zs ih =>
      intro acc s hy e
      obtain ⟨s1, s2, h1, h2, h3⟩ := he y (hy y (by simp)) s e
      obtain ⟨s', h4, h5⟩ := ih (acc ++ [g y]) s2 (fun x hx => hy x (by simp [hx])) h3
      refine ⟨s', ?_, h5⟩
      rw [List.map_cons]
      unfold lcL
      rw [if_pos (hi s e)]
      have e2 : ({ s with σ := wipeS s.σ tg.vars } : St) = wst s tg.vars := rfl
      rw [e2, h1]
      simp only [Out.bind_ok, if_true, h2, toD_d, Out.of2_some]
      rw [h4]
      simp
  obtain ⟨s', h4, h5⟩ := main ys [] st1 (fun x hx => hx) h1
  refine ⟨s', ?_, h5⟩
  rw [ev]
  simp only [h, Out.bind_ok, hi st1 h1]
  rw [if_pos (by simp only [Bool.and_eq_true, decide_eq_true_eq, List.length_map]; exact ⟨hl, hp⟩)]
  rw [h4]
  simp only [Out.tame_ok, Out.bind_ok, List.nil_append]
end
end EW.PT

-- part: AnewT
set_option maxHeartbeats 2000000
/-! anew -/
namespace EW.PT
open PySem EW EW.TT
def setB : List EW.S := [.ex (.meth "setdefault" (.v 1) [(.v 3), (.bi .len [(.v 1)])])]
def fAnew : Fd := ⟨1, 4, 
  [.asg (.v 1) (.dct false [] []),
  .for_ (.v 2) (.v 0)
     [.for_ (.v 3) (.call "blanks" [(.v 2)]) setB],
  .ret (.lc (.call "filled_in" [(.v 2), (.v 1)]) (.v 2) (.v 0) .no)], []⟩
/-- numbers, from o on -/
def nkvF : Nat → List Int → List (D × D)
  | _, [] => []
  | o, x :: r => (.int x, .int o) :: nkvF (o + 1) r
abbrev nkv (N : List Int) : List (D × D) := nkvF 0 N
theorem nkvF_len : ∀ (N : List Int) (o : Nat), (nkvF o N).length = N.length
  | [], o => rfl
  | x :: r, o => by rw [nkvF, List.length_cons, List.length_cons, nkvF_len r (o + 1)]
theorem nkvF_app : ∀ (N M : List Int) (o : Nat), nkvF o (N ++ M) = nkvF o N ++ nkvF (o + N.length) M
  | [], M, o => by simp [nkvF]
  | x :: r, M, o => by
    rw [List.cons_append, nkvF, nkvF, nkvF_app r M (o + 1), List.cons_append, List.length_cons, show o + 1 + r.length = o + (r.length + 1) by omega]
theorem nkvF_get (x : Int) : ∀ (N : List Int) (o : Nat), dget false (nkvF o N) (.int x) = if x ∈ N then some (.int ((o + N.idxOf x : Nat) : Int)) else none
  | [], o => by simp [nkvF, dget]
  | a :: r, o => by
    have ih := nkvF_get x r (o + 1)
    unfold dget at ih ⊢
    rw [nkvF, List.find?_cons]
    by_cases q : a = x
    · subst q
      simp
    · have q2 : decide (kkey false (.int a) = kkey false (.int x)) = false := decide_eq_false fun z => q ((kI a x).mp z)
      simp only [q2]
      rw [ih, List.idxOf_cons, show (a == x) = false by simpa using q]
      have q3 : x ∈ a :: r ↔ x ∈ r := by
        rw [List.mem_cons]
        exact ⟨fun z => z.elim (fun z => (q z.symm).elim) id, .inr⟩
      by_cases q4 : x ∈ r
      · rw [if_pos q4, if_pos (q3.mpr q4)]
        congr 3
        simp
        omega
      · rw [if_neg q4, if_neg fun z => q4 (q3.mp z)]
theorem nkv_put {N : List Int} {x : Int} (h : x ∉ N) : dput false (nkv N) (.int x) (.int N.length) = nkv (N ++ [x]) := by
  have e1 : ((nkv N).any fun p => decide (kkey false p.1 = kkey false (.int x))) = false := by
    have h2 := nkvF_get x N 0
    rw [if_neg h] at h2
    unfold dget at h2
    rw [Option.map_eq_none_iff, List.find?_eq_none] at h2
    rw [List.any_eq_false]
    exact h2
  unfold dput
  rw [e1, if_neg (by decide)]
  unfold nkv
  rw [nkvF_app]
  simp [nkvF]
theorem nkv_setd (N : List Int) (x : Int) : (match dget false (nkv N) (.int x) with
      | some v => some (O.dct false (nkv N), EV.d v)
      | none => some (O.dct false (dput false (nkv N) (.int x) (.int N.length)), EV.d (.int N.length))) = some (O.dct false (nkv (inc N x)), EV.d (.int ((inc N x).idxOf x))) := by
  rw [nkvF_get]
  unfold inc
  by_cases q : x ∈ N
  · rw [if_pos q, if_pos q]
    simp
  · rw [if_neg q, if_neg q]
    simp only
    rw [nkv_put q]
    simp [List.idxOf_append, q]
theorem nkv_len (N : List Int) : (nkv N).length = N.length := nkvF_len N 0
theorem tm_ltF (n : Nat) : ∀ t : Tm, t.d.lt n = true
  | .bl i => by rw [d_bl]; rfl
  | .mk f ts => by
    rw [d_mk, D.lt, D.lts, D.lt]
    simp only [Bool.true_and]
    exact main ts
where main : ∀ ts : List Tm, D.lts n (ts.map Tm.d) = true
  | [] => rfl
  | t :: ts => by
    rw [List.map_cons, D.lts, tm_ltF n t, main ts]
    rfl
theorem tms_ltF (n : Nat) (ts : List Tm) : D.lts n (ts.map Tm.d) = true := tm_ltF.main n ts
theorem gc_extO (h t : List O) (x : O) (hl : x.lt h.length = true) : gc h (.ok (.o x) (h ++ t)) = .ok (.o x) h := by
  unfold gc
  simp only
  rw [if_pos (by simp)]
  rw [if_pos (by simpa [EV.lt] using hl)]
theorem inc_len_le {N : List Int} {x : Int} {k : Nat} (h : N.length < k) : (inc N x).length ≤ k := by
  have := inc_len N x
  omega
section
variable {T : Tab}
/-- the blanks of a term come in -/
theorem setd_loop (G : Gam) (src : E) (B : List Int) (s0 s2 s3 : Sl) (h : List O) (N : List Int) (hsrc : ev G src ⟨[s0, .o (.dct false (nkv N)), s2, s3], h⟩ = .ok (.o (.lst (B.map D.int))) ⟨[s0, .o (.dct false (nkv N)), s2, s3], h⟩) (hl : N.length + B.length ≤ 900000) :
    ∃ s3', ex G (.for_ (.v 3) src setB) ⟨[s0, .o (.dct false (nkv N)), s2, s3], h⟩ = .ok .nx ⟨[s0, .o (.dct false (nkv (uqs N B))), s2, s3'], h⟩ := by
  obtain ⟨s', e, s3', rfl⟩ := for_stay (G := G) (tg := .v 3) (src := src) (b := setB) (xs := B.map D.int) hsrc rfl
    (fun i s => ∃ s3', s = ⟨[s0, .o (.dct false (nkv (uqs N (B.take i)))), s2, s3'], h⟩) (fun i s _ => by simp [items]) ⟨s3, rfl⟩ (fun i hi s ⟨s3', e⟩ => by
      subst e
      rw [List.length_map] at hi
      have et : B.take (i + 1) = B.take i ++ [B[i]] := List.take_succ_eq_append_getElem hi
      have hlen : (nkv (uqs N (B.take i))).length < 1000000 := by
        have := uqs_len (B.take i) N
        rw [List.length_take] at this
        rw [nkv_len]
        omega
      rw [List.getElem_map, et, uqs_snoc]
      have en := nkv_len (uqs N (B.take i))
      have eg := nkvF_get B[i] (uqs N (B.take i)) 0
      have ep := nkv_put (N := uqs N (B.take i)) (x := B[i])
      generalize uqs N (B.take i) = M at *
      generalize B[i] = x at *
      refine ⟨⟨[s0, .o (.dct false (nkv M)), s2, .d (.int x)], h⟩, ⟨[s0, .o (.dct false (nkv (inc M x))), s2, .d (.int x)], h⟩, rfl, .inl ?_, _, rfl⟩
      have ek := kI_some x
      rw [en] at hlen
      unfold inc
      by_cases q : x ∈ M
      · rw [if_pos q] at eg ⊢
        simp [setB, ek, hlen, en, eg, lim]
      · rw [if_neg q] at eg ⊢
        rw [← ep q]
        simp [setB, ek, hlen, en, eg, lim])
  rw [List.length_map, List.take_of_length_le (Nat.le_refl _)] at e
  exact ⟨s3', e⟩
theorem sp_anew (hw : T.fn "is_whole" = some fWhole) (hfr : T.fn "parts_from" = some fFrom) (ho : T.fn "parts_of" = some fOf) (hb : T.fn "blanks" = some fBlanks) (hf : T.fn "filled_in" = some fFilled) (hA : T.fn "anew" = some fAnew)
    (n a : Nat) (h : List O) (ts : List Tm) (ha : h[a]? = some (.lst (ts.map Tm.d))) (hd : ∀ t ∈ ts, t.dep ≤ 60) (hs : Tm.sizes ts ≤ 100000) : callN T (n + 64) "anew" [.ref a] h = .ok (.o (.lst ((anewL ts).map Tm.d))) h := by
  have hal : a < h.length := (List.getElem?_eq_some_iff.mp ha).1
  obtain ⟨s', e1, s2, s3, rfl⟩ := for_stay (G := gam T (n + 63)) (tg := .v 2) (src := .v 0) (b := [.for_ (.v 3) (.call "blanks" [(.v 2)]) setB]) (st := ⟨[.d (.ref a), .o (.dct false (nkv [])), .un, .un], h⟩) (st1 := ⟨[.d (.ref a), .o (.dct false (nkv [])), .un, .un], h⟩)
    (v := .d (.ref a)) (xs := ts.map Tm.d) (by simp) rfl
    (fun i s => ∃ s2 s3, s = ⟨[.d (.ref a), .o (.dct false (nkv (uqs [] (bkss (ts.take i))))), s2, s3], h⟩) (fun i s ⟨s2, s3, e⟩ => by subst e; simp [items, ha]) ⟨_, _, rfl⟩ (fun i hi s ⟨s2, s3, e⟩ => by
      subst e
      rw [List.length_map] at hi
      have hm : ts[i] ∈ ts := List.getElem_mem hi
      have et : ts.take (i + 1) = ts.take i ++ [ts[i]] := List.take_succ_eq_append_getElem hi
      have eb : ∀ as bks' : List Tm, bkss (as ++ bks') = bkss as ++ bkss bks' := fun as bks' => by
        induction as with
        | nil => rfl
        | cons x r ih => rw [List.cons_append, bkss, bkss, ih, List.append_assoc]
      have ew : uqs [] (bkss (ts.take (i + 1))) = uqs (uqs [] (bkss (ts.take i))) (bls ts[i]) := by
        rw [et, eb, uqs_app, bls_bs, uqs_nil']
        congr 1
        rw [bkss, bkss, List.append_nil]
      have z1 := size_le hm
      have ebl := sp_blanks hw hfr ho hb 60 ts[i] n h (hd _ hm) (by omega) (by omega)
      have lb := bls_len ts[i]
      have lN := uqs_len (bkss (ts.take i)) []
      have lM := bss_len (ts.take i)
      have lS : Tm.sizes (ts.take i) ≤ Tm.sizes ts := by
        have e4 := sizes_app (ts.take i) (ts.drop i)
        rw [List.take_append_drop] at e4
        omega
      simp only [List.length_nil] at lN
      rw [List.getElem_map, ew]
      obtain ⟨s3', es⟩ := setd_loop (gam T (n + 63)) (.call "blanks" [(.v 2)]) (bls ts[i]) (.d (.ref a)) (.d ts[i].d) s3 h (uqs [] (bkss (ts.take i))) (by
        generalize (bls ts[i]).map D.int = B at ebl ⊢
        generalize ts[i].d = d at ebl ⊢
        simp [ebl]) (by omega)
      exact ⟨⟨[.d (.ref a), .o (.dct false (nkv (uqs [] (bkss (ts.take i))))), .d ts[i].d, s3], h⟩, ⟨[.d (.ref a), .o (.dct false (nkv (uqs (uqs [] (bkss (ts.take i))) (bls ts[i])))), .d ts[i].d, s3'], h⟩, rfl, .inl (by
        rw [exs_cons, es]
        simp), _, _, rfl⟩)
  rw [List.length_map, List.take_of_length_le (Nat.le_refl _)] at e1
  change ex (gam T (n + 63)) _ _ = .ok .nx ⟨[.d (.ref a), .o (.dct false (nkv (nums ts))), s2, s3], h⟩ at e1
  have hfl : ∀ t ∈ ts, callN T (n + 63) "filled_in" [t.d, .ref h.length] (h ++ [.dct false (nkv (nums ts))]) = .ok (.d (ren (fun i => ((nums ts).idxOf i : Int)) t).d) (h ++ [.dct false (nkv (nums ts))]) := fun t ht => by
    have z1 := size_le ht
    have := sp_filled hw hf (fun i => if i ∈ nums ts then some (.bl ((nums ts).idxOf i)) else none) h.length (h ++ [.dct false (nkv (nums ts))]) (nkv (nums ts)) (by simp) (fun i => by
      rw [nkvF_get]
      by_cases q : i ∈ nums ts
      · rw [if_pos q, if_pos q, Nat.zero_add, Option.map_some, d_bl]
      · rw [if_neg q, if_neg q]
        rfl) 60 t (n + 2) (hd t ht) (by omega)
    rw [show n + 63 = n + 2 + 60 + 1 by omega, this]
    congr 3
    refine fill_congr t fun i hi => ?_
    rw [if_pos (mem_nums.mpr (bs_bss ht hi))]
  obtain ⟨s', e2, hI⟩ := ev_mapS (G := gam T (n + 63)) (elt := .call "filled_in" [(.v 2), (.v 1)]) (src := .v 0) (tg := .v 2) (st := ⟨[.d (.ref a), .o (.dct false (nkv (nums ts))), s2, s3], h⟩) (st1 := ⟨[.d (.ref a), .o (.dct false (nkv (nums ts))), s2, s3], h⟩) (v := .d (.ref a)) ts Tm.d (fun t => (ren (fun i => ((nums ts).idxOf i : Int)) t).d)
    (fun s => ∃ s2, s = ⟨[.d (.ref a), .o (.dct false (nkv (nums ts))), s2, s3], h⟩ ∨ s = ⟨[.d (.ref a), .d (.ref h.length), s2, s3], h ++ [.dct false (nkv (nums ts))]⟩) (by simp) (fun s ⟨s2, e⟩ => by
      rcases e with rfl | rfl
      · simp [items, ha]
      · simp [items, List.getElem?_append_left hal, ha]) ⟨_, .inl rfl⟩ (by
      have := len_sizes ts
      simp only [lim]
      omega) rfl (fun t ht s ⟨s2, e⟩ => by
      have q := hfl t ht
      generalize (ren (fun i => ((nums ts).idxOf i : Int)) t).d = d2 at q ⊢
      generalize t.d = d1 at q ⊢
      generalize nkv (nums ts) = K at q e ⊢
      rcases e with rfl | rfl
      · exact ⟨_, ⟨[.d (.ref a), .d (.ref h.length), .d d1, s3], h ++ [.dct false K]⟩, rfl, by simp [wst, wipeS, Tg.vars, q], _, .inr rfl⟩
      · exact ⟨_, ⟨[.d (.ref a), .d (.ref h.length), .d d1, s3], h ++ [.dct false K]⟩, rfl, by simp [wst, wipeS, Tg.vars, q], _, .inr rfl⟩)
  have eA : (ts.map fun t => (ren (fun i => ((nums ts).idxOf i : Int)) t).d) = (anewL ts).map Tm.d := by
    unfold anewL
    rw [List.map_map]
    rfl
  rw [eA] at e2
  have hlt := tms_ltF h.length (anewL ts)
  rw [callN_run T (n + 63) h (fd := fAnew) hA rfl rfl, runB_end]
  have en : nkv [] = [] := rfl
  rw [en] at e1
  generalize nkv (nums ts) = K at *
  generalize (anewL ts).map Tm.d = R at *
  obtain ⟨s2', hI⟩ := hI
  rcases hI with rfl | rfl
  · simp [fAnew, startS, e1, e2]
  · have hg := gc_extO h [.dct false K] (.lst R) hlt
    simp [fAnew, startS, e1, e2, hg]
end
end EW.PT

-- part: MeasT
set_option maxHeartbeats 2000000
/-! what a filled term comes to; filled -/
namespace EW.PT
open PySem EW EW.TT
/-! dicts of numbers -/
def kvD {α : Type} (f : α → D) (prs : List (Int × α)) : List (D × D) := prs.map fun p => (D.int p.1, f p.2)
def agt {α : Type} (prs : List (Int × α)) (i : Int) : Option α := (prs.find? fun p => decide (p.1 = i)).map (·.2)
def aput {α : Type} (prs : List (Int × α)) (i : Int) (u : α) : List (Int × α) := if (prs.any fun p => decide (p.1 = i)) = true then prs.map fun p => if p.1 = i then (p.1, u) else p else prs ++ [(i, u)]
section
variable {α : Type} {f : α → D}
theorem kvD_get (prs : List (Int × α)) (i : Int) : dget false (kvD f prs) (.int i) = (agt prs i).map f := by
  unfold dget agt kvD
  rw [List.find?_map]
  have e : ((fun p : D × D => decide (kkey false p.1 = kkey false (.int i))) ∘ fun p : Int × α => (D.int p.1, f p.2)) = fun p : Int × α => decide (p.1 = i) := by
    funext p
    simp [kI]
  rw [e]
  cases prs.find? fun p => decide (p.1 = i) <;> rfl
theorem kvD_put (prs : List (Int × α)) (i : Int) (u : α) : dput false (kvD f prs) (.int i) (f u) = kvD f (aput prs i u) := by
  unfold dput aput kvD
  rw [List.any_map]
  have e : ((fun p : D × D => decide (kkey false p.1 = kkey false (.int i))) ∘ fun p : Int × α => (D.int p.1, f p.2)) = fun p : Int × α => decide (p.1 = i) := by
    funext p
    simp [kI]
  rw [e]
  split
  · rw [List.map_map, List.map_map]
    refine List.map_congr_left fun p _ => ?_
    by_cases q : p.1 = i
    · simp [kI, q]
    · simp [kI, q]
  · rw [List.map_append]
    rfl
theorem kvD_len (prs : List (Int × α)) : (kvD f prs).length = prs.length := by simp [kvD]
theorem aput_new {prs : List (Int × α)} {i : Int} {u : α} (h : i ∉ prs.map (·.1)) : aput prs i u = prs ++ [(i, u)] := by
  unfold aput
  rw [if_neg fun z => ?_]
  obtain ⟨p, hp, e⟩ := List.any_eq_true.mp z
  exact h (List.mem_map.mpr ⟨p, hp, of_decide_eq_true e⟩)
theorem aput_keys (prs : List (Int × α)) (i : Int) (u : α) : (aput prs i u).map (·.1) = if i ∈ prs.map (·.1) then prs.map (·.1) else prs.map (·.1) ++ [i] := by
  by_cases h : i ∈ prs.map (·.1)
  · rw [if_pos h]
    unfold aput
    obtain ⟨p, hp, e⟩ := List.mem_map.mp h
    rw [if_pos (List.any_eq_true.mpr ⟨p, hp, decide_eq_true e⟩), List.map_map]
    refine List.map_congr_left fun q _ => ?_
    by_cases c : q.1 = i <;> simp [c]
  · rw [if_neg h, aput_new h, List.map_append]
    rfl
theorem aput_nodup {prs : List (Int × α)} {i : Int} {u : α} (h : (prs.map (·.1)).Nodup) : ((aput prs i u).map (·.1)).Nodup := by
  rw [aput_keys]
  split
  · exact h
  · rename_i n
    rw [List.nodup_append]
    exact ⟨h, by simp, fun a ha b hb e => n (by rw [List.mem_singleton.mp hb] at e; exact e ▸ ha)⟩
theorem aput_mem {prs : List (Int × α)} {i : Int} {u : α} {p : Int × α} (h : p ∈ aput prs i u) : p ∈ prs ∨ p.2 = u := by
  unfold aput at h
  split at h
  · obtain ⟨q, hq, e⟩ := List.mem_map.mp h
    split at e
    · exact .inr (by rw [← e])
    · exact .inl (e ▸ hq)
  · rcases List.mem_append.mp h with z | z
    · exact .inl z
    · exact .inr (by rw [List.mem_singleton.mp z])
theorem aput_len {prs : List (Int × α)} {i : Int} {u : α} : (aput prs i u).length ≤ prs.length + 1 := by
  unfold aput
  split <;> simp
theorem agt_of {prs : List (Int × α)} (hn : (prs.map (·.1)).Nodup) {p : Int × α} (h : p ∈ prs) : agt prs p.1 = some p.2 := by
  unfold agt
  induction prs with
  | nil => cases h
  | cons q r ih =>
    rw [List.map_cons, List.nodup_cons] at hn
    rcases List.mem_cons.mp h with rfl | h
    · simp
    · have c : q.1 ≠ p.1 := fun e => hn.1 (List.mem_map.mpr ⟨p, h, e.symm⟩)
      rw [List.find?_cons_of_neg (by simpa using c)]
      exact ih hn.2 h
theorem agt_mem {prs : List (Int × α)} {i : Int} {u : α} (h : agt prs i = some u) : (i, u) ∈ prs := by
  unfold agt at h
  rw [Option.map_eq_some_iff] at h
  obtain ⟨p, h1, h2⟩ := h
  have h3 := List.mem_of_find?_eq_some h1
  have h4 := List.find?_some h1
  have h5 : p.1 = i := of_decide_eq_true h4
  rw [← h2, ← h5]
  exact h3
end
/-! measures -/
def szD (u : Tm) : D := .tup [.int u.dep, .int u.size]
def measB : List EW.S := [.asg (.v 5) (.call "measures" [(.v 4), (.v 1)]),
    .asg (.v 2) (.bi .max [(.v 2), (.idx (.v 5) (.k (.int 0)))]),
    .aug 3 .Add (.idx (.v 5) (.k (.int 1)))]
def fMeas : Fd := ⟨2, 6, 
  [.ife (.call "is_whole" [(.v 0)])
     [.ret (.meth "get" (.v 1) [(.v 0), (.tup [(.k (.int 1)), (.k (.int 1))])])]
     [],
  .asg (.v 2) (.k (.int 0)),
  .asg (.v 3) (.k (.int 1)),
  .for_ (.v 4) (.sl (.v 0) (.k (.int 1)) .no) measB,
  .ret (.tup [(.bin .Add (.k (.int 1)) (.v 2)), (.v 3)])], []⟩
theorem deps_app (as bs : List Tm) : Tm.deps (as ++ bs) = max (Tm.deps as) (Tm.deps bs) := by
  induction as with
  | nil => simp [Tm.deps]
  | cons a r ih => rw [List.cons_append, Tm.deps, Tm.deps, ih, Nat.max_assoc]
theorem take_map {α β : Type} (g : α → β) (xs : List α) (i : Nat) (hi : i < xs.length) : (xs.take (i + 1)).map g = (xs.take i).map g ++ [g xs[i]] := by
  rw [List.take_succ_eq_append_getElem hi, List.map_append]
  rfl
section
variable {T : Tab}
theorem sp_meas (hw : T.fn "is_whole" = some fWhole) (hm : T.fn "measures" = some fMeas) (F : Int → Option Tm) (a : Nat) (h : List O) (kvs : List (D × D)) (ha : h[a]? = some (.dct false kvs)) (hF : ∀ i, dget false kvs (.int i) = (F i).map szD) :
    ∀ (k : Nat) (t : Tm) (n : Nat), t.dep ≤ k → callN T (n + k + 1) "measures" [t.d, .ref a] h = .ok (.d (szD (fill F t))) h
  | 0, t, n, hk => by
    have := dep_pos t
    omega
  | k + 1, .bl i, n, hk => by
    have e1 := sp_wh hw (n + k) (.bl i) h
    have e3 : ((dget false kvs (.int i)).getD (.tup [.int 1, .int 1])) = szD (fill F (.bl i)) := by
      rw [hF i, fill]
      cases F i with
      | none => simp [szD, Tm.dep, Tm.size]
      | some u => rfl
    have e4 := set_same ha
    rw [show n + (k + 1) + 1 = (n + k + 1) + 1 by omega, callN_run T (n + k + 1) h (fd := fMeas) hm rfl rfl, runB_end]
    rw [d_bl] at e1 ⊢
    generalize szD (fill F (.bl i)) = z at e3 ⊢
    simp [fMeas, startS, e1, isBl, ha, kI_some, e3, e4, mkTup, lim]
  | k + 1, .mk f ts, n, hk => by
    rw [dep_mk] at hk
    have e1 := sp_wh hw (n + k) (.mk f ts) h
    obtain ⟨s', e, s4, s5, rfl⟩ := for_data (G := gam T (n + k + 1)) (tg := .v 4) (src := .sl (.v 0) (.k (.int 1)) .no) (b := measB) (st := ⟨[.d (Tm.mk f ts).d, .d (.ref a), .d (.int 0), .d (.int 1), .un, .un], h⟩) (st1 := ⟨[.d (Tm.mk f ts).d, .d (.ref a), .d (.int 0), .d (.int 1), .un, .un], h⟩)
      (v := .d (.tup (ts.map Tm.d))) (xs := ts.map Tm.d) (by simp [d_mk]) (fun s => by simp [items_d]) rfl
      (fun i s => ∃ s4 s5, s = ⟨[.d (Tm.mk f ts).d, .d (.ref a), .d (.int (Tm.deps ((ts.take i).map (fill F)))), .d (.int ((1 + Tm.sizes ((ts.take i).map (fill F)) : Nat) : Int)), s4, s5], h⟩) ⟨.un, .un, rfl⟩ (fun i hi s ⟨s4, s5, es⟩ => by
        subst es
        rw [List.length_map] at hi
        have hu : ts[i] ∈ ts := List.getElem_mem hi
        have h1 := dep_le hu
        have ih := sp_meas hw hm F a h kvs ha hF k ts[i] n (by omega)
        have m1 : Tm.deps ((ts.take (i + 1)).map (fill F)) = max (Tm.deps ((ts.take i).map (fill F))) (fill F ts[i]).dep := by
          rw [take_map _ _ _ hi, deps_app]
          simp [Tm.deps]
        have m2 : Tm.sizes ((ts.take (i + 1)).map (fill F)) = Tm.sizes ((ts.take i).map (fill F)) + (fill F ts[i]).size := by
          rw [take_map _ _ _ hi, sizes_app]
          simp [Tm.sizes]
        refine ⟨_, ⟨[.d (Tm.mk f ts).d, .d (.ref a), .d (.int (Tm.deps ((ts.take (i + 1)).map (fill F)))), .d (.int ((1 + Tm.sizes ((ts.take (i + 1)).map (fill F)) : Nat) : Int)), .d ts[i].d, .d (szD (fill F ts[i]))], h⟩, by rw [List.getElem_map]; rfl, .inl ?_, _, _, rfl⟩
        rw [m1, m2]
        generalize Tm.deps ((ts.take i).map (fill F)) = A
        generalize Tm.sizes ((ts.take i).map (fill F)) = B
        generalize fill F ts[i] = u at ih ⊢
        have c1 : (if (u.dep : Int) > (A : Int) then (u.dep : Int) else (A : Int)) = ((max A u.dep : Nat) : Int) := by split <;> (congr 1 ; omega)
        have c2 : ((1 + B : Nat) : Int) + (u.size : Int) = ((1 + (B + u.size) : Nat) : Int) := by omega
        rw [← c1, ← c2]
        generalize ((1 + B : Nat) : Int) = B'
        unfold szD at ih ⊢
        simp [measB, St.set, ih])
    rw [show n + (k + 1) + 1 = (n + k + 1) + 1 by omega, callN_run T (n + k + 1) h (fd := fMeas) hm rfl rfl, runB_end]
    rw [List.length_map, List.take_length, ← fills_map] at e
    have eg : szD (fill F (.mk f ts)) = .tup [.int (1 + (Tm.deps (fills F ts) : Int)), .int ((1 + Tm.sizes (fills F ts) : Nat) : Int)] := by
      rw [fill, szD, dep_mk, size_mk]
      congr 3
    rw [eg]
    generalize ((1 + Tm.sizes (fills F ts) : Nat) : Int) = B at e ⊢
    generalize (Tm.deps (fills F ts) : Int) = A at e ⊢
    rw [d_mk] at e1 e ⊢
    simp [fMeas, startS, e1, isBl, e, mkTup, lim]
/-! filled -/
def fillB : List EW.S := [.sub (.v 2) (.v 3) (.tup [(.call "levels" [(.v 4)]), (.call "count_parts" [(.v 4)])])]
def fFill : Fd := ⟨2, 7, 
  [.asg (.v 2) (.dct false [] []),
  .fori (.tup [(.v 3), (.v 4)]) 1 fillB,
  .asg (.tup [(.v 5), (.v 6)]) (.call "measures" [(.v 0), (.v 2)]),
  .ife (.or (.cmp .Gt (.v 5) (.g "MOST_LEVELS" (.int 60))) (.cmp .Gt (.v 6) (.g "MOST_PARTS" (.int 1000))))
     [.rse "TooGreat"]
     [],
  .ret (.call "filled_in" [(.v 0), (.v 1)])], []⟩
structure FFns (T : Tab) : Prop where
  w : T.fn "is_whole" = some fWhole
  l : T.fn "levels" = some fLevels
  c : T.fn "count_parts" = some fCount
  m : T.fn "measures" = some fMeas
  i : T.fn "filled_in" = some fFilled
  f : T.fn "filled" = some fFill
/-- a filling: unlike blanks, terms -/
structure Flg (k : Nat) (prs : List (Int × Tm)) : Prop where
  nd : (prs.map (·.1)).Nodup
  ok : ∀ p ∈ prs, p.2.ok ∧ p.2.dep ≤ k
  len : prs.length ≤ 1000
theorem size_loop (TF : FFns T) (k n : Nat) (prs : List (Int × Tm)) (w : Flg k prs) (t : Tm) (a : Nat) (h : List O) (ha : h[a]? = some (.dct false (kvD Tm.d prs))) :
    ∃ s3 s4, ex (gam T (n + k + 1)) (.fori (.tup [(.v 3), (.v 4)]) 1 fillB) ⟨[.d t.d, .d (.ref a), .o (.dct false []), .un, .un, .un, .un], h⟩ = .ok .nx ⟨[.d t.d, .d (.ref a), .o (.dct false (kvD szD prs)), s3, s4, .un, .un], h⟩ := by
  have b0 : (Sl.d t.d).bare = true := tm_ltF 0 t
  have b1 : (Sl.d (.ref a)).bare = false := by simp [Sl.bare, D.lt]
  have b2 : (Sl.o (.dct false [])).bare = true := by simp [Sl.bare, O.lt]
  have em : maskS [Sl.d t.d, .d (.ref a), .o (.dct false []), .un, .un, .un, .un] = [.d t.d, .un, .o (.dct false []), .un, .un, .un, .un] := by
    simp only [maskS, List.map_cons, List.map_nil, b0, b1, b2, if_true]
    rfl
  obtain ⟨s', e, s3, s4, rfl⟩ := fori_inv (gam T (n + k + 1)) ⟨[.d t.d, .d (.ref a), .o (.dct false []), .un, .un, .un, .un], h⟩ (tg := .tup [(.v 3), (.v 4)]) (i := 1) (a := a) (b := fillB) (kvs := kvD Tm.d prs) rfl ha
    (by
      unfold kvD
      rw [List.all_map, List.all_eq_true]
      exact fun p _ => by simp [D.lt, tm_ltF]) (by simp [Tg.vars, Tg.varss, S.asgss, S.asgs, fillB, asideB, Sl.bare])
    (fun i s => ∃ s3 s4, s = ⟨[.d t.d, .un, .o (.dct false (kvD szD (prs.take i))), s3, s4, .un, .un], []⟩) (by rw [em]; exact ⟨.un, .un, rfl⟩) (fun j p s hp ⟨s3, s4, es⟩ => by
      subst es
      unfold kvD at hp
      rw [List.getElem?_map] at hp
      cases q : prs[j]? with
      | none =>
        rw [q] at hp
        cases hp
      | some r =>
        rw [q] at hp
        cases hp
        obtain ⟨hj, er⟩ := List.getElem?_eq_some_iff.mp q
        obtain ⟨o1, o2⟩ := w.ok r (List.mem_of_getElem? q)
        have e1 : callN T (n + k + 1) "levels" [r.2.d] [] = _ := sp_levels TF.w TF.l k r.2 n [] o2 o1
        have e2 : callN T (n + k + 1) "count_parts" [r.2.d] [] = _ := sp_count TF.w TF.c k r.2 n [] o2 o1
        have et : prs.take (j + 1) = prs.take j ++ [r] := by rw [List.take_succ_eq_append_getElem hj, er]
        have nk : r.1 ∉ (prs.take j).map (·.1) := fun z => by
          have nd := w.nd
          have e3 : prs = prs.take j ++ r :: prs.drop (j + 1) := by
            have := List.take_append_drop j prs
            rw [List.drop_eq_getElem_cons hj, er] at this
            exact this.symm
          rw [e3, List.map_append, List.nodup_append] at nd
          exact nd.2.2 _ z _ (by simp) rfl
        have ep : dput false (kvD szD (prs.take j)) (.int r.1) (szD r.2) = kvD szD (prs.take (j + 1)) := by rw [kvD_put, aput_new nk, et]
        have hl : (kvD szD (prs.take j)).length < 1000000 := by
          rw [kvD_len, List.length_take]
          have := w.len
          omega
        refine ⟨⟨[.d t.d, .un, .o (.dct false (kvD szD (prs.take j))), .d (.int r.1), .d r.2.d, .un, .un], []⟩, ⟨[.d t.d, .un, .o (.dct false (kvD szD (prs.take (j + 1)))), .d (.int r.1), .d r.2.d, .un, .un], []⟩, rfl, .inl ?_, _, _, rfl⟩
        rw [← ep]
        generalize kvD szD (prs.take j) = K at hl ⊢
        generalize t.d = td
        unfold szD
        generalize r.2.d = rd' at e1 e2 ⊢
        simp [fillB, e1, e2, mkTup, lim, hl, kI_some]) (fun s ⟨s3, s4, es⟩ => by
      subst es
      exact ⟨rfl, rfl⟩)
  rw [kvD_len, List.take_length] at e
  refine ⟨s3, s4, e.trans ?_⟩
  simp only [unmS, b0, b1, b2, if_true]
  rfl
theorem sp_fill (TF : FFns T) (k n : Nat) (prs : List (Int × Tm)) (w : Flg k prs) (t : Tm) (a : Nat) (h : List O) (ha : h[a]? = some (.dct false (kvD Tm.d prs))) (ht : t.dep ≤ k) (hs : t.size ≤ 100000) :
    callN T (n + k + 2) "filled" [t.d, .ref a] h = if (fill (agt prs) t).dep > 60 ∨ (fill (agt prs) t).size > 1000 then .ex "TooGreat" h else .ok (.d (fill (agt prs) t).d) h := by
  obtain ⟨s3, s4, e1⟩ := size_loop TF k n prs w t a h ha
  obtain ⟨h', eh⟩ : ∃ h', h' = h ++ [O.dct false (kvD szD prs)] := ⟨_, rfl⟩
  have g1 : h'[h.length]? = some (.dct false (kvD szD prs)) := by rw [eh]; simp
  have g2 : h'[a]? = some (.dct false (kvD Tm.d prs)) := by
    rw [eh, List.getElem?_append_left (List.getElem?_eq_some_iff.mp ha).1, ha]
  have e2 : callN T (n + k + 1) "measures" [t.d, .ref h.length] h' = _ := sp_meas TF.w TF.m (agt prs) h.length h' _ g1 (fun i => kvD_get prs i) k t n ht
  have e3 : callN T (n + k + 1) "filled_in" [t.d, .ref a] h' = _ := sp_filled TF.w TF.i (agt prs) a h' _ g2 (fun i => kvD_get prs i) k t n ht hs
  have q1 : ex (gam T (n + k + 1)) (.asg (.v 2) (.dct false [] [])) ⟨[.d t.d, .d (.ref a), .un, .un, .un, .un, .un], h⟩ = .ok .nx ⟨[.d t.d, .d (.ref a), .o (.dct false []), .un, .un, .un, .un], h⟩ := by
    generalize t.d = td
    simp
  have q2 : ex (gam T (n + k + 1)) (.asg (.tup [(.v 5), (.v 6)]) (.call "measures" [(.v 0), (.v 2)])) ⟨[.d t.d, .d (.ref a), .o (.dct false (kvD szD prs)), s3, s4, .un, .un], h⟩ = .ok .nx ⟨[.d t.d, .d (.ref a), .d (.ref h.length), s3, s4, .d (.int (fill (agt prs) t).dep), .d (.int (fill (agt prs) t).size)], h'⟩ := by
    have w1 : toDs [.d t.d, .pl 2] ⟨[.d t.d, .d (.ref a), .o (.dct false (kvD szD prs)), s3, s4, .un, .un], h⟩ = some ([t.d, .ref h.length], ⟨[.d t.d, .d (.ref a), .d (.ref h.length), s3, s4, .un, .un], h'⟩) := by
      simp [toDs, toD, eh]
    unfold szD at e2
    generalize kvD szD prs = K at w1 ⊢
    generalize t.d = td at e2 w1 ⊢
    simp [w1, e2]
  rw [show n + k + 2 = (n + k + 1) + 1 by omega, callN_run T (n + k + 1) h (fd := fFill) TF.f rfl rfl, runB_end]
  show gc h (endB (exs _ [_, _, _, _, _] ⟨[.d t.d, .d (.ref a), .un, .un, .un, .un, .un], h⟩)) = _
  rw [exs_cons, q1]
  simp only [Out.bind_ok, thn_nx]
  rw [exs_cons, e1]
  simp only [Out.bind_ok, thn_nx]
  rw [exs_cons, q2]
  simp only [Out.bind_ok, thn_nx]
  have lt' := tm_ltF h.length (fill (agt prs) t)
  generalize fill (agt prs) t = u at e3 lt' ⊢
  generalize t.d = td at e3 ⊢
  have nr : ∀ a, u.d ≠ .ref a := fun a e => by
    cases u with
    | bl i => rw [d_bl] at e; cases e
    | mk f ts => rw [d_mk] at e; cases e
  by_cases c : u.dep > 60 ∨ u.size > 1000
  · rw [if_pos c]
    have x : exs (gam T (n + k + 1)) [.ife (.or (.cmp .Gt (.v 5) (.g "MOST_LEVELS" (.int 60))) (.cmp .Gt (.v 6) (.g "MOST_PARTS" (.int 1000))))
     [.rse "TooGreat"]
     [], .ret (.call "filled_in" [(.v 0), (.v 1)])] ⟨[.d td, .d (.ref a), .d (.ref h.length), s3, s4, .d (.int u.dep), .d (.int u.size)], h'⟩ = .ex "TooGreat" ⟨[.d td, .d (.ref a), .d (.ref h.length), s3, s4, .d (.int u.dep), .d (.int u.size)], h'⟩ := by
      rcases c with c | c
      · have c' : (60 : Int) < u.dep := by omega
        simp [c']
      · have c' : (1000 : Int) < u.size := by omega
        by_cases d : (60 : Int) < u.dep <;> simp [c', d]
    rw [x, endB_ex, eh]
    exact gc_exE h _ _
  · rw [if_neg c]
    have c1 : ¬ (60 : Int) < u.dep := by omega
    have c2 : ¬ (1000 : Int) < u.size := by omega
    have x : exs (gam T (n + k + 1)) [.ife (.or (.cmp .Gt (.v 5) (.g "MOST_LEVELS" (.int 60))) (.cmp .Gt (.v 6) (.g "MOST_PARTS" (.int 1000))))
     [.rse "TooGreat"]
     [], .ret (.call "filled_in" [(.v 0), (.v 1)])] ⟨[.d td, .d (.ref a), .d (.ref h.length), s3, s4, .d (.int u.dep), .d (.int u.size)], h'⟩ = .ok (.rt (.d u.d)) ⟨[.d td, .d (.ref a), .d (.ref h.length), s3, s4, .d (.int u.dep), .d (.int u.size)], h'⟩ := by
      simp [c1, c2, e3]
    rw [x, endB_rt, eh]
    exact gc_ext h _ _ nr lt'
end
end EW.PT

-- part: DrawT
set_option maxHeartbeats 2000000
/-! names and terms, drawn from numbers by divmod -/
namespace EW.TT
open PySem EW
abbrev bigS : Int := 10000000000000000000000000000000000000121
abbrev bigM : Int := 1000000000000000000000000000057
def cSpread : Fd := ⟨2, 3, 
  [.asg (.v 2) (.bin .Add (.bin .Pow (.k (.int 10)) (.k (.int 40))) (.k (.int 121))),
  .ret (.bin .Mod (.bin .Add (.bin .Mult (.bin .Mod (.v 0) (.v 2)) (.k (.int 31415926535897932384626433832795))) (.bin .Mult (.bin .Add (.bin .Add (.bin .Mult (.v 1) (.v 1)) (.bin .Mult (.k (.int 3)) (.v 1))) (.k (.int 7))) (.k (.int 2718281828459045235360287471)))) (.v 2))], []⟩
theorem sm_le {i b : Int} (h0 : 0 ≤ i) (h1 : i < b) (hb : sm b) : sm i := by
  unfold sm at *
  omega
theorem sp_spread {T : Tab} (hT : T.fn "_law_spread" = some cSpread) (n : Nat) (h : List O) (x k : Int) (k0 : 0 ≤ k) (k1 : k ≤ 1000) : ∃ g : Int, callN T (n + 1) "_law_spread" [.int x, .int k] h = .ok (.d (.int g)) h ∧ 0 ≤ g ∧ g < bigS := by
  refine ⟨(x % bigS * 31415926535897932384626433832795 + (k * k + 3 * k + 7) * 2718281828459045235360287471) % bigS, ?_, Int.emod_nonneg _ (by decide), Int.emod_lt_of_pos _ (by decide)⟩
  have kk : 0 ≤ k * k := Int.mul_nonneg k0 k0
  have kk2 : k * k ≤ 1000 * 1000 := Int.mul_le_mul k1 k1 k0 (by decide)
  have s1 : sm k := sm_le k0 (show k < 1001 by omega) (by decide)
  have s2 : sm (x % bigS) := sm_le (Int.emod_nonneg _ (by decide)) (Int.emod_lt_of_pos _ (by decide)) (by decide)
  have s3 : sm (k * k + 3 * k + 7) := sm_le (by omega) (show k * k + 3 * k + 7 < 2000000 by omega) (by decide)
  have s4 : sm 31415926535897932384626433832795 := by decide
  have s5 : sm 2718281828459045235360287471 := by decide
  have s6 : sm 3 := by decide
  rw [callN_run T n h hT rfl rfl, runB_end]
  simp [cSpread, startS, s1, s2, s3, s4, s5, s6]
def cMixed : Fd := ⟨2, 3, 
  [.asg (.v 2) (.bin .Mod (.bin .Add (.bin .Mult (.v 0) (.k (.int 69621))) (.bin .Mult (.bin .Add (.v 1) (.k (.int 1))) (.k (.int 1000003)))) (.bin .Add (.bin .Pow (.k (.int 10)) (.k (.int 30))) (.k (.int 57)))),
  .ret (.bin .Mod (.bin .Mult (.v 2) (.v 2)) (.bin .Add (.bin .Pow (.k (.int 10)) (.k (.int 30))) (.k (.int 57))))], []⟩
theorem sp_mixed {T : Tab} (hT : T.fn "_law_mixed" = some cMixed) (n : Nat) (h : List O) (x k : Int) (x0 : 0 ≤ x) (x1 : x < bigS) (k0 : 0 ≤ k) (k1 : k ≤ 1000) : ∃ g : Int, callN T (n + 1) "_law_mixed" [.int x, .int k] h = .ok (.d (.int g)) h ∧ 0 ≤ g ∧ g < bigS := by
  refine ⟨(x * 69621 + (k + 1) * 1000003) % bigM * ((x * 69621 + (k + 1) * 1000003) % bigM) % bigM, ?_, Int.emod_nonneg _ (by decide), Int.lt_trans (Int.emod_lt_of_pos _ (by decide)) (by decide)⟩
  have s1 : sm x := sm_le x0 x1 (by decide)
  have s2 : sm (k + 1) := sm_le (by omega) (show k + 1 < 1002 by omega) (by decide)
  have s3 : sm 69621 := by decide
  have s4 : sm 1000003 := by decide
  have s5 : sm ((x * 69621 + (k + 1) * 1000003) % bigM) := sm_le (Int.emod_nonneg _ (by decide)) (Int.emod_lt_of_pos _ (by decide)) (by decide)
  rw [callN_run T n h hT rfl rfl, runB_end]
  simp [cMixed, startS, s1, s2, s3, s4, s5]
theorem rangeD_map (n : Nat) : rangeD 0 n = (List.range n).map fun i => D.int (i : Nat) := by
  apply List.ext_getElem?
  intro i
  by_cases hi : i < n
  · rw [rangeD_get n 0 i hi, List.getElem?_map, List.getElem?_range hi]
    simp
  · rw [List.getElem?_eq_none (by rw [rangeD_length]; omega), List.getElem?_eq_none (by simp; omega)]
/-! names -/
def n2B : List EW.S := [.asg (.tup [(.v 0), (.v 6)]) (.bi .divmod [(.v 0), (.k (.int 26))]),
    .asg (.v 4) (.bin .Add (.v 4) (.idx (.v 1) (.v 6)))]
def n2E : E := .bin .Add (.bin .Add (.sl (.v 4) .no (.v 3)) (.idx (.v 1) (.bin .Mod (.bin .Add (.v 0) (.bin .Mult (.k (.int 5)) (.v 5))) (.k (.int 26))))) (.sl (.v 4) (.bin .Add (.v 3) (.k (.int 1))) .no)
def cNames2 : Fd := ⟨1, 7, 
  [.asg (.v 1) (.k (.str "abcdefghijklmnopqrstuvwxyz")),
  .asg (.tup [(.v 0), (.v 2)]) (.bi .divmod [(.v 0), (.k (.int 8))]),
  .asg (.tup [(.v 0), (.v 3)]) (.bi .divmod [(.v 0), (.bin .Add (.v 2) (.k (.int 1)))]),
  .asg (.v 4) (.k (.str "")),
  .for_ (.v 5) (.it .range [(.bin .Add (.v 2) (.k (.int 1)))]) n2B,
  .ret (.lc n2E (.v 5) (.it .range [(.k (.int 5))]) .no)], []⟩
theorem sp_names2 {T : Tab} (hT : T.fn "_law_names" = some cNames2) (n : Nat) (c : Int) (h : List O) (h0 : 0 ≤ c) (h1 : c < bigS) : ∃ ns : List Str, callN T (n + 1) "_law_names" [.int c] h = .ok (.o (.lst (dNames ns))) h ∧ ns.length = 5 ∧ ∀ x ∈ ns, Nm x := by
  have sc : sm c := sm_le h0 h1 (by decide)
  obtain ⟨sz, hsz, z1⟩ : ∃ w : Nat, c % 8 = (w : Int) ∧ w ≤ 7 := ⟨(c % 8).toNat, by omega, by omega⟩
  obtain ⟨c1, hc1⟩ : ∃ c1, c1 = c / 8 := ⟨_, rfl⟩
  have c10 : 0 ≤ c1 := by omega
  have c11 : c1 < bigS := by omega
  have sc1 : sm c1 := sm_le c10 c11 (by decide)
  have hdv : 0 ≤ c1 / ((sz : Int) + 1) := Int.ediv_nonneg c10 (by omega)
  have hdl : c1 / ((sz : Int) + 1) ≤ c1 := Int.ediv_le_self _ c10
  have hm0 : 0 ≤ c1 % ((sz : Int) + 1) := Int.emod_nonneg _ (by omega)
  have hm1 : c1 % ((sz : Int) + 1) < (sz : Int) + 1 := Int.emod_lt_of_pos _ (by omega)
  obtain ⟨p, hp, p1⟩ : ∃ w : Nat, c1 % ((sz : Int) + 1) = (w : Int) ∧ w ≤ sz := ⟨(c1 % ((sz : Int) + 1)).toNat, by omega, by omega⟩
  obtain ⟨c2, hc2⟩ : ∃ c2, c2 = c1 / ((sz : Int) + 1) := ⟨_, rfl⟩
  rw [← hc2] at hdv hdl
  have l4 := letters_len
  obtain ⟨s', e, m', f, s5, s6, rfl, ⟨m0, m1⟩, hf⟩ := for_range (G := gam T n) (k := 5) (src := .it .range [(.bin .Add (.v 2) (.k (.int 1)))]) (b := n2B) (st := ⟨[.d (.int c2), .d (.str letters), .d (.int sz), .d (.int p), .d (.str (Str.ofString "")), .un, .un], h⟩) (p := sz + 1) (by simp) (by omega)
    (fun i s => ∃ (m' : Int) (f : Str) (s5 s6 : Sl), s = ⟨[.d (.int m'), .d (.str letters), .d (.int sz), .d (.int p), .d (.str f), s5, s6], h⟩ ∧ (0 ≤ m' ∧ m' < bigS) ∧ Lw i f) ⟨c2, _, _, _, rfl, ⟨hdv, by omega⟩, Lw.nil⟩ (fun i s hi ⟨m', f, s5, s6, e, ⟨m0, m1⟩, h1⟩ => by
      subst e
      obtain ⟨ch, hch, hch2⟩ := letter_at (m' % 26) (by omega) (by omega)
      have w := h1.app (Lw.one hch2)
      have l1 := h1.1
      have l2 : f.length + 1 ≤ 1000000 := by omega
      have l3 : Str.length ⟨#[ch]⟩ = 1 := rfl
      have bm := bits_ok (sm_le m0 m1 (by decide)) 26
      refine ⟨⟨[.d (.int (m' / 26)), .d (.str letters), .d (.int sz), .d (.int p), .d (.str (f ++ ⟨#[ch]⟩)), .d (.int i), .d (.int (m' % 26))], h⟩, .inl ?_, _, _, _, _, rfl, ⟨by omega, by omega⟩, w⟩
      simp [n2B, hch, lim, l2, l3, l4, bm])
  have lt := fun k : Nat => letter_at ((m' + 5 * (k : Int)) % 26) (by omega) (by omega)
  obtain ⟨g, hg⟩ : ∃ g : Nat → Nat, ∀ k : Nat, L2.atI letters.cps.toList ((m' + 5 * (k : Int)) % 26) = some (g k) ∧ 97 ≤ g k ∧ g k ≤ 122 := ⟨fun k => Classical.choose (lt k), fun k => Classical.choose_spec (lt k)⟩
  obtain ⟨nm, enm⟩ : ∃ nm : Nat → Str, nm = fun k => ⟨(cut f.cps.toList none (some (p : Int))).toArray⟩ ++ ⟨#[g k]⟩ ++ ⟨(cut f.cps.toList (some ((p : Int) + 1)) none).toArray⟩ := ⟨_, rfl⟩
  have ep : ((p + 1 : Nat) : Int) = (p : Int) + 1 := by omega
  have t1 := (hf.take p).1
  have t2 := (hf.drop (p + 1)).1
  have lf := hf.1
  have hnm : ∀ k, Lw (sz + 1) (nm k) := fun k => by
    have w1 := (hf.take p).app (Lw.one (hg k).2)
    have w2 := w1.app (hf.drop (p + 1))
    have ew : min p (sz + 1) + 1 + (sz + 1 - (p + 1)) = sz + 1 := by omega
    rw [ew, ep] at w2
    rw [enm]
    exact w2
  rw [ep] at t2
  have lf2 : f.length ≤ 1000000 := by omega
  have s7 : sm 5 := by decide
  have lc := fun (s5 : Sl) => ev_map (G := gam T n) (elt := n2E) (src := .it .range [(.k (.int 5))]) (tg := .v 5) (st := ⟨[.d (.int m'), .d (.str letters), .d (.int sz), .d (.int p), .d (.str f), s5, s6], h⟩) (st1 := ⟨[.d (.int m'), .d (.str letters), .d (.int sz), .d (.int p), .d (.str f), s5, s6], h⟩) (v := .it .range [.d (.int 5)]) (List.range 5) (fun i => D.int (i : Nat)) (fun k => .str (nm k))
    (by simp) (by simp [items, lim, ← rangeD_map]) (by simp [lim]) rfl (fun k hk => ⟨⟨[.d (.int m'), .d (.str letters), .d (.int sz), .d (.int p), .d (.str f), .d (.int k), s6], h⟩, rfl, by
      have hk5 : k < 5 := List.mem_range.mp hk
      have sk : sm (k : Int) := sm_of (by omega) (by omega)
      have gk := (hg k).1
      have l5 : Str.length ⟨#[g k]⟩ = 1 := rfl
      have w1 := ((hf.take p).app (Lw.one (hg k).2)).1
      have q1 : Str.length ⟨(cut f.cps.toList none (some (p : Int))).toArray⟩ + 1 ≤ 1000000 := by omega
      have q2 : Str.length (⟨(cut f.cps.toList none (some (p : Int))).toArray⟩ ++ ⟨#[g k]⟩) + Str.length ⟨(cut f.cps.toList (some ((p : Int) + 1)) none).toArray⟩ ≤ 1000000 := by omega
      rw [enm]
      simp [n2E, lim, gk, l4, lf2, s7, sk, q1, q2, l5], by simp [wst, wipeS, Tg.vars]⟩)
  refine ⟨(List.range 5).map nm, ?_, by simp, fun x hx => ?_⟩
  · have bc := bits_ok sc 8
    have bc1 := bits_ok sc1 ((sz : Int) + 1)
    have hpos : (0 : Int) < (sz : Int) + 1 := by omega
    have en : dNames ((List.range 5).map nm) = (List.range 5).map fun k => D.str (nm k) := by simp [dNames]
    rw [callN_run T n h hT rfl rfl, runB_end, en]
    generalize ((List.range 5).map fun k => D.str (nm k)) = B at lc ⊢
    rw [hc1] at bc1 hp hc2
    have el : letters = Str.ofString "abcdefghijklmnopqrstuvwxyz" := rfl
    rw [el] at e lc
    simp [cNames2, startS, bc, hsz, bc1, hpos, hp, ← hc2, e, lc]
  · obtain ⟨k, _, rfl⟩ := List.mem_map.mp hx
    exact (hnm k).nm (by omega) (by omega)
end EW.TT

-- part: DrawU
set_option maxHeartbeats 2000000
/-! terms drawn by divmod -/
namespace EW.TT
open PySem EW EW.PT
def cTerm2 (M : Int) : Fd := ⟨4, 8, 
  [.asg (.tup [(.v 0), (.v 4)]) (.bi .divmod [(.v 0), (.k (.int 5))]),
  .ife (.or (.cmp .Eq (.v 4) (.k (.int 0))) (.and (.cmp .Eq (.v 2) (.k (.int 0))) (.cmp .Lt (.v 4) (.k (.int 3)))))
     [.ret (.idx (.v 3) (.bin .Mod (.v 0) (.bi .len [(.v 3)])))]
     [],
  .asg (.tup [(.v 0), (.v 5)]) (.bi .divmod [(.v 0), (.k (.int 5))]),
  .asg (.tup [(.v 0), (.v 6)]) (.bi .divmod [(.v 0), (.k (.int 4))]),
  .ife (.and (.cmp .Eq (.v 2) (.k (.int 1))) (.cmp .Eq (.bin .Mod (.v 0) (.k (.int 8))) (.k (.int 1))))
     [.asg (.v 6) (.bin .Add (.k (.int 4)) (.bin .Mod (.bin .FloorDiv (.v 0) (.k (.int 8))) (.k (.int M))))]
     [],
  .ife (.cmp .Eq (.v 2) (.k (.int 0)))
     [.asg (.v 6) (.k (.int 0))]
     [],
  .ret (.bi .tuple [(.bin .Add (.lst [(.idx (.v 1) (.v 5))]) (.lc (.call "_law_term" [(.call "_law_mixed" [(.v 0), (.v 7)]), (.v 1), (.bin .Sub (.v 2) (.k (.int 1))), (.v 3)]) (.v 7) (.it .range [(.v 6)]) .no))])], []⟩
/-- three blanks -/
def Free (fs : List Int) : Prop := fs.length = 3 ∧ ∀ i ∈ fs, 0 ≤ i ∧ i ≤ 999
theorem freeAt {fs : List Int} (w : Free fs) (i : Int) (h0 : 0 ≤ i) (h1 : i < 3) : ∃ x, L2.atI (fs.map D.int) i = some (.int x) ∧ 0 ≤ x ∧ x ≤ 999 ∧ x ∈ fs := by
  refine ⟨fs[i.toNat]'(by have := w.1; omega), ?_, (w.2 _ (List.getElem_mem _)).1, (w.2 _ (List.getElem_mem _)).2, List.getElem_mem _⟩
  rw [atI_int _ _ h0 (by rw [List.length_map]; have := w.1; omega)]
  simp
theorem bkss_mem {i : Int} : ∀ {ts : List Tm}, i ∈ bkss ts ↔ ∃ t ∈ ts, i ∈ bks t
  | [] => by simp [bkss]
  | t :: ts => by
    rw [bkss, List.mem_append, bkss_mem]
    simp
section
variable {T : Tab}
theorem term2_one {M : Int} (hM : 1 ≤ M ∧ M ≤ 6) (hT : T.fn "_law_term" = some (cTerm2 M)) (hm : T.fn "_law_mixed" = some cMixed) (a b : Nat) (ns : List Str) (fs : List Int) (h : List O) (ha : h[a]? = some (.lst (dNames ns))) (hl : ns.length = 5) (hns : ∀ x ∈ ns, Nm x) (hb : h[b]? = some (.lst (fs.map D.int))) (hf : Free fs)
    (d N : Nat) (num : Int) (n0 : 0 ≤ num) (n1 : num < bigS) (rec : d = 0 ∨ ∀ num' : Int, 0 ≤ num' → num' < bigS → ∃ t : Tm, callN T (N + 1) "_law_term" [.int num', .ref a, .int ((d : Int) - 1), .ref b] h = .ok (.d t.d) h ∧ t.ok ∧ t.dep ≤ d ∧ t.size ≤ 10 ^ (d - 1) ∧ ∀ i ∈ bks t, i ∈ fs) :
    ∃ t : Tm, callN T (N + 2) "_law_term" [.int num, .ref a, .int d, .ref b] h = .ok (.d t.d) h ∧ t.ok ∧ t.dep ≤ d + 1 ∧ t.size ≤ 10 ^ d ∧ ∀ i ∈ bks t, i ∈ fs := by
  have b0 := bits_ok (sm_le n0 n1 (by decide)) 5
  obtain ⟨k, hk, k0, k5⟩ : ∃ k, k = num % 5 ∧ 0 ≤ k ∧ k < 5 := ⟨_, rfl, by omega, by omega⟩
  obtain ⟨m1, hm1⟩ : ∃ m, m = num / 5 := ⟨_, rfl⟩
  have m10 : 0 ≤ m1 ∧ m1 < bigS := by omega
  have b1 := bits_ok (sm_le m10.1 m10.2 (by decide)) 5
  obtain ⟨m2, hm2⟩ : ∃ m, m = m1 / 5 := ⟨_, rfl⟩
  have m20 : 0 ≤ m2 ∧ m2 < bigS := by omega
  have b2 := bits_ok (sm_le m20.1 m20.2 (by decide)) 4
  obtain ⟨m3, hm3⟩ : ∃ m, m = m2 / 4 := ⟨_, rfl⟩
  have m30 : 0 ≤ m3 ∧ m3 < bigS := by omega
  have lf : ((fs.map D.int).length : Int) = 3 := by rw [List.length_map, hf.1]; rfl
  have one : 1 ≤ 10 ^ d := Nat.one_le_pow _ _ (by omega)
  rw [callN_run T (N + 1) h hT rfl rfl, runB_end]
  have q1 : ex (gam T (N + 1)) (.asg (.tup [(.v 0), (.v 4)]) (.bi .divmod [(.v 0), (.k (.int 5))])) ⟨[.d (.int num), .d (.ref a), .d (.int d), .d (.ref b), .un, .un, .un, .un], h⟩ = .ok .nx ⟨[.d (.int m1), .d (.ref a), .d (.int d), .d (.ref b), .d (.int k), .un, .un, .un], h⟩ := by
    rw [hk, hm1]
    simp [b0]
  by_cases c : k = 0 ∨ (d = 0 ∧ k < 3)
  · obtain ⟨x, hx, x0, x1, xm⟩ := freeAt hf (m1 % 3) (by omega) (by omega)
    refine ⟨.bl x, ?_, ⟨x0, x1⟩, by rw [Tm.dep]; omega, by rw [Tm.size]; exact one, fun i hi => by rw [bks, List.mem_singleton] at hi; rw [hi]; exact xm⟩
    have q2 : ex (gam T (N + 1)) (.ife (.or (.cmp .Eq (.v 4) (.k (.int 0))) (.and (.cmp .Eq (.v 2) (.k (.int 0))) (.cmp .Lt (.v 4) (.k (.int 3)))))
     [.ret (.idx (.v 3) (.bin .Mod (.v 0) (.bi .len [(.v 3)])))]
     []) ⟨[.d (.int m1), .d (.ref a), .d (.int d), .d (.ref b), .d (.int k), .un, .un, .un], h⟩ = .ok (.rt (.d (.int x))) ⟨[.d (.int m1), .d (.ref a), .d (.int d), .d (.ref b), .d (.int k), .un, .un, .un], h⟩ := by
      generalize fs.map D.int = F at hb lf hx
      rcases c with c | ⟨c, c'⟩
      · subst c
        simp [hb, lf, hx]
      · subst c
        by_cases z : k = 0
        · subst z
          simp [hb, lf, hx]
        · simp [z, c', hb, lf, hx]
    show gc h (endB (exs _ [_, _, _, _, _, _, _] ⟨[.d (.int num), .d (.ref a), .d (.int d), .d (.ref b), .un, .un, .un, .un], h⟩)) = _
    rw [exs_cons, q1]
    simp only [Out.bind_ok, thn_nx]
    rw [exs_cons, q2]
    simp only [Out.bind_ok, thn_rt, endB_rt, d_bl]
    exact gc_d h _
  · obtain ⟨x, hx, _, nx⟩ := nameAt hl hns (m1 % 5) (by omega) (by omega)
    obtain ⟨c5, hc5⟩ : ∃ c5 : Int, c5 = if d = 1 ∧ m3 % 8 = 1 then 4 + m3 / 8 % M else m2 % 4 := ⟨_, rfl⟩
    have r5 : 0 ≤ m3 / 8 % M ∧ m3 / 8 % M < 6 := ⟨Int.emod_nonneg _ (by omega), by have := Int.emod_lt_of_pos (m3 / 8) (show 0 < M by omega); omega⟩
    have c50 : 0 ≤ c5 ∧ c5 ≤ 9 := by rw [hc5]; split <;> omega
    obtain ⟨cnt, hcnt, cz, c9⟩ : ∃ cnt : Nat, (if d = 0 then 0 else c5) = (cnt : Int) ∧ (d = 0 → cnt = 0) ∧ cnt ≤ 9 := by
      by_cases z : d = 0
      · exact ⟨0, by rw [if_pos z]; rfl, fun _ => rfl, by omega⟩
      · exact ⟨c5.toNat, by rw [if_neg z]; omega, fun y => absurd y z, by omega⟩
    have hM0 : 0 < M := by omega
    have q2 : ex (gam T (N + 1)) (.ife (.or (.cmp .Eq (.v 4) (.k (.int 0))) (.and (.cmp .Eq (.v 2) (.k (.int 0))) (.cmp .Lt (.v 4) (.k (.int 3)))))
     [.ret (.idx (.v 3) (.bin .Mod (.v 0) (.bi .len [(.v 3)])))]
     []) ⟨[.d (.int m1), .d (.ref a), .d (.int d), .d (.ref b), .d (.int k), .un, .un, .un], h⟩ = .ok .nx ⟨[.d (.int m1), .d (.ref a), .d (.int d), .d (.ref b), .d (.int k), .un, .un, .un], h⟩ := by
      have z1 : k ≠ 0 := fun z => c (.inl z)
      by_cases z2 : d = 0
      · have z3 : ¬ k < 3 := fun z => c (.inr ⟨z2, z⟩)
        subst z2
        simp [z1, z3]
      · simp [z1, z2]
    have q3 : ex (gam T (N + 1)) (.asg (.tup [(.v 0), (.v 5)]) (.bi .divmod [(.v 0), (.k (.int 5))])) ⟨[.d (.int m1), .d (.ref a), .d (.int d), .d (.ref b), .d (.int k), .un, .un, .un], h⟩ = .ok .nx ⟨[.d (.int m2), .d (.ref a), .d (.int d), .d (.ref b), .d (.int k), .d (.int (m1 % 5)), .un, .un], h⟩ := by
      rw [hm2]
      simp [b1]
    have q4 : ex (gam T (N + 1)) (.asg (.tup [(.v 0), (.v 6)]) (.bi .divmod [(.v 0), (.k (.int 4))])) ⟨[.d (.int m2), .d (.ref a), .d (.int d), .d (.ref b), .d (.int k), .d (.int (m1 % 5)), .un, .un], h⟩ = .ok .nx ⟨[.d (.int m3), .d (.ref a), .d (.int d), .d (.ref b), .d (.int k), .d (.int (m1 % 5)), .d (.int (m2 % 4)), .un], h⟩ := by
      rw [hm3]
      simp [b2]
    have q5 : ex (gam T (N + 1)) (.ife (.and (.cmp .Eq (.v 2) (.k (.int 1))) (.cmp .Eq (.bin .Mod (.v 0) (.k (.int 8))) (.k (.int 1))))
     [.asg (.v 6) (.bin .Add (.k (.int 4)) (.bin .Mod (.bin .FloorDiv (.v 0) (.k (.int 8))) (.k (.int M))))]
     []) ⟨[.d (.int m3), .d (.ref a), .d (.int d), .d (.ref b), .d (.int k), .d (.int (m1 % 5)), .d (.int (m2 % 4)), .un], h⟩ = .ok .nx ⟨[.d (.int m3), .d (.ref a), .d (.int d), .d (.ref b), .d (.int k), .d (.int (m1 % 5)), .d (.int c5), .un], h⟩ := by
      by_cases z : d = 1
      · by_cases z2 : m3 % 8 = 1
        · rw [hc5, if_pos ⟨z, z2⟩]
          subst z
          simp [z2, hM0]
        · rw [hc5, if_neg fun y => z2 y.2]
          subst z
          simp [z2]
      · have z' : ¬ (d : Int) = 1 := by omega
        rw [hc5, if_neg fun y => z y.1]
        simp [z', z]
    have q6 : ex (gam T (N + 1)) (.ife (.cmp .Eq (.v 2) (.k (.int 0)))
     [.asg (.v 6) (.k (.int 0))]
     []) ⟨[.d (.int m3), .d (.ref a), .d (.int d), .d (.ref b), .d (.int k), .d (.int (m1 % 5)), .d (.int c5), .un], h⟩ = .ok .nx ⟨[.d (.int m3), .d (.ref a), .d (.int d), .d (.ref b), .d (.int k), .d (.int (m1 % 5)), .d (.int cnt), .un], h⟩ := by
      rw [← hcnt]
      by_cases z : d = 0
      · rw [if_pos z]
        subst z
        simp
      · rw [if_neg z]
        simp [z]
    -- the places
    have H : ∀ i : Nat, ∃ t : Tm, i < cnt → (∃ g : Int, callN T (N + 1) "_law_mixed" [.int m3, .int i] h = .ok (.d (.int g)) h ∧ callN T (N + 1) "_law_term" [.int g, .ref a, .int ((d : Int) - 1), .ref b] h = .ok (.d t.d) h) ∧ t.ok ∧ t.dep ≤ d ∧ t.size ≤ 10 ^ (d - 1) ∧ ∀ i ∈ bks t, i ∈ fs := fun i => by
      by_cases hi : i < cnt
      · rcases rec with z | rec
        · have := cz z
          omega
        · obtain ⟨g, eg, g0, g1⟩ := sp_mixed hm N h m3 i m30.1 m30.2 (by omega) (by omega)
          obtain ⟨t, et, t1, t2, t3, t4⟩ := rec g g0 g1
          exact ⟨t, fun _ => ⟨⟨g, eg, et⟩, t1, t2, t3, t4⟩⟩
      · exact ⟨.bl 0, fun z => absurd z hi⟩
    obtain ⟨tt, htt⟩ : ∃ tt : Nat → Tm, ∀ i, i < cnt → (∃ g : Int, callN T (N + 1) "_law_mixed" [.int m3, .int i] h = .ok (.d (.int g)) h ∧ callN T (N + 1) "_law_term" [.int g, .ref a, .int ((d : Int) - 1), .ref b] h = .ok (.d (tt i).d) h) ∧ (tt i).ok ∧ (tt i).dep ≤ d ∧ (tt i).size ≤ 10 ^ (d - 1) ∧ ∀ j ∈ bks (tt i), j ∈ fs := ⟨fun i => Classical.choose (H i), fun i => Classical.choose_spec (H i)⟩
    have lc := ev_map (G := gam T (N + 1)) (elt := .call "_law_term" [(.call "_law_mixed" [(.v 0), (.v 7)]), (.v 1), (.bin .Sub (.v 2) (.k (.int 1))), (.v 3)]) (src := .it .range [(.v 6)]) (tg := .v 7) (st := ⟨[.d (.int m3), .d (.ref a), .d (.int d), .d (.ref b), .d (.int k), .d (.int (m1 % 5)), .d (.int cnt), .un], h⟩) (st1 := ⟨[.d (.int m3), .d (.ref a), .d (.int d), .d (.ref b), .d (.int k), .d (.int (m1 % 5)), .d (.int cnt), .un], h⟩) (v := .it .range [.d (.int cnt)]) (List.range cnt) (fun i => D.int (i : Nat)) (fun i => (tt i).d)
      (by simp) (by
        have z1 : (cnt : Int) ≤ 1000000 := by omega
        have z2 : -1000000 ≤ (cnt : Int) := by omega
        simp [items, lim, ← rangeD_map, z1, z2]) (by simp [lim]; omega) rfl (fun i hi => ⟨⟨[.d (.int m3), .d (.ref a), .d (.int d), .d (.ref b), .d (.int k), .d (.int (m1 % 5)), .d (.int cnt), .d (.int i)], h⟩, rfl, by
        obtain ⟨⟨g, eg, et⟩, _⟩ := htt i (List.mem_range.mp hi)
        generalize (tt i).d = td at et ⊢
        simp [eg, et], by simp [wst, wipeS, Tg.vars]⟩)
    refine ⟨.mk x ((List.range cnt).map tt), ?_, mk_ok nx (by simpa using c9) (fun t ht => ?_), ?_, ?_, fun j hj => ?_⟩
    · have eg : (Tm.mk x ((List.range cnt).map tt)).d = .tup (.str x :: (List.range cnt).map fun i => (tt i).d) := by
        rw [d_mk, List.map_map]
        rfl
      have hlen : 1 + ((List.range cnt).map fun i => (tt i).d).length ≤ 1000000 := by
        rw [List.length_map, List.length_range]
        omega
      rw [eg]
      generalize ((List.range cnt).map fun i => (tt i).d) = B at lc hlen ⊢
      have q7 : ex (gam T (N + 1)) (.ret (.bi .tuple [(.bin .Add (.lst [(.idx (.v 1) (.v 5))]) (.lc (.call "_law_term" [(.call "_law_mixed" [(.v 0), (.v 7)]), (.v 1), (.bin .Sub (.v 2) (.k (.int 1))), (.v 3)]) (.v 7) (.it .range [(.v 6)]) .no))])) ⟨[.d (.int m3), .d (.ref a), .d (.int d), .d (.ref b), .d (.int k), .d (.int (m1 % 5)), .d (.int cnt), .un], h⟩ = .ok (.rt (.d (.tup (.str x :: B)))) ⟨[.d (.int m3), .d (.ref a), .d (.int d), .d (.ref b), .d (.int k), .d (.int (m1 % 5)), .d (.int cnt), .un], h⟩ := by
        simp [ha, hx, lc, mkLst, lim, hlen]
      show gc h (endB (exs _ [_, _, _, _, _, _, _] ⟨[.d (.int num), .d (.ref a), .d (.int d), .d (.ref b), .un, .un, .un, .un], h⟩)) = _
      rw [exs_cons, q1]
      simp only [Out.bind_ok, thn_nx]
      rw [exs_cons, q2]
      simp only [Out.bind_ok, thn_nx]
      rw [exs_cons, q3]
      simp only [Out.bind_ok, thn_nx]
      rw [exs_cons, q4]
      simp only [Out.bind_ok, thn_nx]
      rw [exs_cons, q5]
      simp only [Out.bind_ok, thn_nx]
      rw [exs_cons, q6]
      simp only [Out.bind_ok, thn_nx]
      rw [exs_cons, q7]
      simp only [Out.bind_ok, thn_rt, endB_rt]
      exact gc_d h _
    · obtain ⟨i, hi, rfl⟩ := List.mem_map.mp ht
      exact (htt i (List.mem_range.mp hi)).2.1
    · rw [dep_mk]
      have : Tm.deps ((List.range cnt).map tt) ≤ d := deps_le fun t ht => by
        obtain ⟨i, hi, rfl⟩ := List.mem_map.mp ht
        exact (htt i (List.mem_range.mp hi)).2.2.1
      omega
    · rw [size_mk]
      have sb := sizes_bound (ts := (List.range cnt).map tt) (k := 10 ^ (d - 1)) fun t ht => by
        obtain ⟨i, hi, rfl⟩ := List.mem_map.mp ht
        exact (htt i (List.mem_range.mp hi)).2.2.2.1
      rw [List.length_map, List.length_range] at sb
      by_cases z : d = 0
      · have e0 : cnt * 10 ^ (d - 1) = 0 := by rw [cz z, Nat.zero_mul]
        omega
      · have e : 10 ^ d = 10 * 10 ^ (d - 1) := by
          obtain ⟨d', rfl⟩ := Nat.exists_eq_succ_of_ne_zero z
          rw [Nat.succ_sub_one, Nat.pow_succ, Nat.mul_comm]
        have p1 : 1 ≤ 10 ^ (d - 1) := Nat.one_le_pow _ _ (by omega)
        have : cnt * 10 ^ (d - 1) ≤ 9 * 10 ^ (d - 1) := Nat.mul_le_mul_right _ c9
        omega
    · rw [bks] at hj
      obtain ⟨t, ht, hj⟩ := bkss_mem.mp hj
      obtain ⟨i, hi, rfl⟩ := List.mem_map.mp ht
      exact (htt i (List.mem_range.mp hi)).2.2.2.2 j hj
theorem sp_term2b {M : Int} (hM : 1 ≤ M ∧ M ≤ 6) (hT : T.fn "_law_term" = some (cTerm2 M)) (hm : T.fn "_law_mixed" = some cMixed) (a b : Nat) (ns : List Str) (fs : List Int) (h : List O) (ha : h[a]? = some (.lst (dNames ns))) (hl : ns.length = 5) (hns : ∀ x ∈ ns, Nm x) (hb : h[b]? = some (.lst (fs.map D.int))) (hf : Free fs) :
    ∀ (d n : Nat) (num : Int), 0 ≤ num → num < bigS → ∃ t : Tm, callN T (n + d + 2) "_law_term" [.int num, .ref a, .int d, .ref b] h = .ok (.d t.d) h ∧ t.ok ∧ t.dep ≤ d + 1 ∧ t.size ≤ 10 ^ d ∧ ∀ i ∈ bks t, i ∈ fs
  | 0, n, num, n0, n1 => term2_one hM hT hm a b ns fs h ha hl hns hb hf 0 n num n0 n1 (.inl rfl)
  | d + 1, n, num, n0, n1 => term2_one hM hT hm a b ns fs h ha hl hns hb hf (d + 1) (n + d + 1) num n0 n1 (.inr fun num' h0 h1 => by
      obtain ⟨t, e, t1, t2, t3, t4⟩ := sp_term2b hM hT hm a b ns fs h ha hl hns hb hf d n num' h0 h1
      refine ⟨t, ?_, t1, t2, t3, t4⟩
      have ed : (((d + 1 : Nat) : Int) - 1) = (d : Int) := by omega
      rw [ed]
      exact e)
theorem sp_term2 {M : Int} (hM : 1 ≤ M ∧ M ≤ 6) (hT : T.fn "_law_term" = some (cTerm2 M)) (hm : T.fn "_law_mixed" = some cMixed) (a b : Nat) (ns : List Str) (fs : List Int) (h : List O) (ha : h[a]? = some (.lst (dNames ns))) (hl : ns.length = 5) (hns : ∀ x ∈ ns, Nm x) (hb : h[b]? = some (.lst (fs.map D.int))) (hf : Free fs)
    (d n : Nat) (num : Int) (h0 : 0 ≤ num) (h1 : num < bigS) : ∃ t : Tm, callN T (n + d + 2) "_law_term" [.int num, .ref a, .int d, .ref b] h = .ok (.d t.d) h ∧ t.ok ∧ t.dep ≤ d + 1 ∧ t.size ≤ 10 ^ d := by
  obtain ⟨t, e, t1, t2, t3, t4⟩ := sp_term2b hM hT hm a b ns fs h ha hl hns hb hf d n num h0 h1
  exact ⟨t, e, t1, t2, t3⟩
end
end EW.TT

-- part: FitT
set_option maxHeartbeats 2000000
/-! a pattern fits a term -/
namespace EW.PT
open PySem EW EW.TT
def teq (a b : Tm) : Bool := PyData.eqv a.d.toP b.d.toP
theorem teq_iff (a b : Tm) : teq a b = true ↔ a = b := tm_eqv a b
mutual
/-- the walk of fits_by -/
def fitF : Tm → Tm → List (Int × Tm) → Bool × List (Int × Tm)
  | .bl i, t, prs => match agt prs i with
    | some u => (teq u t, prs)
    | none => (true, prs ++ [(i, t)])
  | .mk f ps, .bl j, prs => (false, prs)
  | .mk f ps, .mk g ts, prs => if f = g ∧ ps.length = ts.length then fitFs ps ts prs else (false, prs)
def fitFs : List Tm → List Tm → List (Int × Tm) → Bool × List (Int × Tm)
  | p :: ps, t :: ts, prs => match fitF p t prs with
    | (true, q) => fitFs ps ts q
    | (false, q) => (false, q)
  | _, _, prs => (true, prs)
end
theorem fitFs_cons (p : Tm) (ps : List Tm) (t : Tm) (ts : List Tm) (prs : List (Int × Tm)) : fitFs (p :: ps) (t :: ts) prs = if (fitF p t prs).1 = true then fitFs ps ts (fitF p t prs).2 else (false, (fitF p t prs).2) := by
  rw [fitFs]
  cases h : fitF p t prs with
  | mk b q => cases b <;> rfl
def fitB : List EW.S := [.ife (.not (.call "fits_by" [(.v 3), (.v 4), (.v 2)]))
       [.ret (.k (.bl false))]
       []]
def fFits : Fd := ⟨3, 5, 
  [.ife (.call "is_whole" [(.v 0)])
     [.ife (.cmp .NotIn (.v 0) (.v 2))
       [.sub (.v 2) (.v 0) (.v 1)]
       [],
    .ret (.cmp .Eq (.idx (.v 2) (.v 0)) (.v 1))]
     [],
  .ife (.cmp .NotEq (.call "head" [(.v 0)]) (.call "head" [(.v 1)]))
     [.ret (.k (.bl false))]
     [],
  .for_ (.tup [(.v 3), (.v 4)]) (.it .zip [(.sl (.v 0) (.k (.int 1)) .no), (.sl (.v 1) (.k (.int 1)) .no)]) fitB,
  .ret (.k (.bl true))], []⟩
def fFit : Fd := ⟨2, 3, 
  [.asg (.v 2) (.dct false [] []),
  .ife (.call "fits_by" [(.v 0), (.v 1), (.v 2)])
     [.ret (.v 2)]
     [],
  .ret (.k .non)], []⟩
structure FitFns (T : Tab) : Prop where
  w : T.fn "is_whole" = some fWhole
  h : T.fn "head" = some fHead
  f : T.fn "fits_by" = some fFits
  t : T.fn "fit" = some fFit
theorem gc_blL (h h' : List O) (b : Bool) (hl : h'.length = h.length) : gc h (.ok (.d (.bl b)) h') = .ok (.d (.bl b)) h' := by
  unfold gc
  simp only
  by_cases e : h'.take h.length = h
  · have e2 : h' = h := by rw [← e, ← hl, List.take_length]
    rw [if_pos e, e2]
    split <;> rfl
  · rw [if_neg e]
/-- a head as data -/
def hdv (t : Tm) : D := match hdOf t with | some x => hD x | none => .non
theorem hd_eqW (p t : Tm) (hp : p.ok) (ht : t.ok) : eqW (.d (hdv p)) (.d (hdv t)) = some (decide (hdOf p = hdOf t)) := by
  cases p with
  | bl i =>
    cases t with
    | bl j => simp [hdv, hdOf, eqW, Wv.pure, D.pure, Wv.toP, D.toP, PyData.depth, deepest, PyData.eqv]
    | mk g ts => simp [hdv, hdOf, hD, eqW, Wv.pure, D.pure, D.pures, Wv.toP, D.toP, PyData.depth, deepest, PyData.eqv, ht.1.ok]
  | mk f ps =>
    cases t with
    | bl j => simp [hdv, hdOf, hD, eqW, Wv.pure, D.pure, D.pures, Wv.toP, D.toP, PyData.depth, deepest, PyData.eqv, hp.1.ok]
    | mk g ts =>
      have h1 : D.pures [.str f, .int ps.length] = true := by simp [D.pures, D.pure, hp.1.ok]
      have h2 : D.pures [.str g, .int ts.length] = true := by simp [D.pures, D.pure, ht.1.ok]
      have hd : (D.tup [.str f, .int ps.length]).toP.depth ≤ deepest := Nat.le_trans (hD_depth (f, ps.length)) (show 3 ≤ deepest by decide)
      show eqW (.d (.tup [.str f, .int ps.length])) (.d (.tup [.str g, .int ts.length])) = _
      rw [eqW_tup h1 h2 hd]
      congr 1
      simp [hdOf, D.toPs, D.toP, PyData.eqvAll, PyData.eqv]
      rw [Bool.eq_iff_iff]
      simp
      try omega
/-- what a filling keeps -/
structure Kept (prs : List (Int × Tm)) : Prop where
  nd : (prs.map (·.1)).Nodup
  ok : ∀ p ∈ prs, p.2.ok ∧ p.2.dep ≤ 140
theorem agt_none {prs : List (Int × Tm)} {i : Int} (h : agt prs i = none) : i ∉ prs.map (·.1) := fun z => by
  obtain ⟨p, hp, e⟩ := List.mem_map.mp z
  unfold agt at h
  rw [Option.map_eq_none_iff, List.find?_eq_none] at h
  exact h p hp (decide_eq_true e)
theorem Kept.snoc {prs : List (Int × Tm)} (w : Kept prs) {i : Int} {t : Tm} (h : agt prs i = none) (o : t.ok ∧ t.dep ≤ 140) : Kept (prs ++ [(i, t)]) := by
  have n := agt_none h
  refine ⟨?_, fun p hp => ?_⟩
  · rw [← aput_new (u := t) n]
    exact aput_nodup w.nd
  · rcases List.mem_append.mp hp with z | z
    · exact w.ok p z
    · rw [List.mem_singleton.mp z]
      exact o
mutual
theorem fitF_kept : ∀ (p t : Tm) (prs : List (Int × Tm)), Kept prs → t.ok → t.dep ≤ 140 → Kept (fitF p t prs).2 ∧ (fitF p t prs).2.length ≤ prs.length + p.size
  | .bl i, t, prs, w, ho, hd => by
    rw [fitF]
    cases h : agt prs i with
    | some u => exact ⟨w, by simp⟩
    | none => exact ⟨w.snoc h ⟨ho, hd⟩, by simp [Tm.size]⟩
  | .mk f ps, .bl j, prs, w, ho, hd => by
    rw [fitF]
    exact ⟨w, by simp⟩
  | .mk f ps, .mk g ts, prs, w, ho, hd => by
    rw [fitF, size_mk]
    split
    · rw [dep_mk] at hd
      obtain ⟨a, b⟩ := fitFs_kept ps ts prs w (fun t ht => ⟨oks_mem ho.2.2 ht, by have := dep_le ht; omega⟩)
      exact ⟨a, by omega⟩
    · exact ⟨w, by simp⟩
theorem fitFs_kept : ∀ (ps ts : List Tm) (prs : List (Int × Tm)), Kept prs → (∀ t ∈ ts, t.ok ∧ t.dep ≤ 140) → Kept (fitFs ps ts prs).2 ∧ (fitFs ps ts prs).2.length ≤ prs.length + Tm.sizes ps
  | [], ts, prs, w, ho => by
    rw [fitFs]
    · exact ⟨w, by simp⟩
    · intros; simp_all
  | p :: ps, [], prs, w, ho => by
    rw [fitFs]
    · exact ⟨w, by simp⟩
    · intros; simp_all
  | p :: ps, t :: ts, prs, w, ho => by
    obtain ⟨a, b⟩ := fitF_kept p t prs w (ho t (by simp)).1 (ho t (by simp)).2
    rw [fitFs_cons, Tm.sizes]
    split
    · obtain ⟨c, d⟩ := fitFs_kept ps ts (fitF p t prs).2 a (fun u hu => ho u (by simp [hu]))
      exact ⟨c, by omega⟩
    · exact ⟨a, by show (fitF p t prs).2.length ≤ _; omega⟩
end
section
variable {T : Tab}
theorem sp_fits (TF : FitFns T) (a : Nat) : ∀ (k : Nat) (p t : Tm) (n : Nat) (prs : List (Int × Tm)) (h : List O), h[a]? = some (.dct false (kvD Tm.d prs)) → Kept prs → p.ok → t.ok → p.dep ≤ k → t.dep ≤ 140 → prs.length + p.size ≤ 100000 →
    callN T (n + k + 2) "fits_by" [p.d, t.d, .ref a] h = .ok (.d (.bl (fitF p t prs).1)) (h.set a (.dct false (kvD Tm.d (fitF p t prs).2)))
  | 0, p, t, n, prs, h, ha, w, po, ho, hk, hd, hs => by
    have := dep_pos p
    omega
  | k + 1, .bl i, t, n, prs, h, ha, w, po, ho, hk, hd, hs => by
    have e1 : callN T (n + k + 2) "is_whole" [(Tm.bl i).d] h = _ := sp_wh TF.w (n + k + 1) (.bl i) h
    have ge := kvD_get (f := Tm.d) prs i
    have rt : ∀ st : St, rd st (.d t.d) = some (.d t.d) := fun st => rd_tm st t
    have al : a < h.length := (List.getElem?_eq_some_iff.mp ha).1
    rw [show n + (k + 1) + 2 = (n + k + 2) + 1 by omega, callN_run T (n + k + 2) h (fd := fFits) TF.f rfl rfl, runB_end, fitF]
    rw [d_bl] at e1 ⊢
    cases c : agt prs i with
    | some u =>
      replace ge : dget false (kvD Tm.d prs) (.int i) = some u.d := by rw [ge, c]; rfl
      have eu : eqW (.d u.d) (.d t.d) = some (teq u t) := tm_eqW (w.ok _ (agt_mem c)).1 ho (w.ok _ (agt_mem c)).2
      have ru : ∀ st : St, rd st (.d u.d) = some (.d u.d) := fun st => rd_tm st u
      rw [set_same ha]
      simp only
      generalize teq u t = b at eu
      generalize kvD Tm.d prs = K at ha ge
      generalize t.d = td at rt eu ⊢
      generalize u.d = ud at ru eu ge
      simp [fFits, startS, e1, isBl, ha, kI_some, ge, ru, rt, eu]
    | none =>
      replace ge : dget false (kvD Tm.d prs) (.int i) = none := by rw [ge, c]; rfl
      have ni := agt_none c
      have ep : dput false (kvD Tm.d prs) (.int i) t.d = kvD Tm.d (prs ++ [(i, t)]) := by rw [kvD_put, aput_new ni]
      have w2 := w.snoc c ⟨ho, hd⟩
      have ge2 : dget false (kvD Tm.d (prs ++ [(i, t)])) (.int i) = some t.d := by
        rw [kvD_get, agt_of w2.nd (p := (i, t)) (by simp)]
        rfl
      have et : eqW (.d t.d) (.d t.d) = some true := by
        rw [tm_eqW ho ho hd]
        congr 1
        exact (tm_eqv t t).mpr rfl
      have hl : (kvD Tm.d prs).length < 1000000 := by
        rw [kvD_len]
        rw [Tm.size] at hs
        omega
      have g2 : (h.set a (.dct false (kvD Tm.d (prs ++ [(i, t)]))))[a]? = some (.dct false (kvD Tm.d (prs ++ [(i, t)]))) := by
        rw [List.getElem?_set, if_pos rfl, if_pos al]
      rw [← ep] at ge2 g2 ⊢
      simp only
      generalize kvD Tm.d prs = K at ha ge hl ge2 g2 ⊢
      generalize t.d = td at rt et ge2 g2 ⊢
      have x : exs (gam T (n + k + 2)) fFits.body ⟨startS fFits.n [.int i, td, .ref a], h⟩ = .ok (.rt (.d (.bl true))) ⟨startS fFits.n [.int i, td, .ref a], h.set a (.dct false (dput false K (.int i) td))⟩ := by
        simp [fFits, startS, e1, isBl, ha, kI_some, ge, rt, hl, lim, g2, ge2, et]
      rw [x, endB_rt]
      exact gc_blL _ _ _ (by simp)
  | k + 1, .mk f ps, t, n, prs, h, ha, w, po, ho, hk, hd, hs => by
    rw [dep_mk] at hk
    rw [size_mk] at hs
    have e1 : callN T (n + k + 2) "is_whole" [(Tm.mk f ps).d] h = _ := sp_wh TF.w (n + k + 1) (.mk f ps) h
    have e2 : callN T (n + k + 2) "head" [(Tm.mk f ps).d] h = .ok (.d (hdv (.mk f ps))) h := sp_head TF.w TF.h (n + k) (.mk f ps) h
    have e3 : callN T (n + k + 2) "head" [t.d] h = .ok (.d (hdv t)) h := sp_head TF.w TF.h (n + k) t h
    have he := hd_eqW (.mk f ps) t po ho
    have al : a < h.length := (List.getElem?_eq_some_iff.mp ha).1
    rw [show n + (k + 1) + 2 = (n + k + 2) + 1 by omega, callN_run T (n + k + 2) h (fd := fFits) TF.f rfl rfl, runB_end]
    have rP : ∀ st : St, rd st (.d (hdv (.mk f ps))) = some (.d (hdv (.mk f ps))) := fun st => rfl
    have rT : ∀ st : St, rd st (.d (hdv t)) = some (.d (hdv t)) := fun st => by cases t <;> rfl
    by_cases c : hdOf (.mk f ps) = hdOf t
    · cases t with
      | bl j => cases c
      | mk g ts =>
        have c' : f = g ∧ ps.length = ts.length := by
          have : (f, ps.length) = (g, ts.length) := Option.some.inj c
          exact ⟨congrArg Prod.fst this, congrArg Prod.snd this⟩
        rw [dep_mk] at hd
        rw [fitF, if_pos c']
        have hlz : (List.zipWith (fun x y => D.tup [x, y]) (ps.map Tm.d) (ts.map Tm.d)).length = ps.length := by
          rw [List.length_zipWith, List.length_map, List.length_map, ← c'.2, Nat.min_self]
        have loop := for_exit (G := gam T (n + k + 2)) (tg := .tup [(.v 3), (.v 4)]) (src := .it .zip [(.sl (.v 0) (.k (.int 1)) .no), (.sl (.v 1) (.k (.int 1)) .no)]) (b := fitB) (st := ⟨[.d (Tm.mk f ps).d, .d (Tm.mk g ts).d, .d (.ref a), .un, .un], h⟩) (st1 := ⟨[.d (Tm.mk f ps).d, .d (Tm.mk g ts).d, .d (.ref a), .un, .un], h⟩)
          (v := .it .zip [.d (.tup (ps.map Tm.d)), .d (.tup (ts.map Tm.d))]) (xs := List.zipWith (fun x y => .tup [x, y]) (ps.map Tm.d) (ts.map Tm.d)) (by simp [d_mk]) (fun s => by simp [items, Wv.isTup]) rfl
          (fun i s => ∃ q s3 s4, s = ⟨[.d (Tm.mk f ps).d, .d (Tm.mk g ts).d, .d (.ref a), s3, s4], h.set a (.dct false (kvD Tm.d q))⟩ ∧ fitFs ps ts prs = fitFs (ps.drop i) (ts.drop i) q ∧ Kept q ∧ q.length + Tm.sizes (ps.drop i) ≤ prs.length + Tm.sizes ps)
          (fun r s => ∃ q, r = .d (.bl false) ∧ s.h = h.set a (.dct false (kvD Tm.d q)) ∧ fitFs ps ts prs = (false, q)) ⟨prs, .un, .un, by rw [set_same ha], rfl, w, Nat.le_refl _⟩ (fun i hi s ⟨q, s3, s4, es, ef, wq, hq⟩ => by
            subst es
            rw [hlz] at hi
            have hi2 : i < ts.length := by omega
            have hp : ps[i] ∈ ps := List.getElem_mem hi
            have ht : ts[i] ∈ ts := List.getElem_mem hi2
            have h1 := dep_le hp
            have h2 := dep_le ht
            have dp : ps.drop i = ps[i] :: ps.drop (i + 1) := List.drop_eq_getElem_cons hi
            have dt : ts.drop i = ts[i] :: ts.drop (i + 1) := List.drop_eq_getElem_cons hi2
            have gq : (h.set a (.dct false (kvD Tm.d q)))[a]? = some (.dct false (kvD Tm.d q)) := by
              rw [List.getElem?_set, if_pos rfl, if_pos al]
            rw [dp, Tm.sizes] at hq
            have ih : callN T (n + k + 2) "fits_by" [ps[i].d, ts[i].d, .ref a] (h.set a (.dct false (kvD Tm.d q))) = _ := sp_fits TF a k ps[i] ts[i] n q (h.set a (.dct false (kvD Tm.d q))) gq wq (oks_mem po.2.2 hp) (oks_mem ho.2.2 ht) (by omega) (by omega) (by omega)
            obtain ⟨kq, lq⟩ := fitF_kept ps[i] ts[i] q wq (oks_mem ho.2.2 ht) (by omega)
            rw [dp, dt, fitFs_cons] at ef
            rw [List.set_set] at ih
            have ex : (List.zipWith (fun x y => D.tup [x, y]) (ps.map Tm.d) (ts.map Tm.d))[i]'(by rw [hlz]; exact hi) = .tup [ps[i].d, ts[i].d] := by simp
            refine ⟨⟨[.d (Tm.mk f ps).d, .d (Tm.mk g ts).d, .d (.ref a), .d ps[i].d, .d ts[i].d], h.set a (.dct false (kvD Tm.d q))⟩, by rw [ex]; rfl, ?_⟩
            cases b : (fitF ps[i] ts[i] q).1 with
            | true =>
              rw [b] at ih ef
              refine .inl ⟨⟨[.d (Tm.mk f ps).d, .d (Tm.mk g ts).d, .d (.ref a), .d ps[i].d, .d ts[i].d], h.set a (.dct false (kvD Tm.d (fitF ps[i] ts[i] q).2))⟩, .inl ?_, _, _, _, rfl, by rw [if_pos rfl] at ef; exact ef, kq, by omega⟩
              generalize kvD Tm.d (fitF ps[i] ts[i] q).2 = K2 at ih ⊢
              generalize h.set a (.dct false (kvD Tm.d q)) = hq at ih ⊢
              generalize ps[i].d = pd at ih ⊢
              generalize ts[i].d = td at ih ⊢
              simp [fitB, ih]
            | false =>
              rw [b] at ih ef
              refine .inr ⟨.d (.bl false), ⟨[.d (Tm.mk f ps).d, .d (Tm.mk g ts).d, .d (.ref a), .d ps[i].d, .d ts[i].d], h.set a (.dct false (kvD Tm.d (fitF ps[i] ts[i] q).2))⟩, ?_, _, rfl, rfl, by rw [if_neg (by simp)] at ef; exact ef⟩
              generalize kvD Tm.d (fitF ps[i] ts[i] q).2 = K2 at ih ⊢
              generalize h.set a (.dct false (kvD Tm.d q)) = hq at ih ⊢
              generalize ps[i].d = pd at ih ⊢
              generalize ts[i].d = td at ih ⊢
              simp [fitB, ih])
        rw [decide_eq_true c] at he
        have q1 : ex (gam T (n + k + 2)) (.ife (.call "is_whole" [(.v 0)])
     [.ife (.cmp .NotIn (.v 0) (.v 2))
       [.sub (.v 2) (.v 0) (.v 1)]
       [],
    .ret (.cmp .Eq (.idx (.v 2) (.v 0)) (.v 1))]
     []) ⟨[.d (Tm.mk f ps).d, .d (Tm.mk g ts).d, .d (.ref a), .un, .un], h⟩ = .ok .nx ⟨[.d (Tm.mk f ps).d, .d (Tm.mk g ts).d, .d (.ref a), .un, .un], h⟩ := by
          generalize (Tm.mk f ps).d = pd at e1 ⊢
          generalize (Tm.mk g ts).d = td
          simp [e1, isBl]
        have q2 : ex (gam T (n + k + 2)) (.ife (.cmp .NotEq (.call "head" [(.v 0)]) (.call "head" [(.v 1)]))
     [.ret (.k (.bl false))]
     []) ⟨[.d (Tm.mk f ps).d, .d (Tm.mk g ts).d, .d (.ref a), .un, .un], h⟩ = .ok .nx ⟨[.d (Tm.mk f ps).d, .d (Tm.mk g ts).d, .d (.ref a), .un, .un], h⟩ := by
          generalize hdv (.mk f ps) = A at e2 he rP
          generalize hdv (.mk g ts) = B at e3 he rT
          generalize (Tm.mk f ps).d = pd at e2 ⊢
          generalize (Tm.mk g ts).d = td at e3 ⊢
          simp [e2, e3, rP, rT, he]
        show gc h (endB (exs _ [_, _, _, _] ⟨[.d (Tm.mk f ps).d, .d (Tm.mk g ts).d, .d (.ref a), .un, .un], h⟩)) = _
        rw [exs_cons, q1]
        simp only [Out.bind_ok, thn_nx]
        rw [exs_cons, q2]
        simp only [Out.bind_ok, thn_nx]
        rw [exs_cons]
        rcases loop with ⟨s', el, q, s3, s4, rfl, ef, wq, _⟩ | ⟨r, s', el, q, rfl, eh, ef⟩
        · rw [hlz, List.drop_length, c'.2, List.drop_length] at ef
          have e0 : fitFs [] [] q = (true, q) := by simp [fitFs]
          rw [el, ef, e0]
          simp only [Out.bind_ok, thn_nx, exs_cons, exs_nil, ex_ret, ev_k, leave, Option.map_some, Out.of_some, thn_rt, endB_rt]
          exact gc_blL _ _ _ (by simp)
        · rw [el, ef]
          simp only [Out.bind_ok, thn_rt, endB_rt, eh]
          exact gc_blL _ _ _ (by simp)
    · have ef : fitF (.mk f ps) t prs = (false, prs) := by
        cases t with
        | bl j => rw [fitF]
        | mk g ts =>
          rw [fitF, if_neg fun z => c (by rw [hdOf, hdOf, z.1, z.2])]
      rw [ef, set_same ha]
      rw [decide_eq_false c] at he
      generalize hdv (.mk f ps) = A at e2 he rP
      generalize hdv t = B at e3 he rT
      generalize (Tm.mk f ps).d = pd at e1 e2 ⊢
      generalize t.d = td at e3 ⊢
      simp [fFits, startS, e1, isBl, e2, e3, rP, rT, he]
theorem gc_refN (h : List O) (x : O) (hx : x.lt h.length = true) : gc h (.ok (.d (.ref h.length)) (h ++ [x])) = .ok (.o x) h := by
  unfold gc
  simp [hx]
theorem kvD_lt (prs : List (Int × Tm)) (n : Nat) : (O.dct false (kvD Tm.d prs)).lt n = true := by
  show ((kvD Tm.d prs).all fun p => p.1.lt n && p.2.lt n) = true
  unfold kvD
  rw [List.all_map, List.all_eq_true]
  exact fun p _ => by simp [D.lt, tm_ltF]
/-- fit -/
theorem sp_fit (TF : FitFns T) (k : Nat) (p t : Tm) (n : Nat) (h : List O) (po : p.ok) (ho : t.ok) (hk : p.dep ≤ k) (hd : t.dep ≤ 140) (hs : p.size ≤ 100000) :
    callN T (n + k + 3) "fit" [p.d, t.d] h = if (fitF p t []).1 = true then .ok (.o (.dct false (kvD Tm.d (fitF p t []).2))) h else .ok (.d .non) h := by
  obtain ⟨h', eh⟩ : ∃ h', h' = h ++ [O.dct false []] := ⟨_, rfl⟩
  have g1 : h'[h.length]? = some (.dct false (kvD Tm.d [])) := by rw [eh]; simp [kvD]
  have e1 : callN T (n + k + 2) "fits_by" [p.d, t.d, .ref h.length] h' = _ := sp_fits TF h.length k p t n [] h' g1 ⟨List.nodup_nil, fun p hp => by cases hp⟩ po ho hk hd (by simpa using hs)
  have es : ∀ x, h'.set h.length x = h ++ [x] := fun x => by rw [eh]; simp
  rw [es] at e1
  have w1 : toDs [.d p.d, .d t.d, .pl 2] ⟨[.d p.d, .d t.d, .o (.dct false [])], h⟩ = some ([p.d, t.d, .ref h.length], ⟨[.d p.d, .d t.d, .d (.ref h.length)], h'⟩) := by
    simp [toDs, toD, eh]
  have lt' := kvD_lt (fitF p t []).2 h.length
  rw [callN_run T (n + k + 2) h (fd := fFit) TF.t rfl rfl, runB_end]
  generalize kvD Tm.d (fitF p t []).2 = K at e1 lt' ⊢
  generalize (fitF p t []).1 = b at e1 ⊢
  generalize p.d = pd at e1 w1 ⊢
  generalize t.d = td at e1 w1 ⊢
  have q1 : tst (gam T (n + k + 2)) (.call "fits_by" [(.v 0), (.v 1), (.v 2)]) ⟨[.d pd, .d td, .o (.dct false [])], h⟩ = .ok b ⟨[.d pd, .d td, .d (.ref h.length)], h ++ [O.dct false K]⟩ := by
    simp [w1, e1]
  have q0 : ex (gam T (n + k + 2)) (.asg (.v 2) (.dct false [] [])) ⟨[.d pd, .d td, .un], h⟩ = .ok .nx ⟨[.d pd, .d td, .o (.dct false [])], h⟩ := by simp
  show gc h (endB (exs _ [_, .ife _ _ _, _] ⟨[.d pd, .d td, .un], h⟩)) = _
  rw [exs_cons, q0]
  simp only [Out.bind_ok, thn_nx]
  rw [exs_cons, ex_ife, q1]
  cases b with
  | true =>
    rw [if_pos rfl]
    simp only [Out.bind_ok, if_true]
    have x : exs (gam T (n + k + 2)) [.ret (.v 2)] ⟨[.d pd, .d td, .d (.ref h.length)], h ++ [O.dct false K]⟩ = .ok (.rt (.d (.ref h.length))) ⟨[.d pd, .d td, .d (.ref h.length)], h ++ [O.dct false K]⟩ := by simp
    rw [x]
    simp only [Out.bind_ok, thn_rt, endB_rt]
    exact gc_refN h _ lt'
  | false =>
    rw [if_neg (by simp)]
    simp only [Out.bind_ok, Bool.false_eq_true, if_false, exs_nil, thn_nx]
    have x : exs (gam T (n + k + 2)) [.ret (.k .non)] ⟨[.d pd, .d td, .d (.ref h.length)], h ++ [O.dct false K]⟩ = .ok (.rt (.d .non)) ⟨[.d pd, .d td, .d (.ref h.length)], h ++ [O.dct false K]⟩ := by simp
    rw [x, endB_rt]
    exact gc_ext h _ _ (fun a e => by cases e) rfl
end
end EW.PT

-- part: FitP
set_option maxHeartbeats 2000000
/-! what fit tells, by the pairs of blanks and parts -/
namespace EW.PT
open PySem EW EW.TT
mutual
/-- the blanks of a pattern and what stands at them; none where the two are unlike above -/
def wks : Tm → Tm → Option (List (Int × Tm))
  | .bl i, t => some [(i, t)]
  | .mk f ps, .bl j => none
  | .mk f ps, .mk g ts => if f = g ∧ ps.length = ts.length then wksL ps ts else none
def wksL : List Tm → List Tm → Option (List (Int × Tm))
  | p :: ps, t :: ts => match wks p t, wksL ps ts with
    | some a, some b => some (a ++ b)
    | _, _ => none
  | _, _ => some []
end
theorem wksL_cons {p t : Tm} {ps ts : List Tm} {L : List (Int × Tm)} : wksL (p :: ps) (t :: ts) = some L ↔ ∃ a b, wks p t = some a ∧ wksL ps ts = some b ∧ L = a ++ b := by
  rw [wksL]
  cases wks p t with
  | none => simp
  | some a =>
    cases wksL ps ts with
    | none => simp
    | some b =>
      simp only [Option.some.injEq]
      exact ⟨fun e => ⟨a, b, rfl, rfl, e.symm⟩, fun ⟨_, _, e1, e2, e3⟩ => by rw [e1, e2, e3]⟩
/-- one term for each blank -/
def Cons (L : List (Int × Tm)) : Prop := ∀ p ∈ L, ∀ q ∈ L, p.1 = q.1 → p.2 = q.2
theorem Cons.sub {A B : List (Int × Tm)} (h : Cons B) (s : ∀ x ∈ A, x ∈ B) : Cons A := fun p hp q hq => h p (s p hp) q (s q hq)
theorem cons_nd {prs : List (Int × Tm)} (h : (prs.map (·.1)).Nodup) : Cons prs := fun p hp q hq e => by
  have h1 := agt_of h hp
  have h2 := agt_of h hq
  rw [e, h2] at h1
  exact (Option.some.inj h1).symm
mutual
theorem fitF_iff : ∀ (p t : Tm) (prs : List (Int × Tm)), Kept prs → t.ok → t.dep ≤ 140 → ((fitF p t prs).1 = true ↔ ∃ L, wks p t = some L ∧ Cons (prs ++ L)) ∧ ∀ L, wks p t = some L → (fitF p t prs).1 = true → ∀ x, x ∈ (fitF p t prs).2 ↔ x ∈ prs ∨ x ∈ L
  | .bl i, t, prs, w, ho, hd => by
    rw [fitF, wks]
    cases c : agt prs i with
    | some u =>
      have hu := agt_mem c
      simp only
      refine ⟨⟨fun h => ⟨_, rfl, ?_⟩, fun ⟨L, e, h⟩ => ?_⟩, fun L e h x => ?_⟩
      · have e := (teq_iff u t).mp h
        subst e
        exact (cons_nd w.nd).sub fun x hx => by
          rcases List.mem_append.mp hx with z | z
          · exact z
          · rw [List.mem_singleton.mp z]
            exact hu
      · cases e
        exact (teq_iff u t).mpr (h (i, u) (by simp [hu]) (i, t) (by simp) rfl)
      · cases e
        have e := (teq_iff u t).mp h
        subst e
        refine ⟨.inl, fun z => z.elim id fun z => ?_⟩
        rw [List.mem_singleton.mp z]
        exact hu
    | none =>
      simp only
      refine ⟨⟨fun _ => ⟨_, rfl, cons_nd (w.snoc c ⟨ho, hd⟩).nd⟩, fun _ => trivial⟩, fun L e _ x => ?_⟩
      cases e
      exact List.mem_append
  | .mk f ps, .bl j, prs, w, ho, hd => by
    rw [fitF, wks]
    exact ⟨⟨fun h => (by cases h), fun ⟨L, e, _⟩ => (by cases e)⟩, fun L e => by cases e⟩
  | .mk f ps, .mk g ts, prs, w, ho, hd => by
    rw [fitF, wks]
    rw [dep_mk] at hd
    split
    · exact fitFs_iff ps ts prs w fun t ht => ⟨oks_mem ho.2.2 ht, by have := dep_le ht; omega⟩
    · exact ⟨⟨fun h => (by cases h), fun ⟨L, e, _⟩ => (by cases e)⟩, fun L e => by cases e⟩
theorem fitFs_iff : ∀ (ps ts : List Tm) (prs : List (Int × Tm)), Kept prs → (∀ t ∈ ts, t.ok ∧ t.dep ≤ 140) → ((fitFs ps ts prs).1 = true ↔ ∃ L, wksL ps ts = some L ∧ Cons (prs ++ L)) ∧ ∀ L, wksL ps ts = some L → (fitFs ps ts prs).1 = true → ∀ x, x ∈ (fitFs ps ts prs).2 ↔ x ∈ prs ∨ x ∈ L
  | [], ts, prs, w, ho => by
    have e1 : fitFs [] ts prs = (true, prs) := by
      rw [fitFs]
      intros; simp_all
    have e2 : wksL [] ts = some [] := by
      rw [wksL]
      intros; simp_all
    rw [e1, e2]
    refine ⟨⟨fun _ => ⟨[], rfl, by rw [List.append_nil]; exact cons_nd w.nd⟩, fun _ => rfl⟩, fun L e _ x => ?_⟩
    cases e
    simp
  | p :: ps, [], prs, w, ho => by
    have e1 : fitFs (p :: ps) [] prs = (true, prs) := by
      rw [fitFs]
      intros; simp_all
    have e2 : wksL (p :: ps) [] = some [] := by
      rw [wksL]
      intros; simp_all
    rw [e1, e2]
    refine ⟨⟨fun _ => ⟨[], rfl, by rw [List.append_nil]; exact cons_nd w.nd⟩, fun _ => rfl⟩, fun L e _ x => ?_⟩
    cases e
    simp
  | p :: ps, t :: ts, prs, w, ho => by
    obtain ⟨to, td⟩ := ho t (by simp)
    obtain ⟨i1, m1⟩ := fitF_iff p t prs w to td
    obtain ⟨k1, _⟩ := fitF_kept p t prs w to td
    obtain ⟨i2, m2⟩ := fitFs_iff ps ts (fitF p t prs).2 k1 fun u hu => ho u (by simp [hu])
    rw [fitFs_cons]
    by_cases c : (fitF p t prs).1 = true
    · rw [if_pos c]
      obtain ⟨a, ha, ca⟩ := i1.mp c
      have ma := m1 a ha c
      refine ⟨⟨fun h => ?_, fun ⟨L, e, h⟩ => ?_⟩, fun L e h x => ?_⟩
      · obtain ⟨b, hb, cb⟩ := i2.mp h
        refine ⟨a ++ b, wksL_cons.mpr ⟨a, b, ha, hb, rfl⟩, cb.sub fun x hx => ?_⟩
        simp only [List.mem_append, ma] at hx ⊢
        rcases hx with hx | hx | hx
        · exact .inl (.inl hx)
        · exact .inl (.inr hx)
        · exact .inr hx
      · obtain ⟨a', b, ha', hb, rfl⟩ := wksL_cons.mp e
        rw [ha] at ha'
        cases ha'
        refine i2.mpr ⟨b, hb, h.sub fun x hx => ?_⟩
        simp only [List.mem_append, ma] at hx ⊢
        rcases hx with (hx | hx) | hx
        · exact .inl hx
        · exact .inr (.inl hx)
        · exact .inr (.inr hx)
      · obtain ⟨a', b, ha', hb, rfl⟩ := wksL_cons.mp e
        rw [ha] at ha'
        cases ha'
        rw [m2 b hb h x, ma, List.mem_append, or_assoc]
    · rw [if_neg c]
      refine ⟨⟨fun h => (by cases h), fun ⟨L, e, h⟩ => ?_⟩, fun L _ h => by cases h⟩
      obtain ⟨a, b, ha, hb, rfl⟩ := wksL_cons.mp e
      exact (c (i1.mpr ⟨a, ha, h.sub fun x hx => by
        simp only [List.mem_append] at hx ⊢
        rcases hx with hx | hx
        · exact .inl hx
        · exact .inr (.inl hx)⟩)).elim
end
/-- what fit tells: a filling with just the pairs, where each blank has one term -/
theorem fitF_nil (p t : Tm) (ho : t.ok) (hd : t.dep ≤ 140) : ((fitF p t []).1 = true ↔ ∃ L, wks p t = some L ∧ Cons L) ∧ Kept (fitF p t []).2 ∧ ∀ L, wks p t = some L → (fitF p t []).1 = true → ∀ x, x ∈ (fitF p t []).2 ↔ x ∈ L := by
  have w : Kept [] := ⟨List.nodup_nil, fun p hp => by cases hp⟩
  obtain ⟨a, b⟩ := fitF_iff p t [] w ho hd
  refine ⟨a, (fitF_kept p t [] w ho hd).1, fun L e h x => ?_⟩
  rw [b L e h x]
  simp
theorem nodup_of {α β : Type} (f : α → β) : ∀ {xs : List α}, (xs.map f).Nodup → xs.Nodup
  | [], _ => List.nodup_nil
  | x :: xs, h => by
    rw [List.map_cons, List.nodup_cons] at h
    rw [List.nodup_cons]
    exact ⟨fun z => h.1 (List.mem_map_of_mem z), nodup_of f h.2⟩
/-- fillings with the same pairs are equal as dicts -/
theorem dEq_of {A B : List (Int × Tm)} (hA : Kept A) (hB : Kept B) (h : ∀ x, x ∈ A ↔ x ∈ B) : dEq (kvD Tm.d A) (kvD Tm.d B) = true := by
  have nA : A.Nodup := nodup_of _ hA.nd
  have nB : B.Nodup := nodup_of _ hB.nd
  have hl : A.length = B.length := ((List.perm_ext_iff_of_nodup nA nB).mpr h).length_eq
  unfold dEq
  rw [Bool.and_eq_true, List.all_eq_true]
  refine ⟨decide_eq_true (by rw [kvD_len, kvD_len, hl]), fun p hp => ?_⟩
  obtain ⟨q, hq, rfl⟩ := List.mem_map.mp hp
  obtain ⟨o1, o2⟩ := hA.ok q hq
  have e := agt_of hB.nd ((h q).mp hq)
  rw [kvD_get, e]
  show (q.2.d.pure && q.2.d.pure && decide (q.2.d.toP.depth ≤ 140) && PyData.eqv q.2.d.toP q.2.d.toP) = true
  have d1 := tm_depth q.2
  rw [tm_pure _ o1, (tm_eqv q.2 q.2).mpr rfl, decide_eq_true (by omega)]
  rfl
end EW.PT

-- part: FillU
set_option maxHeartbeats 2000000
/-! how great a filled term is -/
namespace EW.PT
open PySem EW EW.TT
mutual
theorem fill_ok {F : Int → Option Tm} (hF : ∀ i u, F i = some u → u.ok) : ∀ t : Tm, t.ok → (fill F t).ok
  | .bl i, h => by
    rw [fill]
    cases c : F i with
    | none => exact h
    | some u => exact hF i u c
  | .mk f ts, h => by
    obtain ⟨g1, g2⟩ := fills_ok hF ts h.2.2
    rw [fill]
    exact ⟨h.1, by rw [g2]; exact h.2.1, g1⟩
theorem fills_ok {F : Int → Option Tm} (hF : ∀ i u, F i = some u → u.ok) : ∀ ts : List Tm, Tm.oks ts → Tm.oks (fills F ts) ∧ (fills F ts).length = ts.length
  | [], _ => ⟨trivial, rfl⟩
  | u :: us, h => by
    obtain ⟨g1, g2⟩ := fills_ok hF us h.2
    rw [fills]
    exact ⟨⟨fill_ok hF u h.1, g1⟩, by simp [g2]⟩
end
mutual
theorem fill_dep {F : Int → Option Tm} {k : Nat} (hF : ∀ i u, F i = some u → u.dep ≤ k) : ∀ t : Tm, (fill F t).dep ≤ t.dep + k
  | .bl i => by
    rw [fill, Tm.dep]
    cases c : F i with
    | none =>
      show (Tm.bl i).dep ≤ _
      rw [Tm.dep]
      omega
    | some u =>
      have := hF i u c
      show u.dep ≤ _
      omega
  | .mk f ts => by
    have := fills_dep hF ts
    rw [fill, dep_mk, dep_mk]
    omega
theorem fills_dep {F : Int → Option Tm} {k : Nat} (hF : ∀ i u, F i = some u → u.dep ≤ k) : ∀ ts : List Tm, Tm.deps (fills F ts) ≤ Tm.deps ts + k
  | [] => by simp [fills, Tm.deps]
  | t :: ts => by
    have h1 := fill_dep hF t
    have h2 := fills_dep hF ts
    rw [fills, Tm.deps, Tm.deps]
    omega
end
mutual
theorem fill_size {F : Int → Option Tm} {c : Nat} (hc : 1 ≤ c) (hF : ∀ i u, F i = some u → u.size ≤ c) : ∀ t : Tm, (fill F t).size ≤ t.size * c
  | .bl i => by
    rw [fill, Tm.size]
    cases e : F i with
    | none =>
      show (Tm.bl i).size ≤ _
      rw [Tm.size]
      omega
    | some u =>
      have := hF i u e
      show u.size ≤ _
      omega
  | .mk f ts => by
    have := fills_size hc hF ts
    rw [fill, size_mk, size_mk, Nat.add_mul]
    omega
theorem fills_size {F : Int → Option Tm} {c : Nat} (hc : 1 ≤ c) (hF : ∀ i u, F i = some u → u.size ≤ c) : ∀ ts : List Tm, Tm.sizes (fills F ts) ≤ Tm.sizes ts * c
  | [] => by simp [fills, Tm.sizes]
  | t :: ts => by
    have h1 := fill_size hc hF t
    have h2 := fills_size hc hF ts
    rw [fills, Tm.sizes, Tm.sizes, Nat.add_mul]
    omega
end
theorem gc_blX (h h' : List O) (b : Bool) : ∃ h2, gc h (.ok (.d (.bl b)) h') = .ok (.d (.bl b)) h2 := by
  unfold gc
  simp only
  by_cases e : h'.take h.length = h
  · rw [if_pos e]
    by_cases l : (EV.d (D.bl b)).lt h.length = true
    · rw [if_pos l]
      exact ⟨_, rfl⟩
    · rw [if_neg l]
      exact ⟨_, rfl⟩
  · rw [if_neg e]
    exact ⟨_, rfl⟩
theorem get_mono {α : Type} {h : List α} {a : Nat} {x : α} (e : h[a]? = some x) (t : List α) : (h ++ t)[a]? = some x := by
  rw [List.getElem?_append_left (List.getElem?_eq_some_iff.mp e).1, e]
theorem get_new {α : Type} (h : List α) (x : α) (t : List α) : (h ++ x :: t)[h.length]? = some x := by simp
/-- names and blanks: where they stand -/
def NF (ns : List Str) (fs : List Int) (s2 s4 : Sl) (h : List O) : Prop := (s2 = .o (.lst (dNames ns)) ∧ s4 = .o (.lst (fs.map D.int))) ∨ ∃ a b, s2 = .d (.ref a) ∧ s4 = .d (.ref b) ∧ h[a]? = some (.lst (dNames ns)) ∧ h[b]? = some (.lst (fs.map D.int))
/-- a number of one cell -/
theorem fd20 (i : Int) : binW .FloorDiv (.d (.int i)) (.d (.int 100000000000000000000)) = some (.d (.int (i / 100000000000000000000))) := by rw [bin_fdiv, if_pos (by decide)]
theorem fd23 (i : Int) : binW .FloorDiv (.d (.int i)) (.d (.int 100000000000000000000000)) = some (.d (.int (i / 100000000000000000000000))) := by rw [bin_fdiv, if_pos (by decide)]
theorem fd26 (i : Int) : binW .FloorDiv (.d (.int i)) (.d (.int 100000000000000000000000000)) = some (.d (.int (i / 100000000000000000000000000))) := by rw [bin_fdiv, if_pos (by decide)]
end EW.PT

-- part: LawW
set_option maxHeartbeats 2000000
/-! small defs that many laws have -/
namespace EW.PT
open PySem EW EW.TT
def lWhole : Fd := ⟨1, 1, 
  [.ret (.and (.isi (.v 0) ["int"]) (.not (.isi (.v 0) ["bool"])))], []⟩
def lFilled : Fd := ⟨2, 3, 
  [.ife (.call "_law_whole" [(.v 0)])
     [.ret (.meth "get" (.v 1) [(.v 0), (.v 0)])]
     [],
  .ret (.bi .tuple [(.bin .Add (.lst [(.idx (.v 0) (.k (.int 0)))]) (.lc (.call "_law_filled" [(.v 2), (.v 1)]) (.v 2) (.sl (.v 0) (.k (.int 1)) .no) .no))])], []⟩
def lBlanksB : List EW.S := [.ex (.ext (.v 1) (.call "_law_blanks" [(.v 2)]))]
def lBlanks : Fd := ⟨1, 3, 
  [.ife (.call "_law_whole" [(.v 0)])
     [.ret (.lst [(.v 0)])]
     [],
  .asg (.v 1) (.lst []),
  .for_ (.v 2) (.sl (.v 0) (.k (.int 1)) .no) lBlanksB,
  .ret (.v 1)], []⟩
def lCount (f : String) : Fd := ⟨1, 2, 
  [.ife (.call "_law_whole" [(.v 0)])
     [.ret (.k (.int 1))]
     [],
  .ret (.bin .Add (.k (.int 1)) (.bi .sum [(.lc (.call f [(.v 1)]) (.v 1) (.sl (.v 0) (.k (.int 1)) .no) .no)]))], []⟩
section
variable {T : Tab}
theorem sp_lw (hw : T.fn "_law_whole" = some lWhole) (n : Nat) (t : Tm) (h : List O) : callN T (n + 1) "_law_whole" [t.d] h = .ok (.d (.bl (isBl t))) h := by
  rw [callN_run T n h (fd := lWhole) hw rfl rfl, runB_end]
  cases t with
  | bl i => rw [d_bl]; simp [lWhole, startS, isiE, isiW, isBl]
  | mk f ts => rw [d_mk]; simp [lWhole, startS, isiE, isiW, isBl]
theorem sp_lf (hw : T.fn "_law_whole" = some lWhole) (hT : T.fn "_law_filled" = some lFilled) (F : Int → Option Tm) (a : Nat) (h : List O) (kvs : List (D × D)) (ha : h[a]? = some (.dct false kvs)) (hF : ∀ i, dget false kvs (.int i) = (F i).map Tm.d) :
    ∀ (k : Nat) (t : Tm) (n : Nat), t.dep ≤ k → t.size ≤ 100000 → callN T (n + k + 1) "_law_filled" [t.d, .ref a] h = .ok (.d (fill F t).d) h
  | 0, t, n, hk, _ => by
    have := dep_pos t
    omega
  | k + 1, .bl i, n, hk, _ => by
    have e1 := sp_lw hw (n + k) (.bl i) h
    have e2 := hF i
    have e3 : ((dget false kvs (.int i)).getD (.int i)) = (fill F (.bl i)).d := by
      rw [e2, fill]
      cases F i with
      | none => rw [← d_bl]; rfl
      | some u => rfl
    have e4 := set_same ha
    rw [show n + (k + 1) + 1 = (n + k + 1) + 1 by omega, callN_run T (n + k + 1) h (fd := lFilled) hT rfl rfl, runB_end]
    rw [d_bl] at e1 ⊢
    simp [lFilled, startS, e1, isBl, ha, kI_some, e3, e4]
  | k + 1, .mk f ts, n, hk, hs => by
    rw [dep_mk] at hk
    rw [size_mk] at hs
    have hln := len_sizes ts
    have e1 := sp_lw hw (n + k) (.mk f ts) h
    have lc := fun s1 : Sl => ev_map (G := gam T (n + k + 1)) (elt := .call "_law_filled" [(.v 2), (.v 1)]) (src := .sl (.v 0) (.k (.int 1)) .no) (tg := .v 2) (st := ⟨[.d (Tm.mk f ts).d, .d (.ref a), s1], h⟩) (st1 := ⟨[.d (Tm.mk f ts).d, .d (.ref a), s1], h⟩) (v := .d (.tup (ts.map Tm.d))) ts Tm.d (fun u => (fill F u).d)
      (by simp [d_mk]) (by simp [items_d]) (by simp only [lim]; omega) rfl (fun u hu => ⟨_, rfl, by
        have h1 := dep_le hu
        have h2 := size_le hu
        have ih := sp_lf hw hT F a h kvs ha hF k u n (by omega) (by omega)
        simp [wst, wipeS, Tg.vars, ih], by simp [wst, wipeS, Tg.vars]⟩)
    have hl : 1 + (ts.map fun u => (fill F u).d).length ≤ 1000000 := by
      rw [List.length_map]
      omega
    have eg : (fill F (.mk f ts)).d = .tup (.str f :: (ts.map fun u => (fill F u).d)) := by
      rw [fill, d_mk, fills_map, List.map_map]
      rfl
    rw [show n + (k + 1) + 1 = (n + k + 1) + 1 by omega, callN_run T (n + k + 1) h (fd := lFilled) hT rfl rfl, runB_end, eg]
    rw [d_mk] at e1 lc ⊢
    generalize (ts.map fun u => (fill F u).d) = B at lc hl ⊢
    simp [lFilled, startS, e1, isBl, lc, mkLst, lim, hl]
theorem sp_lc {f : String} (hw : T.fn "_law_whole" = some lWhole) (hT : T.fn f = some (lCount f)) : ∀ (k : Nat) (t : Tm) (n : Nat) (h : List O), t.dep ≤ k → t.size ≤ 900000 → callN T (n + k + 1) f [t.d] h = .ok (.d (.int t.size)) h
  | 0, t, n, h, hk, _ => by
    have := dep_pos t
    omega
  | k + 1, .bl i, n, h, hk, _ => by
    have e1 := sp_lw hw (n + k) (.bl i) h
    rw [show n + (k + 1) + 1 = (n + k + 1) + 1 by omega, callN_run T (n + k + 1) h (fd := lCount f) hT rfl rfl, runB_end, Tm.size]
    rw [d_bl] at e1 ⊢
    simp [lCount, startS, e1, isBl]
  | k + 1, .mk g ts, n, h, hk, hsz => by
    rw [dep_mk] at hk
    rw [size_mk] at hsz
    have hln := len_sizes ts
    have e1 := sp_lw hw (n + k) (.mk g ts) h
    have lc := fun s1 : Sl => ev_map (G := gam T (n + k + 1)) (elt := .call f [(.v 1)]) (src := .sl (.v 0) (.k (.int 1)) .no) (tg := .v 1) (st := ⟨[.d (Tm.mk g ts).d, s1], h⟩) (st1 := ⟨[.d (Tm.mk g ts).d, s1], h⟩) (v := .d (.tup (ts.map Tm.d))) ts Tm.d (fun u => .int u.size)
      (by simp [d_mk]) (by simp [items_d]) (by simp only [lim]; omega) rfl (fun u hu => ⟨_, rfl, by
        have h1 := dep_le hu
        have h2 := size_le hu
        have ih := sp_lc hw hT k u n h (by omega) (by omega)
        simp [wst, wipeS, Tg.vars, ih], by simp [wst, wipeS, Tg.vars]⟩)
    have hb := sumD_map (fun u : Tm => (u.size : Int)) ts 0
    have hs : ((ts.map fun u : Tm => (u.size : Int)).sum) = ((Tm.sizes ts : Nat) : Int) := by
      have : ∀ us : List Tm, ((us.map fun u : Tm => (u.size : Int)).sum) = ((Tm.sizes us : Nat) : Int) := fun us => by
        induction us with
        | nil => rfl
        | cons a r ih => rw [List.map_cons, List.sum_cons, ih, Tm.sizes]; omega
      exact this ts
    rw [hs] at hb
    rw [show n + (k + 1) + 1 = (n + k + 1) + 1 by omega, callN_run T (n + k + 1) h (fd := lCount f) hT rfl rfl, runB_end, size_mk]
    rw [d_mk] at e1 lc ⊢
    generalize (ts.map fun u => D.int u.size) = B at lc hb
    simp [lCount, startS, e1, isBl, lc, hb]
theorem sp_lb (hw : T.fn "_law_whole" = some lWhole) (hT : T.fn "_law_blanks" = some lBlanks) : ∀ (k : Nat) (t : Tm) (n : Nat) (h : List O), t.dep ≤ k → t.size ≤ 100000 → callN T (n + k + 1) "_law_blanks" [t.d] h = .ok (.o (.lst ((bks t).map D.int))) h
  | 0, t, n, h, hk, _ => by
    have := dep_pos t
    omega
  | k + 1, .bl i, n, h, hk, _ => by
    rw [show n + (k + 1) + 1 = (n + k + 1) + 1 by omega, callN_run T (n + k + 1) h (fd := lBlanks) hT rfl rfl, runB_end, bks]
    have e1 := sp_lw hw (n + k) (.bl i) h
    rw [d_bl] at e1 ⊢
    simp [lBlanks, startS, e1, isBl, mkLst, lim]
  | k + 1, .mk f ts, n, h, hk, hs => by
    rw [dep_mk] at hk
    rw [size_mk] at hs
    have e1 := sp_lw hw (n + k) (.mk f ts) h
    obtain ⟨s', e, s2, rfl⟩ := for_data (G := gam T (n + k + 1)) (tg := .v 2) (src := .sl (.v 0) (.k (.int 1)) .no) (b := lBlanksB) (st := ⟨[.d (Tm.mk f ts).d, .o (.lst []), .un], h⟩) (st1 := ⟨[.d (Tm.mk f ts).d, .o (.lst []), .un], h⟩)
      (v := .d (.tup (ts.map Tm.d))) (xs := ts.map Tm.d) (by simp [d_mk]) (fun s => by simp [items_d]) rfl
      (fun i s => ∃ s2, s = ⟨[.d (Tm.mk f ts).d, .o (.lst ((bkss (ts.take i)).map D.int)), s2], h⟩) ⟨.un, rfl⟩ (fun i hi s ⟨s2, es⟩ => by
        subst es
        rw [List.length_map] at hi
        have hu : ts[i] ∈ ts := List.getElem_mem hi
        have h1 := dep_le hu
        have h2 := size_le hu
        have ih := sp_lb hw hT k ts[i] n h (by omega) (by omega)
        have et : bkss (ts.take (i + 1)) = bkss (ts.take i) ++ bks ts[i] := by
          rw [List.take_succ_eq_append_getElem hi]
          have app : ∀ as bs : List Tm, bkss (as ++ bs) = bkss as ++ bkss bs := fun as bs => by
            induction as with
            | nil => rfl
            | cons a r ih => rw [List.cons_append, bkss, bkss, ih, List.append_assoc]
          rw [app, bkss, bkss, List.append_nil]
        have l1 : ((bkss (ts.take i)).map D.int).length + ((bks ts[i]).map D.int).length ≤ 1000000 := by
          have b1 := bss_len (ts.take (i + 1))
          rw [et, List.length_append] at b1
          have b2 : Tm.sizes (ts.take (i + 1)) ≤ Tm.sizes ts := by
            have := sizes_app (ts.take (i + 1)) (ts.drop (i + 1))
            rw [List.take_append_drop] at this
            omega
          rw [List.length_map, List.length_map]
          omega
        refine ⟨_, ⟨[.d (Tm.mk f ts).d, .o (.lst ((bkss (ts.take (i + 1))).map D.int)), .d ts[i].d], h⟩, by rw [List.getElem_map]; rfl, .inl ?_, _, rfl⟩
        rw [et, List.map_append]
        generalize (bkss (ts.take i)).map D.int = A at l1 ⊢
        generalize (bks ts[i]).map D.int = B at l1 ih ⊢
        generalize ts[i].d = u at ih ⊢
        generalize (Tm.mk f ts).d = td
        simp [lBlanksB, St.set, ih, lim, l1])
    rw [show n + (k + 1) + 1 = (n + k + 1) + 1 by omega, callN_run T (n + k + 1) h (fd := lBlanks) hT rfl rfl, runB_end, bks]
    rw [List.length_map, List.take_length] at e
    generalize (bkss ts).map D.int = B at e ⊢
    rw [d_mk] at e e1 ⊢
    simp [lBlanks, startS, e1, isBl, mkLst, lim, e]
end
@[simp] theorem idx_lkd (kvs : List (D × D)) (k : D) : idxE (.o (.lkd kvs)) (.d k) = (if (kkey false k).isSome = true then dget false kvs k else none).map EV.d := rfl
theorem pures_ints (l : List Int) : D.pures (l.map D.int) = true := by
  induction l with
  | nil => rfl
  | cons a r ih => simp [D.pures, D.pure, ih]
theorem in_ints (x : Int) (l : List Int) : inW (.d (.int x)) (.o (.lst (l.map D.int))) = some (decide (x ∈ l)) := by
  rw [in_lst, pures_ints, if_pos (by simp [D.pure, D.toP, PyData.depth, deepest]), List.any_map]
  congr 1
  rw [Bool.eq_iff_iff, List.any_eq_true, decide_eq_true_iff]
  constructor
  · rintro ⟨y, hy, e⟩
    have e' : y = x := by simpa [D.toP, PyData.eqv] using e
    exact e' ▸ hy
  · intro h
    exact ⟨x, h, by simp [D.toP, PyData.eqv]⟩
theorem set_set {α : Type} (h : List α) (a : Nat) (x y : α) : (h.set a x).set a y = h.set a y := by
  simp [List.set_set]
mutual
/-- a pattern becomes its filled one -/
theorem wks_fill (F : Int → Option Tm) : ∀ p : Tm, wks p (fill F p) = some ((bks p).map fun i => (i, fill F (.bl i)))
  | .bl i => by rw [wks, bks]; rfl
  | .mk f ps => by
    rw [fill, wks, bks, if_pos ⟨rfl, by rw [fills_map, List.length_map]⟩]
    exact wksL_fill F ps
theorem wksL_fill (F : Int → Option Tm) : ∀ ps : List Tm, wksL ps (fills F ps) = some ((bkss ps).map fun i => (i, fill F (.bl i)))
  | [] => by
    rw [fills, bkss, wksL]
    · rfl
    · intros; simp_all
  | p :: ps => by
    rw [fills, bkss]
    exact wksL_cons.mpr ⟨_, _, wks_fill F p, wksL_fill F ps, by rw [List.map_append]⟩
end
theorem fill_none : ∀ t : Tm, fill (fun _ => none) t = t := by
  have key : ∀ n (t : Tm), t.dep ≤ n → fill (fun _ => none) t = t := by
    intro n
    induction n with
    | zero =>
      intro t h
      have := dep_pos t
      omega
    | succ n ih =>
      intro t h
      cases t with
      | bl i => rw [fill]; rfl
      | mk f ts =>
        rw [dep_mk] at h
        rw [fill, fills_map]
        congr 1
        rw [List.map_congr_left (g := id) fun u hu => ih u (by have := dep_le hu; omega), List.map_id]
  exact fun t => key t.dep t (Nat.le_refl _)
end EW.PT

-- part: K11c
set_option maxHeartbeats 1000000
/-! k11: code and checks, printed by gen.py -/
namespace L11
open PySem PySem.Spec PyProof.Rows L2 EW
abbrev P : Program := PySem.Challenge.pw_endwise_k11_fits_found
/-- is_whole: 0 thing -/
def c_is_whole : Fd := ⟨1, 1, 
  [.ret (.and (.isi (.v 0) ["int"]) (.not (.isi (.v 0) ["bool"])))], []⟩
/-- head: 0 term -/
def c_head : Fd := ⟨1, 1, 
  [.ife (.call "is_whole" [(.v 0)])
     [.ret (.k .non)]
     [],
  .ret (.tup [(.idx (.v 0) (.k (.int 0))), (.bin .Sub (.bi .len [(.v 0)]) (.k (.int 1)))])], []⟩
/-- fits_by: 0 pattern, 1 term, 2 filling, 3 one, 4 other -/
def c_fits_by : Fd := ⟨3, 5, 
  [.ife (.call "is_whole" [(.v 0)])
     [.ife (.cmp .NotIn (.v 0) (.v 2))
       [.sub (.v 2) (.v 0) (.v 1)]
       [],
    .ret (.cmp .Eq (.idx (.v 2) (.v 0)) (.v 1))]
     [],
  .ife (.cmp .NotEq (.call "head" [(.v 0)]) (.call "head" [(.v 1)]))
     [.ret (.k (.bl false))]
     [],
  .for_ (.tup [(.v 3), (.v 4)]) (.it .zip [(.sl (.v 0) (.k (.int 1)) .no), (.sl (.v 1) (.k (.int 1)) .no)])
     [.ife (.not (.call "fits_by" [(.v 3), (.v 4), (.v 2)]))
       [.ret (.k (.bl false))]
       []],
  .ret (.k (.bl true))], []⟩
/-- fit: 0 pattern, 1 term, 2 filling -/
def c_fit : Fd := ⟨2, 3, 
  [.asg (.v 2) (.dct false [] []),
  .ife (.call "fits_by" [(.v 0), (.v 1), (.v 2)])
     [.ret (.v 2)]
     [],
  .ret (.k .non)], []⟩
/-- _law_whole: 0 _law_found -/
def c_law_whole : Fd := ⟨1, 1, 
  [.ret (.and (.isi (.v 0) ["int"]) (.not (.isi (.v 0) ["bool"])))], []⟩
/-- _law_spread: 0 _law_cell, 1 _law_k, 2 _law_big -/
def c_law_spread : Fd := ⟨2, 3, 
  [.asg (.v 2) (.bin .Add (.bin .Pow (.k (.int 10)) (.k (.int 40))) (.k (.int 121))),
  .ret (.bin .Mod (.bin .Add (.bin .Mult (.bin .Mod (.v 0) (.v 2)) (.k (.int 31415926535897932384626433832795))) (.bin .Mult (.bin .Add (.bin .Add (.bin .Mult (.v 1) (.v 1)) (.bin .Mult (.k (.int 3)) (.v 1))) (.k (.int 7))) (.k (.int 2718281828459045235360287471)))) (.v 2))], []⟩
/-- _law_mixed: 0 _law_number, 1 _law_k, 2 _law_mixed_here -/
def c_law_mixed : Fd := ⟨2, 3, 
  [.asg (.v 2) (.bin .Mod (.bin .Add (.bin .Mult (.v 0) (.k (.int 69621))) (.bin .Mult (.bin .Add (.v 1) (.k (.int 1))) (.k (.int 1000003)))) (.bin .Add (.bin .Pow (.k (.int 10)) (.k (.int 30))) (.k (.int 57)))),
  .ret (.bin .Mod (.bin .Mult (.v 2) (.v 2)) (.bin .Add (.bin .Pow (.k (.int 10)) (.k (.int 30))) (.k (.int 57))))], []⟩
/-- _law_names: 0 _law_number, 1 _law_letters, 2 _law_size, 3 _law_at, 4 _law_base, 5 _law_k, 6 _law_sign -/
def c_law_names : Fd := ⟨1, 7, 
  [.asg (.v 1) (.k (.str "abcdefghijklmnopqrstuvwxyz")),
  .asg (.tup [(.v 0), (.v 2)]) (.bi .divmod [(.v 0), (.k (.int 8))]),
  .asg (.tup [(.v 0), (.v 3)]) (.bi .divmod [(.v 0), (.bin .Add (.v 2) (.k (.int 1)))]),
  .asg (.v 4) (.k (.str "")),
  .for_ (.v 5) (.it .range [(.bin .Add (.v 2) (.k (.int 1)))])
     [.asg (.tup [(.v 0), (.v 6)]) (.bi .divmod [(.v 0), (.k (.int 26))]),
    .asg (.v 4) (.bin .Add (.v 4) (.idx (.v 1) (.v 6)))],
  .ret (.lc (.bin .Add (.bin .Add (.sl (.v 4) .no (.v 3)) (.idx (.v 1) (.bin .Mod (.bin .Add (.v 0) (.bin .Mult (.k (.int 5)) (.v 5))) (.k (.int 26))))) (.sl (.v 4) (.bin .Add (.v 3) (.k (.int 1))) .no)) (.v 5) (.it .range [(.k (.int 5))]) .no)], []⟩
/-- _law_term: 0 _law_number, 1 _law_names_here, 2 _law_deep, 3 _law_free, 4 _law_kind, 5 _law_which, 6 _law_count_here, 7 _law_k -/
def c_law_term : Fd := ⟨4, 8, 
  [.asg (.tup [(.v 0), (.v 4)]) (.bi .divmod [(.v 0), (.k (.int 5))]),
  .ife (.or (.cmp .Eq (.v 4) (.k (.int 0))) (.and (.cmp .Eq (.v 2) (.k (.int 0))) (.cmp .Lt (.v 4) (.k (.int 3)))))
     [.ret (.idx (.v 3) (.bin .Mod (.v 0) (.bi .len [(.v 3)])))]
     [],
  .asg (.tup [(.v 0), (.v 5)]) (.bi .divmod [(.v 0), (.k (.int 5))]),
  .asg (.tup [(.v 0), (.v 6)]) (.bi .divmod [(.v 0), (.k (.int 4))]),
  .ife (.and (.cmp .Eq (.v 2) (.k (.int 1))) (.cmp .Eq (.bin .Mod (.v 0) (.k (.int 8))) (.k (.int 1))))
     [.asg (.v 6) (.bin .Add (.k (.int 4)) (.bin .Mod (.bin .FloorDiv (.v 0) (.k (.int 8))) (.k (.int 6))))]
     [],
  .ife (.cmp .Eq (.v 2) (.k (.int 0)))
     [.asg (.v 6) (.k (.int 0))]
     [],
  .ret (.bi .tuple [(.bin .Add (.lst [(.idx (.v 1) (.v 5))]) (.lc (.call "_law_term" [(.call "_law_mixed" [(.v 0), (.v 7)]), (.v 1), (.bin .Sub (.v 2) (.k (.int 1))), (.v 3)]) (.v 7) (.it .range [(.v 6)]) .no))])], []⟩
/-- _law_filled: 0 _law_term_here, 1 _law_filling, 2 _law_place -/
def c_law_filled : Fd := ⟨2, 3, 
  [.ife (.call "_law_whole" [(.v 0)])
     [.ret (.meth "get" (.v 1) [(.v 0), (.v 0)])]
     [],
  .ret (.bi .tuple [(.bin .Add (.lst [(.idx (.v 0) (.k (.int 0)))]) (.lc (.call "_law_filled" [(.v 2), (.v 1)]) (.v 2) (.sl (.v 0) (.k (.int 1)) .no) .no))])], []⟩
/-- _law_blanks: 0 _law_term_here, 1 _law_found, 2 _law_place -/
def c_law_blanks : Fd := ⟨1, 3, 
  [.ife (.call "_law_whole" [(.v 0)])
     [.ret (.lst [(.v 0)])]
     [],
  .asg (.v 1) (.lst []),
  .for_ (.v 2) (.sl (.v 0) (.k (.int 1)) .no)
     [.ex (.ext (.v 1) (.call "_law_blanks" [(.v 2)]))],
  .ret (.v 1)], []⟩
/-- _law_count: 0 _law_term_here, 1 _law_place -/
def c_law_count : Fd := ⟨1, 2, 
  [.ife (.call "_law_whole" [(.v 0)])
     [.ret (.k (.int 1))]
     [],
  .ret (.bin .Add (.k (.int 1)) (.bi .sum [(.lc (.call "_law_count" [(.v 1)]) (.v 1) (.sl (.v 0) (.k (.int 1)) .no) .no)]))], []⟩
/-- _law_chain: 0 _law_number, 1 _law_names_here, 2 _law_high, 3 _law_last, 4 _law_term_here, 5 _law_k, 6 _law_which, 7 _law_side -/
def c_law_chain : Fd := ⟨4, 8, 
  [.asg (.v 4) (.v 3),
  .for_ (.v 5) (.it .range [(.bin .Sub (.v 2) (.k (.int 1)))])
     [.asg (.tup [(.v 0), (.v 6)]) (.bi .divmod [(.v 0), (.k (.int 5))]),
    .asg (.tup [(.v 0), (.v 7)]) (.bi .divmod [(.v 0), (.k (.int 3))]),
    .ife (.and (.cmp .Eq (.v 7) (.k (.int 2))) (.cmp .NotEq (.bin .Mod (.v 5) (.k (.int 10))) (.k (.int 3))))
       [.asg (.v 7) (.k (.int 0))]
       [],
    .asg (.v 4) (.idx (.lst [(.tup [(.idx (.v 1) (.v 6)), (.v 4)]), (.tup [(.idx (.v 1) (.v 6)), (.tup [(.idx (.v 1) (.k (.int 0)))]), (.v 4)]), (.tup [(.idx (.v 1) (.v 6)), (.v 4), (.v 3)])]) (.v 7))],
  .ret (.v 4)], []⟩
/-- _law_pair: 0 _law_number, 1 _law_names_here, 2 _law_free, 3 _law_way, 4 _law_pattern, 5 _law_due, 6 _law_many, 7 _law_k, 8 _law_blank -/
def c_law_pair : Fd := ⟨3, 9, 
  [.asg (.tup [(.v 0), (.v 3)]) (.bi .divmod [(.v 0), (.k (.int 8))]),
  .ife (.cmp .Eq (.v 3) (.k (.int 5)))
     [.asg (.v 4) (.call "_law_chain" [(.call "_law_mixed" [(.v 0), (.k (.int 1))]), (.v 1), (.bin .Add (.k (.int 29)) (.bin .Mod (.v 0) (.k (.int 3)))), (.idx (.v 2) (.k (.int 0)))]),
    .asg (.v 5) (.dct false [(.idx (.v 2) (.k (.int 0))), (.call "_law_chain" [(.call "_law_mixed" [(.v 0), (.k (.int 2))]), (.v 1), (.bin .Add (.k (.int 29)) (.bin .Mod (.bin .FloorDiv (.v 0) (.k (.int 3))) (.k (.int 2)))), (.idx (.v 2) (.k (.int 1)))])] []),
    .ret (.lst [(.v 4), (.v 5)])]
     [],
  .asg (.v 4) (.call "_law_term" [(.v 0), (.v 1), (.k (.int 3)), (.v 2)]),
  .asg (.v 6) (.bi .len [(.call "_law_blanks" [(.v 4)])]),
  .asg (.v 5) (.dct false [] []),
  .for_ (.tup [(.v 7), (.v 8)]) (.it .enumerate [(.v 2)])
     [.ife (.cmp .In (.v 8) (.call "_law_blanks" [(.v 4)]))
       [.sub (.v 5) (.v 8) (.call "_law_term" [(.call "_law_mixed" [(.v 0), (.bin .Add (.k (.int 7)) (.v 7))]), (.v 1), (.bin .Sub (.bin .Sub (.k (.int 2)) (.bi .int [(.cmp .Gt (.v 6) (.k (.int 25)))])) (.bi .int [(.cmp .Gt (.v 6) (.k (.int 60)))])), (.v 2)])]
       []],
  .ret (.lst [(.v 4), (.v 5)])], []⟩
/-- _law_told: 0 _law_found, 1 _law_due, 2 _law_blank -/
def c_law_told : Fd := ⟨2, 3, 
  [.ife (.or (.not (.isi (.v 0) ["dict"])) (.cmp .NotEq (.v 0) (.v 1)))
     [.ret (.k (.bl false))]
     [],
  .ford (.v 2) .range 0 none
     [.ife (.or (.not (.call "_law_whole" [(.v 2)])) (.and (.call "_law_whole" [(.idx (.v 1) (.v 2))]) (.not (.call "_law_whole" [(.idx (.v 0) (.v 2))]))))
       [.ret (.k (.bl false))]
       []],
  .ret (.k (.bl true))], []⟩
/-- law: 0 _law_script, 1 _law_lead, 2 _law_names_here, 3 _law_first, 4 _law_free, 5 _law_k, 6 _law_cell, 7 _law_pattern, 8 _law_due, 9 _law_term_here, 10 _law_found, 11 _law_itself, 12 _law_blank -/
def c_law : Fd := ⟨1, 13, 
  [.asg (.v 1) (.call "_law_spread" [(.idx (.bin .Add (.v 0) (.lst [(.k (.int 0))])) (.k (.int 0))), (.k (.int 0))]),
  .asg (.v 2) (.call "_law_names" [(.v 1)]),
  .asg (.v 3) (.bin .Mod (.bin .FloorDiv (.v 1) (.bin .Pow (.k (.int 10)) (.k (.int 20)))) (.k (.int 1000))),
  .asg (.v 4) (.lst [(.v 3), (.bin .Mod (.bin .Add (.bin .Add (.v 3) (.k (.int 1))) (.bin .Mod (.bin .FloorDiv (.v 1) (.bin .Pow (.k (.int 10)) (.k (.int 23)))) (.k (.int 499)))) (.k (.int 1000))), (.bin .Mod (.bin .Add (.bin .Add (.v 3) (.k (.int 501))) (.bin .Mod (.bin .FloorDiv (.v 1) (.bin .Pow (.k (.int 10)) (.k (.int 26)))) (.k (.int 499)))) (.k (.int 1000)))]),
  .for_ (.tup [(.v 5), (.v 6)]) (.it .enumerate [(.sl (.v 0) .no (.k (.int 40)))])
     [.asg (.tup [(.v 7), (.v 8)]) (.call "_law_pair" [(.call "_law_spread" [(.v 6), (.bin .Add (.v 5) (.k (.int 1)))]), (.v 2), (.v 4)]),
    .asg (.v 9) (.call "_law_filled" [(.v 7), (.v 8)]),
    .ife (.cmp .Gt (.call "_law_count" [(.v 9)]) (.k (.int 1000)))
       [.cont]
       [],
    .asg (.v 10) (.call "fit" [(.v 7), (.v 9)]),
    .ife (.not (.call "_law_told" [(.v 10), (.v 8)]))
       [.ret (.k (.bl false))]
       [],
    .ex (.dcl (.v 10)),
    .ife (.not (.call "_law_told" [(.call "fit" [(.v 7), (.v 9)]), (.v 8)]))
       [.ret (.k (.bl false))]
       [],
    .asg (.v 11) (.dct false [] []),
    .for_ (.v 12) (.call "_law_blanks" [(.v 7)])
       [.sub (.v 11) (.v 12) (.v 12)],
    .ife (.not (.call "_law_told" [(.call "fit" [(.v 7), (.v 7)]), (.v 11)]))
       [.ret (.k (.bl false))]
       []],
  .ret (.k (.bl true))], []⟩
def r0 : EW.Row := ⟨"is_whole", c_is_whole, 1, ["thing"], ["thing"], none⟩
def r1 : EW.Row := ⟨"head", c_head, 2, ["term"], ["term"], none⟩
def r2 : EW.Row := ⟨"fits_by", c_fits_by, 4, ["pattern", "term", "filling", "one", "other"], ["pattern", "term", "filling"], none⟩
def r3 : EW.Row := ⟨"fit", c_fit, 5, ["pattern", "term", "filling"], ["pattern", "term"], none⟩
def r4 : EW.Row := ⟨"_law_whole", c_law_whole, 7, ["_law_found"], ["_law_found"], none⟩
def r5 : EW.Row := ⟨"_law_spread", c_law_spread, 8, ["_law_cell", "_law_k", "_law_big"], ["_law_cell", "_law_k"], none⟩
def r6 : EW.Row := ⟨"_law_mixed", c_law_mixed, 9, ["_law_number", "_law_k", "_law_mixed_here"], ["_law_number", "_law_k"], none⟩
def r7 : EW.Row := ⟨"_law_names", c_law_names, 10, ["_law_number", "_law_letters", "_law_size", "_law_at", "_law_base", "_law_k", "_law_sign"], ["_law_number"], none⟩
def r8 : EW.Row := ⟨"_law_term", c_law_term, 11, ["_law_number", "_law_names_here", "_law_deep", "_law_free", "_law_kind", "_law_which", "_law_count_here", "_law_k"], ["_law_number", "_law_names_here", "_law_deep", "_law_free"], none⟩
def r9 : EW.Row := ⟨"_law_filled", c_law_filled, 12, ["_law_term_here", "_law_filling", "_law_place"], ["_law_term_here", "_law_filling"], none⟩
def r10 : EW.Row := ⟨"_law_blanks", c_law_blanks, 13, ["_law_term_here", "_law_found", "_law_place"], ["_law_term_here"], none⟩
def r11 : EW.Row := ⟨"_law_count", c_law_count, 14, ["_law_term_here", "_law_place"], ["_law_term_here"], none⟩
def r12 : EW.Row := ⟨"_law_chain", c_law_chain, 15, ["_law_number", "_law_names_here", "_law_high", "_law_last", "_law_term_here", "_law_k", "_law_which", "_law_side"], ["_law_number", "_law_names_here", "_law_high", "_law_last"], none⟩
def r13 : EW.Row := ⟨"_law_pair", c_law_pair, 16, ["_law_number", "_law_names_here", "_law_free", "_law_way", "_law_pattern", "_law_due", "_law_many", "_law_k", "_law_blank"], ["_law_number", "_law_names_here", "_law_free"], none⟩
def r14 : EW.Row := ⟨"_law_told", c_law_told, 17, ["_law_found", "_law_due", "_law_blank"], ["_law_found", "_law_due"], none⟩
def r15 : EW.Row := ⟨"law", c_law, 18, ["_law_script", "_law_lead", "_law_names_here", "_law_first", "_law_free", "_law_k", "_law_cell", "_law_pattern", "_law_due", "_law_term_here", "_law_found", "_law_itself", "_law_blank"], ["_law_script"], none⟩
def cs : List (String × D) := []
def xcs : EW.Exs := []
def clss : List EW.ClR := []
def rows : List EW.Row := [r0, r1, r2, r3, r4, r5, r6, r7, r8, r9, r10, r11, r12, r13, r14, r15]
theorem k0 : rowChk P cs rows xcs clss r0 = true := by kernel_rfl
theorem b0 : BindN P r0 := ⟨fun _ _ _ _ _ _ _ us hl => match us, hl with | [_], _ => rfl, fun h => absurd rfl h⟩
theorem k1 : rowChk P cs rows xcs clss r1 = true := by kernel_rfl
theorem b1 : BindN P r1 := ⟨fun _ _ _ _ _ _ _ us hl => match us, hl with | [_], _ => rfl, fun h => absurd rfl h⟩
theorem k2 : rowChk P cs rows xcs clss r2 = true := by kernel_rfl
theorem b2 : BindN P r2 := ⟨fun _ _ _ _ _ _ _ us hl => match us, hl with | [_, _, _], _ => rfl, fun h => absurd rfl h⟩
theorem k3 : rowChk P cs rows xcs clss r3 = true := by kernel_rfl
theorem b3 : BindN P r3 := ⟨fun _ _ _ _ _ _ _ us hl => match us, hl with | [_, _], _ => rfl, fun h => absurd rfl h⟩
theorem k4 : rowChk P cs rows xcs clss r4 = true := by kernel_rfl
theorem b4 : BindN P r4 := ⟨fun _ _ _ _ _ _ _ us hl => match us, hl with | [_], _ => rfl, fun h => absurd rfl h⟩
theorem k5 : rowChk P cs rows xcs clss r5 = true := by kernel_rfl
theorem b5 : BindN P r5 := ⟨fun _ _ _ _ _ _ _ us hl => match us, hl with | [_, _], _ => rfl, fun h => absurd rfl h⟩
theorem k6 : rowChk P cs rows xcs clss r6 = true := by kernel_rfl
theorem b6 : BindN P r6 := ⟨fun _ _ _ _ _ _ _ us hl => match us, hl with | [_, _], _ => rfl, fun h => absurd rfl h⟩
theorem k7 : rowChk P cs rows xcs clss r7 = true := by kernel_rfl
theorem b7 : BindN P r7 := ⟨fun _ _ _ _ _ _ _ us hl => match us, hl with | [_], _ => rfl, fun h => absurd rfl h⟩
theorem k8 : rowChk P cs rows xcs clss r8 = true := by kernel_rfl
theorem b8 : BindN P r8 := ⟨fun _ _ _ _ _ _ _ us hl => match us, hl with | [_, _, _, _], _ => rfl, fun h => absurd rfl h⟩
theorem k9 : rowChk P cs rows xcs clss r9 = true := by kernel_rfl
theorem b9 : BindN P r9 := ⟨fun _ _ _ _ _ _ _ us hl => match us, hl with | [_, _], _ => rfl, fun h => absurd rfl h⟩
theorem k10 : rowChk P cs rows xcs clss r10 = true := by kernel_rfl
theorem b10 : BindN P r10 := ⟨fun _ _ _ _ _ _ _ us hl => match us, hl with | [_], _ => rfl, fun h => absurd rfl h⟩
theorem k11 : rowChk P cs rows xcs clss r11 = true := by kernel_rfl
theorem b11 : BindN P r11 := ⟨fun _ _ _ _ _ _ _ us hl => match us, hl with | [_], _ => rfl, fun h => absurd rfl h⟩
theorem k12 : rowChk P cs rows xcs clss r12 = true := by kernel_rfl
theorem b12 : BindN P r12 := ⟨fun _ _ _ _ _ _ _ us hl => match us, hl with | [_, _, _, _], _ => rfl, fun h => absurd rfl h⟩
theorem k13 : rowChk P cs rows xcs clss r13 = true := by kernel_rfl
theorem b13 : BindN P r13 := ⟨fun _ _ _ _ _ _ _ us hl => match us, hl with | [_, _, _], _ => rfl, fun h => absurd rfl h⟩
theorem k14 : rowChk P cs rows xcs clss r14 = true := by kernel_rfl
theorem b14 : BindN P r14 := ⟨fun _ _ _ _ _ _ _ us hl => match us, hl with | [_, _], _ => rfl, fun h => absurd rfl h⟩
theorem k15 : rowChk P cs rows xcs clss r15 = true := by kernel_rfl
theorem b15 : BindN P r15 := ⟨fun _ _ _ _ _ _ _ us hl => match us, hl with | [_], _ => rfl, fun h => absurd rfl h⟩
theorem ks : ∀ r ∈ rows, rowChk P cs rows xcs clss r = true := by
  intro r hr
  simp only [rows, List.mem_cons, List.not_mem_nil, or_false] at hr
  rcases hr with rfl | rfl | rfl | rfl | rfl | rfl | rfl | rfl | rfl | rfl | rfl | rfl | rfl | rfl | rfl | rfl
  · exact k0
  · exact k1
  · exact k2
  · exact k3
  · exact k4
  · exact k5
  · exact k6
  · exact k7
  · exact k8
  · exact k9
  · exact k10
  · exact k11
  · exact k12
  · exact k13
  · exact k14
  · exact k15
theorem bs : ∀ r ∈ rows, BindN P r := by
  intro r hr
  simp only [rows, List.mem_cons, List.not_mem_nil, or_false] at hr
  rcases hr with rfl | rfl | rfl | rfl | rfl | rfl | rfl | rfl | rfl | rfl | rfl | rfl | rfl | rfl | rfl | rfl
  · exact b0
  · exact b1
  · exact b2
  · exact b3
  · exact b4
  · exact b5
  · exact b6
  · exact b7
  · exact b8
  · exact b9
  · exact b10
  · exact b11
  · exact b12
  · exact b13
  · exact b14
  · exact b15
end L11

-- part: K11s
set_option maxHeartbeats 2000000
namespace L11
open PySem EW EW.TT EW.PT
abbrev T : Tab := tabOf rows xcs clss
theorem ffns : FitFns T := ⟨rfl, rfl, rfl, rfl⟩
theorem lw (n : Nat) (t : Tm) (h : List O) : callN T (n + 1) "_law_whole" [t.d] h = .ok (.d (.bl (isBl t))) h := sp_lw rfl n t h
/-! chains -/
def chB : List EW.S := [.asg (.tup [(.v 0), (.v 6)]) (.bi .divmod [(.v 0), (.k (.int 5))]),
    .asg (.tup [(.v 0), (.v 7)]) (.bi .divmod [(.v 0), (.k (.int 3))]),
    .ife (.and (.cmp .Eq (.v 7) (.k (.int 2))) (.cmp .NotEq (.bin .Mod (.v 5) (.k (.int 10))) (.k (.int 3))))
       [.asg (.v 7) (.k (.int 0))]
       [],
    .asg (.v 4) (.idx (.lst [(.tup [(.idx (.v 1) (.v 6)), (.v 4)]), (.tup [(.idx (.v 1) (.v 6)), (.tup [(.idx (.v 1) (.k (.int 0)))]), (.v 4)]), (.tup [(.idx (.v 1) (.v 6)), (.v 4), (.v 3)])]) (.v 7))]
structure Chn (last : Int) (i : Nat) (t : Tm) : Prop where
  ok : t.ok
  dep : t.dep ≤ i + 2
  size : t.size ≤ 2 * i + 1
  bs : ∀ j, j ∈ bks t ↔ j = last
theorem Chn.s0 {last : Int} {i : Nat} {t : Tm} (w : Chn last i t) {x : Str} (nx : Nm x) : Chn last (i + 1) (.mk x [t]) :=
  ⟨mk_ok nx (by simp) (by simpa using w.ok), by have := w.dep; simp [Tm.dep, Tm.deps]; omega, by have := w.size; simp [Tm.size, Tm.sizes]; omega, fun j => by rw [bks, bkss, bkss, List.append_nil]; exact w.bs j⟩
theorem Chn.s1 {last : Int} {i : Nat} {t : Tm} (w : Chn last i t) {x y : Str} (nx : Nm x) (ny : Nm y) : Chn last (i + 1) (.mk x [.mk y [], t]) :=
  ⟨mk_ok nx (by simp) fun u hu => by
      simp only [List.mem_cons, List.not_mem_nil, or_false] at hu
      rcases hu with rfl | rfl
      · exact mk_ok ny (by simp) (by simp)
      · exact w.ok, by have := w.dep; simp [Tm.dep, Tm.deps]; omega, by have := w.size; simp [Tm.size, Tm.sizes]; omega, fun j => by simp [bks, bkss, w.bs j]⟩
theorem Chn.s2 {last : Int} {i : Nat} {t : Tm} (w : Chn last i t) {x : Str} (nx : Nm x) (l0 : 0 ≤ last ∧ last ≤ 999) : Chn last (i + 1) (.mk x [t, .bl last]) :=
  ⟨mk_ok nx (by simp) fun u hu => by
      simp only [List.mem_cons, List.not_mem_nil, or_false] at hu
      rcases hu with rfl | rfl
      · exact w.ok
      · exact l0, by have := w.dep; simp [Tm.dep, Tm.deps]; omega, by have := w.size; simp [Tm.size, Tm.sizes]; omega, fun j => by simp [bks, bkss, w.bs j]⟩
section
variable (a b : Nat) (ns : List Str) (fs : List Int) (hl : ns.length = 5) (hns : ∀ x ∈ ns, Nm x) (hf : Free fs) (h : List O) (ha : h[a]? = some (.lst (dNames ns))) (hb : h[b]? = some (.lst (fs.map D.int)))
include hl hns ha
theorem sp_chain (n : Nat) (num : Int) (n0 : 0 ≤ num) (n1 : num < bigS) (high : Nat) (h1 : 1 ≤ high) (h2 : high ≤ 100) (last : Int) (l0 : 0 ≤ last ∧ last ≤ 999) :
    ∃ t : Tm, callN T (n + 1) "_law_chain" [.int num, .ref a, .int high, .int last] h = .ok (.d t.d) h ∧ Chn last (high - 1) t := by
  obtain ⟨x0, hx0, _, nx0⟩ := nameAt hl hns 0 (by omega) (by omega)
  obtain ⟨s', e, m, s6, s7, t, ⟨s5, rfl⟩, _, w⟩ := for_range (G := gam T n) (k := 5) (src := .it .range [(.bin .Sub (.v 2) (.k (.int 1)))]) (b := chB) (st := ⟨[.d (.int num), .d (.ref a), .d (.int high), .d (.int last), .d (.int last), .un, .un, .un], h⟩) (p := high - 1) (by
      have : ((high - 1 : Nat) : Int) = (high : Int) - 1 := by omega
      rw [this]
      simp) (by omega)
    (fun i s => ∃ (m : Int) (s6 s7 : Sl) (t : Tm), (∃ s5, s = ⟨[.d (.int m), .d (.ref a), .d (.int high), .d (.int last), .d t.d, s5, s6, s7], h⟩) ∧ (0 ≤ m ∧ m < bigS) ∧ Chn last i t) ⟨num, .un, .un, .bl last, ⟨.un, rfl⟩, ⟨n0, n1⟩, ⟨l0, by simp [Tm.dep], by simp [Tm.size], fun j => by simp [bks]⟩⟩ (fun i s hi ⟨m, s6, s7, t, ⟨s5, es⟩, ⟨m0, m1⟩, w⟩ => by
      subst es
      have b1 := bits_ok (sm_le m0 m1 (by decide)) 5
      have m20 : 0 ≤ m / 5 ∧ m / 5 < bigS := by omega
      have b2 := bits_ok (sm_le m20.1 m20.2 (by decide)) 3
      obtain ⟨x, hx, _, nx⟩ := nameAt hl hns (m % 5) (by omega) (by omega)
      have key : ∀ (sd : Int) (td : D), m / 5 % 3 = sd → ∃ (sd' : Int) (u : Tm), Chn last (i + 1) u ∧ exs (gam T n) chB ⟨[.d (.int m), .d (.ref a), .d (.int high), .d (.int last), .d t.d, .d (.int i), s6, s7], h⟩ = .ok .nx ⟨[.d (.int (m / 5 / 3)), .d (.ref a), .d (.int high), .d (.int last), .d u.d, .d (.int i), .d (.int (m % 5)), .d (.int sd')], h⟩ := fun sd td hsd => by
        have r : sd = 0 ∨ sd = 1 ∨ sd = 2 := by omega
        rcases r with rfl | rfl | rfl
        · refine ⟨0, .mk x [t], w.s0 nx, ?_⟩
          have eu : (Tm.mk x [t]).d = .tup [.str x, t.d] := by rw [d_mk]; rfl
          rw [eu]
          generalize t.d = td
          simp [chB, b1, b2, hsd, ha, hx, hx0, mkTup, mkLst, lim]
        · refine ⟨1, .mk x [.mk x0 [], t], w.s1 nx nx0, ?_⟩
          have eu : (Tm.mk x [.mk x0 [], t]).d = .tup [.str x, .tup [.str x0], t.d] := by rw [d_mk]; simp [d_mk]
          rw [eu]
          generalize t.d = td
          simp [chB, b1, b2, hsd, ha, hx, hx0, mkTup, mkLst, lim]
        · by_cases c : (i : Int) % 10 = 3
          · refine ⟨2, .mk x [t, .bl last], w.s2 nx l0, ?_⟩
            have eu : (Tm.mk x [t, .bl last]).d = .tup [.str x, t.d, .int last] := by rw [d_mk]; simp [d_bl]
            rw [eu]
            generalize t.d = td
            have a2 : ∀ x y z : D, L2.atI [x, y, z] 2 = some z := fun x y z => by
              have := atI_nat [x, y, z] 2 (by simp)
              simpa using this
            simp [chB, b1, b2, hsd, c, ha, hx, hx0, mkTup, mkLst, lim, a2]
          · refine ⟨0, .mk x [t], w.s0 nx, ?_⟩
            have eu : (Tm.mk x [t]).d = .tup [.str x, t.d] := by rw [d_mk]; rfl
            rw [eu]
            generalize t.d = td
            simp [chB, b1, b2, hsd, c, ha, hx, hx0, mkTup, mkLst, lim]
      obtain ⟨sd', u, wu, ek⟩ := key _ t.d rfl
      exact ⟨_, .inl ek, m / 5 / 3, _, _, u, ⟨_, rfl⟩, by omega, wu⟩)
  refine ⟨t, ?_, w⟩
  have eb : c_law_chain = ⟨4, 8, [.asg (.v 4) (.v 3), .for_ (.v 5) (.it .range [(.bin .Sub (.v 2) (.k (.int 1)))]) chB, .ret (.v 4)], []⟩ := rfl
  rw [callN_run T n h (fd := c_law_chain) rfl rfl rfl, runB_end]
  generalize t.d = td at e ⊢
  simp [eb, startS, e]
include hb hf
structure Pr (p : Tm) (prs : List (Int × Tm)) : Prop where
  ok : p.ok
  dep : p.dep ≤ 40
  size : p.size ≤ 1000
  nd : (prs.map (·.1)).Nodup
  val : ∀ q ∈ prs, q.2.ok ∧ q.2.dep ≤ 40 ∧ q.2.size ≤ 100
  key : ∀ j, j ∈ prs.map (·.1) ↔ j ∈ bks p
def wayB : List EW.S := [.asg (.v 4) (.call "_law_chain" [(.call "_law_mixed" [(.v 0), (.k (.int 1))]), (.v 1), (.bin .Add (.k (.int 29)) (.bin .Mod (.v 0) (.k (.int 3)))), (.idx (.v 2) (.k (.int 0)))]),
    .asg (.v 5) (.dct false [(.idx (.v 2) (.k (.int 0))), (.call "_law_chain" [(.call "_law_mixed" [(.v 0), (.k (.int 2))]), (.v 1), (.bin .Add (.k (.int 29)) (.bin .Mod (.bin .FloorDiv (.v 0) (.k (.int 3))) (.k (.int 2)))), (.idx (.v 2) (.k (.int 1)))])] []),
    .ret (.lst [(.v 4), (.v 5)])]
def prE : E := .call "_law_term" [(.call "_law_mixed" [(.v 0), (.bin .Add (.k (.int 7)) (.v 7))]), (.v 1), (.bin .Sub (.bin .Sub (.k (.int 2)) (.bi .int [(.cmp .Gt (.v 6) (.k (.int 25)))])) (.bi .int [(.cmp .Gt (.v 6) (.k (.int 60)))])), (.v 2)]
def prB : List EW.S := [.ife (.cmp .In (.v 8) (.call "_law_blanks" [(.v 4)]))
       [.sub (.v 5) (.v 8) prE]
       []]
omit hl hns ha hb hf in
theorem gc_lref (h : List O) (p : D) (o : O) : gc h (.ok (.o (.lst [p, .ref h.length])) (h ++ [o])) = .ok (.o (.lst [p, .ref h.length])) (h ++ [o]) := by
  unfold gc
  simp [EV.lt, O.lt, D.lts, D.lt]
omit hl hns ha hb hf in
theorem mkDct_one (i : Int) (x : D) : mkDct false [.int i, x] = some (.dct false [(.int i, x)]) := by
  rfl
theorem pair_way (num : Int) (n0 : 0 ≤ num) (n1 : num < bigS) : ∃ p prs σ, exs (gam T 109) wayB ⟨[.d (.int num), .d (.ref a), .d (.ref b), .d (.int 5), .un, .un, .un, .un, .un], h⟩ = .ok (.rt (.o (.lst [p.d, .ref h.length]))) ⟨σ, h ++ [.dct false (kvD Tm.d prs)]⟩ ∧ Pr p prs := by
  obtain ⟨f0, hf0, a0, a1, _⟩ := freeAt hf 0 (by omega) (by omega)
  obtain ⟨f1, hf1, c0, c1, _⟩ := freeAt hf 1 (by omega) (by omega)
  obtain ⟨g1, eg1, g10, g11⟩ := sp_mixed (T := T) rfl 108 h num 1 n0 n1 (by omega) (by omega)
  obtain ⟨g2, eg2, g20, g21⟩ := sp_mixed (T := T) rfl 108 h num 2 n0 n1 (by omega) (by omega)
  obtain ⟨k1, hk1, r1, r1'⟩ : ∃ k : Nat, 29 + num % 3 = (k : Int) ∧ 29 ≤ k ∧ k ≤ 31 := ⟨(29 + num % 3).toNat, by omega, by omega, by omega⟩
  obtain ⟨k2, hk2, r2, r2'⟩ : ∃ k : Nat, 29 + num / 3 % 2 = (k : Int) ∧ 29 ≤ k ∧ k ≤ 31 := ⟨(29 + num / 3 % 2).toNat, by omega, by omega, by omega⟩
  obtain ⟨p, ep, wp⟩ := sp_chain a ns hl hns h ha 108 g1 g10 g11 k1 (by omega) (by omega) f0 ⟨a0, a1⟩
  obtain ⟨u, eu, wu⟩ := sp_chain a ns hl hns h ha 108 g2 g20 g21 k2 (by omega) (by omega) f1 ⟨c0, c1⟩
  have eg1 : callN T 109 "_law_mixed" [.int num, .int 1] h = _ := eg1
  have eg2 : callN T 109 "_law_mixed" [.int num, .int 2] h = _ := eg2
  have ep : callN T 109 "_law_chain" _ h = _ := ep
  have eu : callN T 109 "_law_chain" _ h = _ := eu
  rw [← hk1] at ep
  rw [← hk2] at eu
  refine ⟨p, [(f0, u)], [.d (.int num), .d (.ref a), .d (.ref b), .d (.int 5), .d p.d, .d (.ref h.length), .un, .un, .un], ?_, ⟨wp.ok, by have := wp.dep; omega, by have := wp.size; omega, by simp, fun q hq => ?_, fun j => ?_⟩⟩
  · show exs (gam T 109) [_, _, _] _ = _
    have w1 : toDs [.d p.d, .pl 5] ⟨[.d (.int num), .d (.ref a), .d (.ref b), .d (.int 5), .d p.d, .o (.dct false [(.int f0, u.d)]), .un, .un, .un], h⟩ = some ([p.d, .ref h.length], ⟨[.d (.int num), .d (.ref a), .d (.ref b), .d (.int 5), .d p.d, .d (.ref h.length), .un, .un, .un], h ++ [.dct false [(.int f0, u.d)]]⟩) := by
      simp [toDs, toD]
    have ek : kvD Tm.d [(f0, u)] = [(.int f0, u.d)] := rfl
    rw [ek]
    generalize p.d = pd at ep w1 ⊢
    generalize u.d = ud at eu w1 ⊢
    generalize fs.map D.int = F at hb hf0 hf1
    simp [eg1, eg2, ep, eu, hb, hf0, hf1, mkDct_one, w1, mkLst, lim, leave]
  · have e := List.mem_singleton.mp hq
    subst e
    have := wu.dep
    have := wu.size
    exact ⟨wu.ok, by show u.dep ≤ 40; omega, by show u.size ≤ 100; omega⟩
  · rw [wp.bs j]
    simp
theorem pair_loop (p : Tm) (pok : p.ok) (pd : p.dep ≤ 4) (ps : p.size ≤ 1000) (num : Int) (n0 : 0 ≤ num) (n1 : num < bigS) (s3 : Sl) (many : Int) :
    ∃ prs s7 s8, ex (gam T 109) (.for_ (.tup [(.v 7), (.v 8)]) (.it .enumerate [(.v 2)]) prB) ⟨[.d (.int num), .d (.ref a), .d (.ref b), s3, .d p.d, .o (.dct false []), .d (.int many), .un, .un], h⟩ = .ok .nx ⟨[.d (.int num), .d (.ref a), .d (.ref b), s3, .d p.d, .o (.dct false (kvD Tm.d prs)), .d (.int many), s7, s8], h⟩ ∧
      (prs.map (·.1)).Nodup ∧ (∀ q ∈ prs, q.2.ok ∧ q.2.dep ≤ 40 ∧ q.2.size ≤ 100) ∧ (∀ j, j ∈ prs.map (·.1) ↔ j ∈ fs ∧ j ∈ bks p) := by
  have eb : callN T 109 "_law_blanks" [p.d] h = .ok (.o (.lst ((bks p).map D.int))) h := sp_lb rfl rfl 4 p 104 h pd (by omega)
  obtain ⟨s', e, prs, ⟨s7, s8, rfl⟩, w1, w2, w3, w4⟩ := for_stay (G := gam T 109) (tg := .tup [(.v 7), (.v 8)]) (src := .it .enumerate [(.v 2)]) (b := prB) (st := ⟨[.d (.int num), .d (.ref a), .d (.ref b), s3, .d p.d, .o (.dct false []), .d (.int many), .un, .un], h⟩) (st1 := ⟨[.d (.int num), .d (.ref a), .d (.ref b), s3, .d p.d, .o (.dct false []), .d (.int many), .un, .un], h⟩) (v := .it .enumerate [.d (.ref b)]) (xs := enumD 0 (fs.map D.int)) (by simp) rfl
    (fun i s => ∃ prs, (∃ s7 s8, s = ⟨[.d (.int num), .d (.ref a), .d (.ref b), s3, .d p.d, .o (.dct false (kvD Tm.d prs)), .d (.int many), s7, s8], h⟩) ∧ (prs.map (·.1)).Nodup ∧ (∀ q ∈ prs, q.2.ok ∧ q.2.dep ≤ 40 ∧ q.2.size ≤ 100) ∧ (∀ j, j ∈ prs.map (·.1) ↔ j ∈ fs.take i ∧ j ∈ bks p) ∧ prs.length ≤ i) (fun i s ⟨prs, ⟨s7, s8, es⟩, _⟩ => by
      subst es
      simp [items, hb]) ⟨[], ⟨.un, .un, rfl⟩, List.nodup_nil, (fun q hq => by cases hq), (fun j => by simp), by simp⟩ (fun i hi s ⟨prs, ⟨s7, s8, es⟩, w1, w2, w3, w4⟩ => by
      subst es
      have hi' : i < fs.length := by rw [enumD_length] at hi; simpa using hi
      have h3 := hf.1
      have ex0 : (enumD 0 (fs.map D.int))[i] = .tup [.int (i : Nat), .int fs[i]] := by
        have := enumD_get (fs.map D.int) 0 i (.int fs[i]) (by simp [hi'])
        rw [List.getElem?_eq_getElem hi] at this
        rw [Option.some.inj this, Nat.zero_add]
      have etk : fs.take (i + 1) = fs.take i ++ [fs[i]] := List.take_succ_eq_append_getElem hi'
      obtain ⟨st, hst⟩ : ∃ st : St, st = ⟨[.d (.int num), .d (.ref a), .d (.ref b), s3, .d p.d, .o (.dct false (kvD Tm.d prs)), .d (.int many), .d (.int (i : Nat)), .d (.int fs[i])], h⟩ := ⟨_, rfl⟩
      have ec : ev (gam T 109) (.cmp .In (.v 8) (.call "_law_blanks" [(.v 4)])) st = .ok (.d (.bl (decide (fs[i] ∈ bks p)))) st := by
        rw [hst]
        have ei := in_ints fs[i] (bks p)
        generalize (bks p).map D.int = B at eb ei
        generalize decide (fs[i] ∈ bks p) = c at ei ⊢
        generalize fs[i] = fi at ei ⊢
        generalize p.d = pd at eb ⊢
        generalize kvD Tm.d prs = K
        simp [eb, ei]
      by_cases c : fs[i] ∈ bks p
      · obtain ⟨g, eg, g0, g1⟩ := sp_mixed (T := T) rfl 108 h num (7 + (i : Nat)) n0 n1 (by omega) (by omega)
        have eg : callN T 109 "_law_mixed" [.int num, .int (7 + (i : Nat))] h = _ := eg
        obtain ⟨d, hd, d2⟩ : ∃ d : Nat, (2 : Int) - (if many > 25 then 1 else 0) - (if many > 60 then 1 else 0) = (d : Int) ∧ d ≤ 2 := by
          by_cases c1 : many > 25
          · by_cases c2 : many > 60
            · exact ⟨0, by rw [if_pos c1, if_pos c2]; rfl, by omega⟩
            · exact ⟨1, by rw [if_pos c1, if_neg c2]; rfl, by omega⟩
          · exact ⟨2, by rw [if_neg c1, if_neg (by omega)]; rfl, by omega⟩
        obtain ⟨t, et, t1, t2, t3⟩ := sp_term2 (T := T) (M := 6) (by decide) rfl rfl a b ns fs h ha hl hns hb hf d (107 - d) g g0 g1
        rw [show 107 - d + d + 2 = 109 by omega] at et
        have t3' : t.size ≤ 100 := Nat.le_trans t3 (by
          have : d = 0 ∨ d = 1 ∨ d = 2 := by omega
          rcases this with rfl | rfl | rfl <;> decide)
        have ed : ev (gam T 109) (.bin .Sub (.bin .Sub (.k (.int 2)) (.bi .int [(.cmp .Gt (.v 6) (.k (.int 25)))])) (.bi .int [(.cmp .Gt (.v 6) (.k (.int 60)))])) st = .ok (.d (.int d)) st := by
          rw [← hd, hst]
          generalize kvD Tm.d prs = K
          generalize p.d = pd
          simp
        have em : ev (gam T 109) (.call "_law_mixed" [(.v 0), (.bin .Add (.k (.int 7)) (.v 7))]) st = .ok (.d (.int g)) st := by
          rw [hst]
          generalize kvD Tm.d prs = K
          generalize p.d = pd
          simp [eg]
        have e1 : ev (gam T 109) (.v 1) st = .ok (.d (.ref a)) st := by rw [hst]; simp
        have e2 : ev (gam T 109) (.v 2) st = .ok (.d (.ref b)) st := by rw [hst]; simp
        have hh : st.h = h := by rw [hst]
        have ect : ev (gam T 109) prE st = .ok (.d t.d) st := by
          unfold prE
          rw [ev_call]
          simp only [evs_cons, evs_nil, em, e2, ed, e1, Out.bind_ok]
          generalize t.d = td at et ⊢
          simp [hh, et]
          rw [← hh]
        have hk : (kvD Tm.d prs).length < 1000000 := by
          rw [kvD_len]
          omega
        have es : ex (gam T 109) (.sub (.v 5) (.v 8) prE) st = .ok .nx ⟨[.d (.int num), .d (.ref a), .d (.ref b), s3, .d p.d, .o (.dct false (kvD Tm.d (aput prs fs[i] t))), .d (.int many), .d (.int (i : Nat)), .d (.int fs[i])], h⟩ := by
          rw [← kvD_put, ex_sub, ect, hst]
          generalize kvD Tm.d prs = K at hk ⊢
          generalize t.d = td
          generalize p.d = pd
          generalize fs[i] = fi
          simp [hk, lim, kI_some]
        refine ⟨st, ⟨[.d (.int num), .d (.ref a), .d (.ref b), s3, .d p.d, .o (.dct false (kvD Tm.d (aput prs fs[i] t))), .d (.int many), .d (.int (i : Nat)), .d (.int fs[i])], h⟩, by rw [ex0, hst]; rfl, .inl ?_, _, ⟨_, _, rfl⟩, aput_nodup w1, fun q hq => ?_, fun j => ?_, ?_⟩
        · unfold prB
          rw [exs_cons, ex_ife, tst_cmp, ec]
          simp only [Out.bind_ok, rd_bl, Option.bind_some, truth_bl, Out.of_some, decide_eq_true c, if_true, exs_cons, exs_nil, es, thn_nx]
        · rcases aput_mem hq with z | z
          · exact w2 q z
          · rw [z]
            exact ⟨t1, by omega, t3'⟩
        · rw [aput_keys, etk, List.mem_append, List.mem_singleton]
          split
          · rw [w3]
            constructor
            · exact fun z => ⟨.inl z.1, z.2⟩
            · rintro ⟨z | z, y⟩
              · exact ⟨z, y⟩
              · rename_i hm
                rw [z]
                exact (w3 _).mp hm
          · rw [List.mem_append, List.mem_singleton, w3]
            constructor
            · rintro (z | z)
              · exact ⟨.inl z.1, z.2⟩
              · exact ⟨.inr z, z ▸ c⟩
            · rintro ⟨z | z, y⟩
              · exact .inl ⟨z, y⟩
              · exact .inr z
        · have := aput_len (prs := prs) (i := fs[i]) (u := t)
          omega
      · refine ⟨st, st, by rw [ex0, hst]; rfl, .inl ?_, prs, ⟨_, _, hst⟩, w1, w2, fun j => ?_, by omega⟩
        · unfold prB
          rw [exs_cons, ex_ife, tst_cmp, ec]
          simp [c]
        · rw [w3, etk, List.mem_append, List.mem_singleton]
          constructor
          · exact fun z => ⟨.inl z.1, z.2⟩
          · rintro ⟨z | z, y⟩
            · exact ⟨z, y⟩
            · exact (c (z ▸ y)).elim)
  refine ⟨prs, s7, s8, e, w1, w2, fun j => ?_⟩
  rw [w3, enumD_length, List.length_map, List.take_length]
theorem sp_pair (num : Int) (n0 : 0 ≤ num) (n1 : num < bigS) : ∃ p prs, callN T 110 "_law_pair" [.int num, .ref a, .ref b] h = .ok (.o (.lst [p.d, .ref h.length])) (h ++ [.dct false (kvD Tm.d prs)]) ∧ Pr p prs := by
  have b0 := bits_ok (sm_le n0 n1 (by decide)) 8
  have m0 : 0 ≤ num / 8 ∧ num / 8 < bigS := by omega
  have q0 : ex (gam T 109) (.asg (.tup [(.v 0), (.v 3)]) (.bi .divmod [(.v 0), (.k (.int 8))])) ⟨[.d (.int num), .d (.ref a), .d (.ref b), .un, .un, .un, .un, .un, .un], h⟩ = .ok .nx ⟨[.d (.int (num / 8)), .d (.ref a), .d (.ref b), .d (.int (num % 8)), .un, .un, .un, .un, .un], h⟩ := by
    simp [b0]
  rw [show (110 : Nat) = 109 + 1 from rfl]
  simp only [callN_run T 109 h (f := "_law_pair") (fd := c_law_pair) (ds := [.int num, .ref a, .ref b]) rfl rfl rfl, runB_end]
  by_cases c : num % 8 = 5
  · obtain ⟨p, prs, σ, e, w⟩ := pair_way a b ns fs hl hns hf h ha hb (num / 8) m0.1 m0.2
    refine ⟨p, prs, ?_, w⟩
    have run : exs (gam T 109) c_law_pair.body ⟨startS c_law_pair.n [.int num, .ref a, .ref b], h⟩ = .ok (.rt (.o (.lst [p.d, .ref h.length]))) ⟨σ, h ++ [.dct false (kvD Tm.d prs)]⟩ := by
      show exs _ [_, .ife _ wayB [], _, _, _, _, _] ⟨[.d (.int num), .d (.ref a), .d (.ref b), .un, .un, .un, .un, .un, .un], h⟩ = _
      rw [exs_cons, q0]
      simp only [Out.bind_ok, thn_nx]
      rw [exs_cons, ex_ife]
      rw [c]
      simp [e]
    rw [run, endB_rt]
    exact gc_lref h _ _
  · obtain ⟨p, ep, pok, pd, ps, pb⟩ := sp_term2b (T := T) (M := 6) (by decide) rfl rfl a b ns fs h ha hl hns hb hf 3 104 (num / 8) m0.1 m0.2
    have ep : callN T 109 "_law_term" [.int (num / 8), .ref a, .int 3, .ref b] h = _ := ep
    have eb : callN T 109 "_law_blanks" [p.d] h = .ok (.o (.lst ((bks p).map D.int))) h := sp_lb rfl rfl 4 p 104 h (by omega) (by omega)
    obtain ⟨prs, s7, s8, e, w1, w2, w3⟩ := pair_loop a b ns fs hl hns hf h ha hb p pok (by omega) (by omega) (num / 8) m0.1 m0.2 (.d (.int (num % 8))) (bks p).length
    refine ⟨p, prs, ?_, ⟨pok, by omega, by omega, w1, w2, fun j => ?_⟩⟩
    · have q1 : ex (gam T 109) (.ife (.cmp .Eq (.v 3) (.k (.int 5))) wayB []) ⟨[.d (.int (num / 8)), .d (.ref a), .d (.ref b), .d (.int (num % 8)), .un, .un, .un, .un, .un], h⟩ = .ok .nx ⟨[.d (.int (num / 8)), .d (.ref a), .d (.ref b), .d (.int (num % 8)), .un, .un, .un, .un, .un], h⟩ := by
        generalize wayB = W
        simp [c]
      have q2 : ex (gam T 109) (.asg (.v 4) (.call "_law_term" [(.v 0), (.v 1), (.k (.int 3)), (.v 2)])) ⟨[.d (.int (num / 8)), .d (.ref a), .d (.ref b), .d (.int (num % 8)), .un, .un, .un, .un, .un], h⟩ = .ok .nx ⟨[.d (.int (num / 8)), .d (.ref a), .d (.ref b), .d (.int (num % 8)), .d p.d, .un, .un, .un, .un], h⟩ := by
        generalize p.d = pd at ep ⊢
        simp [ep]
      have q3 : ex (gam T 109) (.asg (.v 6) (.bi .len [(.call "_law_blanks" [(.v 4)])])) ⟨[.d (.int (num / 8)), .d (.ref a), .d (.ref b), .d (.int (num % 8)), .d p.d, .un, .un, .un, .un], h⟩ = .ok .nx ⟨[.d (.int (num / 8)), .d (.ref a), .d (.ref b), .d (.int (num % 8)), .d p.d, .un, .d (.int (bks p).length), .un, .un], h⟩ := by
        have el : (bks p).length = ((bks p).map D.int).length := by simp
        rw [el]
        generalize (bks p).map D.int = B at eb ⊢
        generalize p.d = pd at eb ⊢
        simp [eb]
      have q4 : ex (gam T 109) (.asg (.v 5) (.dct false [] [])) ⟨[.d (.int (num / 8)), .d (.ref a), .d (.ref b), .d (.int (num % 8)), .d p.d, .un, .d (.int (bks p).length), .un, .un], h⟩ = .ok .nx ⟨[.d (.int (num / 8)), .d (.ref a), .d (.ref b), .d (.int (num % 8)), .d p.d, .o (.dct false []), .d (.int (bks p).length), .un, .un], h⟩ := by
        generalize p.d = pd
        simp
      have q6 : ex (gam T 109) (.ret (.lst [(.v 4), (.v 5)])) ⟨[.d (.int (num / 8)), .d (.ref a), .d (.ref b), .d (.int (num % 8)), .d p.d, .o (.dct false (kvD Tm.d prs)), .d (.int (bks p).length), s7, s8], h⟩ = .ok (.rt (.o (.lst [p.d, .ref h.length]))) ⟨[.d (.int (num / 8)), .d (.ref a), .d (.ref b), .d (.int (num % 8)), .d p.d, .d (.ref h.length), .d (.int (bks p).length), s7, s8], h ++ [.dct false (kvD Tm.d prs)]⟩ := by
        have w1 : toDs [.d p.d, .pl 5] ⟨[.d (.int (num / 8)), .d (.ref a), .d (.ref b), .d (.int (num % 8)), .d p.d, .o (.dct false (kvD Tm.d prs)), .d (.int (bks p).length), s7, s8], h⟩ = some ([p.d, .ref h.length], ⟨[.d (.int (num / 8)), .d (.ref a), .d (.ref b), .d (.int (num % 8)), .d p.d, .d (.ref h.length), .d (.int (bks p).length), s7, s8], h ++ [.dct false (kvD Tm.d prs)]⟩) := by
          simp [toDs, toD]
        generalize p.d = pd at w1 ⊢
        generalize kvD Tm.d prs = K at w1 ⊢
        simp [w1, mkLst, lim, leave]
      have run : exs (gam T 109) c_law_pair.body ⟨startS c_law_pair.n [.int num, .ref a, .ref b], h⟩ = .ok (.rt (.o (.lst [p.d, .ref h.length]))) ⟨[.d (.int (num / 8)), .d (.ref a), .d (.ref b), .d (.int (num % 8)), .d p.d, .d (.ref h.length), .d (.int (bks p).length), s7, s8], h ++ [.dct false (kvD Tm.d prs)]⟩ := by
        show exs _ [_, .ife _ wayB [], _, _, _, .for_ _ _ prB, _] ⟨[.d (.int num), .d (.ref a), .d (.ref b), .un, .un, .un, .un, .un, .un], h⟩ = _
        rw [exs_cons, q0]
        simp only [Out.bind_ok, thn_nx]
        rw [exs_cons, q1]
        simp only [Out.bind_ok, thn_nx]
        rw [exs_cons, q2]
        simp only [Out.bind_ok, thn_nx]
        rw [exs_cons, q3]
        simp only [Out.bind_ok, thn_nx]
        rw [exs_cons, q4]
        simp only [Out.bind_ok, thn_nx]
        rw [exs_cons, e]
        simp only [Out.bind_ok, thn_nx]
        rw [exs_cons, q6]
        rfl
      rw [run, endB_rt]
      exact gc_lref h _ _
    · rw [w3]
      exact ⟨fun z => z.2, fun z => ⟨pb j z, z⟩⟩
end
end L11

-- part: K11l
set_option maxHeartbeats 8000000
namespace L11
open PySem EW EW.TT EW.PT
/-! told -/
def tdB : List EW.S := [.ife (.or (.not (.call "_law_whole" [(.v 2)])) (.and (.call "_law_whole" [(.idx (.v 1) (.v 2))]) (.not (.call "_law_whole" [(.idx (.v 0) (.v 2))]))))
       [.ret (.k (.bl false))]
       []]
theorem cmp_ne (xs ys : List (D × D)) (h : dEq xs ys = true) : cmpE .NotEq (.o (.dct false xs)) (.o (.dct false ys)) = some (.d (.bl false)) := by
  unfold cmpE cmpW
  rw [eq_dct xs ys h]
  rfl
theorem sp_told (a b : Nat) (h : List O) (A B : List (Int × Tm)) (ha : h[a]? = some (.dct false (kvD Tm.d A))) (hb : h[b]? = some (.dct false (kvD Tm.d B))) (hab : a ≠ b) (kA : Kept A) (kB : Kept B) (hx : ∀ x, x ∈ A ↔ x ∈ B) :
    callN T 110 "_law_told" [.ref a, .ref b] h = .ok (.d (.bl true)) h := by
  have eq := cmp_ne _ _ (dEq_of kA kB hx)
  have hla : a < h.length := (List.getElem?_eq_some_iff.mp ha).1
  have q1 : ex (gam T 109) (.ife (.or (.not (.isi (.v 0) ["dict"])) (.cmp .NotEq (.v 0) (.v 1)))
     [.ret (.k (.bl false))]
     []) ⟨[.d (.ref a), .d (.ref b), .un], h⟩ = .ok .nx ⟨[.d (.ref a), .d (.ref b), .un], h⟩ := by
    generalize kvD Tm.d A = KA at ha eq
    generalize kvD Tm.d B = KB at hb eq
    simp [isiE, isiW, ha, hb, eq]
  obtain ⟨h1, eh1⟩ : ∃ h1, h1 = h.set a (.lkd (kvD Tm.d A)) := ⟨_, rfl⟩
  have g1 : h1[a]? = some (.lkd (kvD Tm.d A)) := by rw [eh1, List.getElem?_set_self hla]
  have g2 : h1[b]? = some (.dct false (kvD Tm.d B)) := by rw [eh1, List.getElem?_set_ne hab, hb]
  have eback : h1.set a (.dct false (kvD Tm.d A)) = h := by rw [eh1, set_set]; exact set_same ha
  obtain ⟨s', e, s2, rfl⟩ := foL_inv (stay := fun _ => True) (tg := .v 2) (b := exs (gam T 109) tdB) (xs := (kvD Tm.d A).map (·.1)) (st := ⟨[.d (.ref a), .d (.ref b), .un], h1⟩) (fun i s => ∃ s2, s = ⟨[.d (.ref a), .d (.ref b), s2], h1⟩) (fun _ _ _ _ => trivial) (fun j x s hxj ⟨s2, es⟩ => by
    subst es
    rw [List.getElem?_map] at hxj
    unfold kvD at hxj
    rw [List.getElem?_map] at hxj
    cases q : A[j]? with
    | none =>
      rw [q] at hxj
      cases hxj
    | some r =>
      rw [q] at hxj
      cases hxj
      have hr : r ∈ A := List.mem_of_getElem? q
      have e1 : dget false (kvD Tm.d A) (.int r.1) = some r.2.d := by rw [kvD_get, agt_of kA.nd hr]; rfl
      have e2 : dget false (kvD Tm.d B) (.int r.1) = some r.2.d := by rw [kvD_get, agt_of kB.nd ((hx r).mp hr)]; rfl
      have w1 : callN T 109 "_law_whole" [.int r.1] h1 = .ok (.d (.bl true)) h1 := lw 108 (.bl r.1) h1
      have w2 : callN T 109 "_law_whole" [r.2.d] h1 = .ok (.d (.bl (isBl r.2))) h1 := lw 108 r.2 h1
      refine ⟨_, ⟨[.d (.ref a), .d (.ref b), .d (.int r.1)], h1⟩, rfl, .inl ?_, _, rfl⟩
      show exs _ tdB ⟨[.d (.ref a), .d (.ref b), .d (.int r.1)], h1⟩ = _
      generalize kvD Tm.d A = KA at e1 g1
      generalize kvD Tm.d B = KB at e2 g2
      generalize r.2.d = rd' at e1 e2 w2
      generalize r.1 = ri at e1 e2 w1 ⊢
      generalize isBl r.2 = bb at w2
      cases bb <;> simp [tdB, w1, w2, g1, g2, e1, e2, kI_some]) ⟨.un, rfl⟩
  have q2 : ex (gam T 109) (.ford (.v 2) .range 0 none tdB) ⟨[.d (.ref a), .d (.ref b), .un], h⟩ = .ok .nx ⟨[.d (.ref a), .d (.ref b), s2], h⟩ := by
    rw [ex_ford]
    have z1 : placeD ⟨[.d (.ref a), .d (.ref b), .un], h⟩ 0 none = some (.d (.ref a)) := rfl
    have z2 : rd ⟨[.d (.ref a), .d (.ref b), .un], h⟩ (.d (.ref a)) = some (.o (.dct false (kvD Tm.d A))) := by rw [rd_ref, ha]; rfl
    have z3 : change (.d (.ref a)) lockO ⟨[.d (.ref a), .d (.ref b), .un], h⟩ = some (.d .non, ⟨[.d (.ref a), .d (.ref b), .un], h1⟩) := by
      rw [change_ref, ha, eh1]
      rfl
    rw [z1]
    simp only [z2, rowsD, z3]
    rw [if_pos (by rfl), e]
    simp only [endD]
    rw [change_ref, g1]
    simp only [Option.bind_some, openO, Option.map_some, Out.of2_some, Out.bind_ok]
    rw [eback]
  rw [show (110 : Nat) = 109 + 1 from rfl, callN_run T 109 h (f := "_law_told") (fd := c_law_told) rfl rfl rfl, runB_end]
  have run : exs (gam T 109) c_law_told.body ⟨startS c_law_told.n [.ref a, .ref b], h⟩ = .ok (.rt (.d (.bl true))) ⟨[.d (.ref a), .d (.ref b), s2], h⟩ := by
    show exs _ [_, .ford _ _ _ _ tdB, _] ⟨[.d (.ref a), .d (.ref b), .un], h⟩ = _
    rw [exs_cons, q1]
    simp only [Out.bind_ok, thn_nx]
    rw [exs_cons, q2]
    simp
  rw [run, endB_rt]
  exact gc_d h _
/-! the law -/
noncomputable abbrev GL : Gam := gam T 110
def SS (x0 x1 s2 x3 s4 s5 s6 s7 s8 s9 s10 s11 s12 : Sl) : List Sl := [x0, x1, s2, x3, s4, s5, s6, s7, s8, s9, s10, s11, s12]
def TS (x0 x1 x3 : Sl) (ns : List Str) (fs : List Int) (s : St) : Prop := ∃ s2 s4 s5 s6 s7 s8 s9 s10 s11 s12 h, s = ⟨SS x0 x1 s2 x3 s4 s5 s6 s7 s8 s9 s10 s11 s12, h⟩ ∧ NF ns fs s2 s4 h
def itB : List EW.S := [.sub (.v 11) (.v 12) (.v 12)]
def turnB : List EW.S := [.asg (.tup [(.v 7), (.v 8)]) (.call "_law_pair" [(.call "_law_spread" [(.v 6), (.bin .Add (.v 5) (.k (.int 1)))]), (.v 2), (.v 4)]),
    .asg (.v 9) (.call "_law_filled" [(.v 7), (.v 8)]),
    .ife (.cmp .Gt (.call "_law_count" [(.v 9)]) (.k (.int 1000)))
       [.cont]
       [],
    .asg (.v 10) (.call "fit" [(.v 7), (.v 9)]),
    .ife (.not (.call "_law_told" [(.v 10), (.v 8)]))
       [.ret (.k (.bl false))]
       [],
    .ex (.dcl (.v 10)),
    .ife (.not (.call "_law_told" [(.call "fit" [(.v 7), (.v 9)]), (.v 8)]))
       [.ret (.k (.bl false))]
       [],
    .asg (.v 11) (.dct false [] []),
    .for_ (.v 12) (.call "_law_blanks" [(.v 7)]) itB,
    .ife (.not (.call "_law_told" [(.call "fit" [(.v 7), (.v 7)]), (.v 11)]))
       [.ret (.k (.bl false))]
       []]
/-- fit of a pattern and its filled one -/
theorem fit_of (F : Int → Option Tm) (p : Tm) (po : p.ok) (pd : p.dep ≤ 40) (ps : p.size ≤ 1000) (ho : (fill F p).ok) (hd : (fill F p).dep ≤ 140) :
    ∃ R, (∀ h, callN T 110 "fit" [p.d, (fill F p).d] h = .ok (.o (.dct false (kvD Tm.d R))) h) ∧ Kept R ∧ ∀ x, x ∈ R ↔ ∃ i ∈ bks p, x = (i, fill F (.bl i)) := by
  have e : ∀ h, callN T 110 "fit" [p.d, (fill F p).d] h = _ := fun h => sp_fit ffns 40 p (fill F p) 67 h po ho pd hd (by omega)
  obtain ⟨h1, h2, h3⟩ := fitF_nil p (fill F p) ho hd
  have hw := wks_fill F p
  have ht : (fitF p (fill F p) []).1 = true := h1.mpr ⟨_, hw, fun x hx y hy exy => by
    obtain ⟨i, _, rfl⟩ := List.mem_map.mp hx
    obtain ⟨j, _, rfl⟩ := List.mem_map.mp hy
    have exy : i = j := exy
    rw [exy]⟩
  refine ⟨(fitF p (fill F p) []).2, fun h => by rw [e h, if_pos ht], h2, fun x => ?_⟩
  rw [h3 _ hw ht x, List.mem_map]
  constructor
  · rintro ⟨i, hi, rfl⟩
    exact ⟨i, hi, rfl⟩
  · rintro ⟨i, hi, rfl⟩
    exact ⟨i, hi, rfl⟩
theorem set_last (h : List O) (x y : O) : (h ++ [x]).set h.length y = h ++ [y] := by simp
theorem aput_memP {prs : List (Int × Tm)} {i : Int} {u : Tm} {p : Int × Tm} (h : p ∈ aput prs i u) : p ∈ prs ∨ p = (i, u) := by
  unfold aput at h
  split at h
  · obtain ⟨q, hq, e⟩ := List.mem_map.mp h
    split at e
    · rename_i c
      exact .inr (by rw [← e, c])
    · exact .inl (e ▸ hq)
  · rcases List.mem_append.mp h with z | z
    · exact .inl z
    · exact .inr (List.mem_singleton.mp z)
theorem Pr.agt {p : Tm} {prs : List (Int × Tm)} (w : Pr p prs) (x : Int × Tm) : x ∈ prs ↔ ∃ i ∈ bks p, x = (i, fill (agt prs) (.bl i)) := by
  constructor
  · intro hx
    refine ⟨x.1, (w.key _).mp (List.mem_map_of_mem hx), ?_⟩
    rw [fill, agt_of w.nd hx]
    rfl
  · rintro ⟨i, hi, rfl⟩
    obtain ⟨q, hq, rfl⟩ := List.mem_map.mp ((w.key i).mpr hi)
    rw [fill, agt_of w.nd hq]
    exact hq
section
variable (x0 x1 x3 : Sl) (ns : List Str) (fs : List Int) (hl : ns.length = 5) (hns : ∀ x ∈ ns, Nm x) (hf : Free fs)
include hl hns hf
theorem draw (k : Nat) (hk : k ≤ 40) (c : Int) (s2 s4 s7 s8 s9 s10 s11 s12 : Sl) (h : List O) (hn : NF ns fs s2 s4 h) :
    ∃ (a b m : Nat) (h1 : List O) (p : Tm) (prs : List (Int × Tm)), ex GL (.asg (.tup [(.v 7), (.v 8)]) (.call "_law_pair" [(.call "_law_spread" [(.v 6), (.bin .Add (.v 5) (.k (.int 1)))]), (.v 2), (.v 4)])) ⟨SS x0 x1 s2 x3 s4 (.d (.int k)) (.d (.int c)) s7 s8 s9 s10 s11 s12, h⟩ = .ok .nx ⟨SS x0 x1 (.d (.ref a)) x3 (.d (.ref b)) (.d (.int k)) (.d (.int c)) (.d p.d) (.d (.ref m)) s9 s10 s11 s12, h1⟩ ∧ h1[a]? = some (.lst (dNames ns)) ∧ h1[b]? = some (.lst (fs.map D.int)) ∧ h1[m]? = some (.dct false (kvD Tm.d prs)) ∧ Pr p prs := by
  have key : ∀ (a b : Nat) (h' : List O), h'[a]? = some (.lst (dNames ns)) → h'[b]? = some (.lst (fs.map D.int)) → ∃ num : Int, callN T 110 "_law_spread" [.int c, .int ((k : Nat) + 1)] h = .ok (.d (.int num)) h ∧ ∃ p prs, callN T 110 "_law_pair" [.int num, .ref a, .ref b] h' = .ok (.o (.lst [p.d, .ref h'.length])) (h' ++ [.dct false (kvD Tm.d prs)]) ∧ Pr p prs := fun a b h' ha hb => by
    obtain ⟨num, en, n0, n1⟩ := sp_spread (T := T) rfl 109 h c ((k : Nat) + 1) (by omega) (by omega)
    exact ⟨num, en, sp_pair a b ns fs hl hns hf h' ha hb num n0 n1⟩
  rcases hn with ⟨rfl, rfl⟩ | ⟨a, b, rfl, rfl, ha, hb⟩
  · obtain ⟨h1, z1⟩ : ∃ h1, h1 = h ++ [O.lst (dNames ns), .lst (fs.map D.int)] := ⟨_, rfl⟩
    have ha : h1[h.length]? = some (.lst (dNames ns)) := by rw [z1]; exact get_new _ _ _
    have hb : h1[h.length + 1]? = some (.lst (fs.map D.int)) := by rw [z1]; simp
    obtain ⟨num, en, p, prs, ep, w⟩ := key h.length (h.length + 1) h1 ha hb
    refine ⟨h.length, h.length + 1, h1.length, h1 ++ [.dct false (kvD Tm.d prs)], p, prs, ?_, get_mono ha _, get_mono hb _, get_new _ _ _, w⟩
    have w1 : toDs [.d (.int num), .pl 2, .pl 4] ⟨SS x0 x1 (.o (.lst (dNames ns))) x3 (.o (.lst (fs.map D.int))) (.d (.int k)) (.d (.int c)) s7 s8 s9 s10 s11 s12, h⟩ = some ([.int num, .ref h.length, .ref (h.length + 1)], ⟨SS x0 x1 (.d (.ref h.length)) x3 (.d (.ref (h.length + 1))) (.d (.int k)) (.d (.int c)) s7 s8 s9 s10 s11 s12, h1⟩) := by
      simp [SS, toDs, toD, z1]
    unfold SS at w1 ⊢
    generalize kvD Tm.d prs = K at ep ⊢
    generalize p.d = pd at ep ⊢
    generalize fs.map D.int = F at *
    simp [en, w1, ep, bindV, bindDs, bindD]
  · obtain ⟨num, en, p, prs, ep, w⟩ := key a b h ha hb
    refine ⟨a, b, h.length, h ++ [.dct false (kvD Tm.d prs)], p, prs, ?_, get_mono ha _, get_mono hb _, get_new _ _ _, w⟩
    unfold SS
    generalize kvD Tm.d prs = K at ep ⊢
    generalize p.d = pd at ep ⊢
    simp [en, ep, bindV, bindDs, bindD]
theorem turn (k : Nat) (hk : k ≤ 40) (c : Int) (s2 s4 s7 s8 s9 s10 s11 s12 : Sl) (h : List O) (hn : NF ns fs s2 s4 h) :
    ∃ s', (exs GL turnB ⟨SS x0 x1 s2 x3 s4 (.d (.int k)) (.d (.int c)) s7 s8 s9 s10 s11 s12, h⟩ = .ok .nx s' ∨ exs GL turnB ⟨SS x0 x1 s2 x3 s4 (.d (.int k)) (.d (.int c)) s7 s8 s9 s10 s11 s12, h⟩ = .ok .ct s') ∧ TS x0 x1 x3 ns fs s' := by
  obtain ⟨a, b, m, h1, p, prs, q1, ha, hb, hm, w⟩ := draw x0 x1 x3 ns fs hl hns hf k hk c s2 s4 s7 s8 s9 s10 s11 s12 h hn
  have hF : ∀ i u, agt prs i = some u → u.ok ∧ u.dep ≤ 40 ∧ u.size ≤ 100 := fun i u e => w.val _ (agt_mem e)
  obtain ⟨X, hX⟩ : ∃ X, X = fill (agt prs) p := ⟨_, rfl⟩
  have Xok : X.ok := by rw [hX]; exact fill_ok (fun i u e => (hF i u e).1) p w.ok
  have Xd : X.dep ≤ 80 := by
    have := fill_dep (fun i u e => (hF i u e).2.1) p
    have := w.dep
    rw [hX]
    omega
  have Xs : X.size ≤ 100000 := by
    have := fill_size (c := 100) (by omega) (fun i u e => (hF i u e).2.2) p
    have := w.size
    rw [hX]
    omega
  have ef : callN T 110 "_law_filled" [p.d, .ref m] h1 = .ok (.d X.d) h1 := by
    rw [hX]
    exact sp_lf rfl rfl (agt prs) m h1 _ hm (fun i => kvD_get prs i) 40 p 69 w.dep (by have := w.size; omega)
  have ec : callN T 110 "_law_count" [X.d] h1 = .ok (.d (.int X.size)) h1 := sp_lc rfl rfl 80 X 29 h1 Xd (by omega)
  have nf : ∀ t, NF ns fs (.d (.ref a)) (.d (.ref b)) (h1 ++ t) := fun t => .inr ⟨a, b, rfl, rfl, get_mono ha _, get_mono hb _⟩
  have q2 : ex GL (.asg (.v 9) (.call "_law_filled" [(.v 7), (.v 8)])) ⟨SS x0 x1 (.d (.ref a)) x3 (.d (.ref b)) (.d (.int k)) (.d (.int c)) (.d p.d) (.d (.ref m)) s9 s10 s11 s12, h1⟩ = .ok .nx ⟨SS x0 x1 (.d (.ref a)) x3 (.d (.ref b)) (.d (.int k)) (.d (.int c)) (.d p.d) (.d (.ref m)) (.d X.d) s10 s11 s12, h1⟩ := by
    generalize X.d = xd at ef ⊢
    generalize p.d = pd at ef ⊢
    unfold SS
    simp [ef]
  by_cases cs : X.size > 1000
  · refine ⟨⟨SS x0 x1 (.d (.ref a)) x3 (.d (.ref b)) (.d (.int k)) (.d (.int c)) (.d p.d) (.d (.ref m)) (.d X.d) s10 s11 s12, h1⟩, .inr ?_, _, _, _, _, _, _, _, _, _, _, _, rfl, by have := nf []; rwa [List.append_nil] at this⟩
    have q3 : ex GL (.ife (.cmp .Gt (.call "_law_count" [(.v 9)]) (.k (.int 1000))) [.cont] []) ⟨SS x0 x1 (.d (.ref a)) x3 (.d (.ref b)) (.d (.int k)) (.d (.int c)) (.d p.d) (.d (.ref m)) (.d X.d) s10 s11 s12, h1⟩ = .ok .ct ⟨SS x0 x1 (.d (.ref a)) x3 (.d (.ref b)) (.d (.int k)) (.d (.int c)) (.d p.d) (.d (.ref m)) (.d X.d) s10 s11 s12, h1⟩ := by
      have cs' : (1000 : Int) < X.size := by omega
      generalize X.d = xd at ec ⊢
      generalize p.d = pd
      unfold SS
      simp [ec, cs']
    show exs GL (_ :: _ :: _ :: turnB.drop 3) _ = _
    rw [exs_cons, q1]
    simp only [Out.bind_ok, thn_nx]
    rw [exs_cons, q2]
    simp only [Out.bind_ok, thn_nx]
    rw [exs_cons, q3]
    rfl
  -- the fits
  obtain ⟨R, e1, kR, mR⟩ := fit_of (agt prs) p w.ok w.dep w.size (by rw [← hX]; exact Xok) (by rw [← hX]; omega)
  rw [← hX] at e1
  obtain ⟨R0, e0, kR0, mR0⟩ := fit_of (fun _ => none) p w.ok w.dep w.size (by rw [fill_none]; exact w.ok) (by rw [fill_none]; have := w.dep; omega)
  rw [fill_none] at e0
  have mRp : ∀ x, x ∈ R ↔ x ∈ prs := fun x => by rw [mR, w.agt]
  have kp : Kept prs := ⟨w.nd, fun q hq => by have := w.val q hq; exact ⟨this.1, by omega⟩⟩
  obtain ⟨h2, eh2⟩ : ∃ h2, h2 = h1 ++ [O.dct false (kvD Tm.d R)] := ⟨_, rfl⟩
  obtain ⟨h3, eh3⟩ : ∃ h3, h3 = h1 ++ [O.dct false []] := ⟨_, rfl⟩
  obtain ⟨h4, eh4⟩ : ∃ h4, h4 = h3 ++ [O.dct false (kvD Tm.d R)] := ⟨_, rfl⟩
  have m1 : m < h1.length := (List.getElem?_eq_some_iff.mp hm).1
  have g3 : h2[h1.length]? = some (.dct false (kvD Tm.d R)) := by rw [eh2]; exact get_new _ _ _
  have gm2 : h2[m]? = some (.dct false (kvD Tm.d prs)) := by rw [eh2]; exact get_mono hm _
  have gm3 : h3[m]? = some (.dct false (kvD Tm.d prs)) := by rw [eh3]; exact get_mono hm _
  have gm4 : h4[m]? = some (.dct false (kvD Tm.d prs)) := by rw [eh4]; exact get_mono gm3 _
  have g4 : h4[h3.length]? = some (.dct false (kvD Tm.d R)) := by rw [eh4]; exact get_new _ _ _
  have l3 : h3.length = h1.length + 1 := by rw [eh3]; simp
  have set2 : h2.set h1.length (.dct false []) = h3 := by rw [eh2, eh3]; exact set_last _ _ _
  have t1 : callN T 110 "_law_told" [.ref h1.length, .ref m] h2 = .ok (.d (.bl true)) h2 := sp_told _ _ h2 R prs g3 gm2 (by omega) kR kp mRp
  have t2 : callN T 110 "_law_told" [.ref h3.length, .ref m] h4 = .ok (.d (.bl true)) h4 := sp_told _ _ h4 R prs g4 gm4 (by omega) kR kp mRp
  have eb : callN T 110 "_law_blanks" [p.d] h4 = .ok (.o (.lst ((bks p).map D.int))) h4 := sp_lb rfl rfl 40 p 69 h4 w.dep (by have := w.size; omega)
  have q3 : ex GL (.ife (.cmp .Gt (.call "_law_count" [(.v 9)]) (.k (.int 1000))) [.cont] []) ⟨SS x0 x1 (.d (.ref a)) x3 (.d (.ref b)) (.d (.int k)) (.d (.int c)) (.d p.d) (.d (.ref m)) (.d X.d) s10 s11 s12, h1⟩ = .ok .nx ⟨SS x0 x1 (.d (.ref a)) x3 (.d (.ref b)) (.d (.int k)) (.d (.int c)) (.d p.d) (.d (.ref m)) (.d X.d) s10 s11 s12, h1⟩ := by
    have cs' : ¬ (1000 : Int) < X.size := by omega
    generalize X.d = xd at ec ⊢
    generalize p.d = pd
    unfold SS
    simp [ec, cs']
  have q4 : ex GL (.asg (.v 10) (.call "fit" [(.v 7), (.v 9)])) ⟨SS x0 x1 (.d (.ref a)) x3 (.d (.ref b)) (.d (.int k)) (.d (.int c)) (.d p.d) (.d (.ref m)) (.d X.d) s10 s11 s12, h1⟩ = .ok .nx ⟨SS x0 x1 (.d (.ref a)) x3 (.d (.ref b)) (.d (.int k)) (.d (.int c)) (.d p.d) (.d (.ref m)) (.d X.d) (.o (.dct false (kvD Tm.d R))) s11 s12, h1⟩ := by
    have e1 := e1 h1
    generalize kvD Tm.d R = K at e1 ⊢
    generalize X.d = xd at e1 ⊢
    generalize p.d = pd at e1 ⊢
    unfold SS
    simp [e1]
  have q5 : ex GL (.ife (.not (.call "_law_told" [(.v 10), (.v 8)])) [.ret (.k (.bl false))] []) ⟨SS x0 x1 (.d (.ref a)) x3 (.d (.ref b)) (.d (.int k)) (.d (.int c)) (.d p.d) (.d (.ref m)) (.d X.d) (.o (.dct false (kvD Tm.d R))) s11 s12, h1⟩ = .ok .nx ⟨SS x0 x1 (.d (.ref a)) x3 (.d (.ref b)) (.d (.int k)) (.d (.int c)) (.d p.d) (.d (.ref m)) (.d X.d) (.d (.ref h1.length)) s11 s12, h2⟩ := by
    rw [eh2] at t1 ⊢
    generalize kvD Tm.d R = K at t1 ⊢
    generalize X.d = xd
    generalize p.d = pd
    unfold SS
    simp [toDs, toD, t1]
  have q6 : ex GL (.ex (.dcl (.v 10))) ⟨SS x0 x1 (.d (.ref a)) x3 (.d (.ref b)) (.d (.int k)) (.d (.int c)) (.d p.d) (.d (.ref m)) (.d X.d) (.d (.ref h1.length)) s11 s12, h2⟩ = .ok .nx ⟨SS x0 x1 (.d (.ref a)) x3 (.d (.ref b)) (.d (.int k)) (.d (.int c)) (.d p.d) (.d (.ref m)) (.d X.d) (.d (.ref h1.length)) s11 s12, h3⟩ := by
    rw [← set2]
    generalize kvD Tm.d R = K at g3 ⊢
    generalize X.d = xd
    generalize p.d = pd
    unfold SS
    simp [g3]
  have q7 : ex GL (.ife (.not (.call "_law_told" [(.call "fit" [(.v 7), (.v 9)]), (.v 8)])) [.ret (.k (.bl false))] []) ⟨SS x0 x1 (.d (.ref a)) x3 (.d (.ref b)) (.d (.int k)) (.d (.int c)) (.d p.d) (.d (.ref m)) (.d X.d) (.d (.ref h1.length)) s11 s12, h3⟩ = .ok .nx ⟨SS x0 x1 (.d (.ref a)) x3 (.d (.ref b)) (.d (.int k)) (.d (.int c)) (.d p.d) (.d (.ref m)) (.d X.d) (.d (.ref h1.length)) s11 s12, h4⟩ := by
    have e1 := e1 h3
    rw [eh4] at t2 ⊢
    generalize kvD Tm.d R = K at e1 t2 ⊢
    generalize X.d = xd at e1 ⊢
    generalize p.d = pd at e1 ⊢
    unfold SS
    simp [toDs, toD, e1, t2]
  have q8 : ex GL (.asg (.v 11) (.dct false [] [])) ⟨SS x0 x1 (.d (.ref a)) x3 (.d (.ref b)) (.d (.int k)) (.d (.int c)) (.d p.d) (.d (.ref m)) (.d X.d) (.d (.ref h1.length)) s11 s12, h4⟩ = .ok .nx ⟨SS x0 x1 (.d (.ref a)) x3 (.d (.ref b)) (.d (.int k)) (.d (.int c)) (.d p.d) (.d (.ref m)) (.d X.d) (.d (.ref h1.length)) (.o (.dct false [])) s12, h4⟩ := by
    generalize X.d = xd
    generalize p.d = pd
    unfold SS
    simp
  obtain ⟨s', q9, J, ⟨z12, rfl⟩, j1, j2, j3, j4⟩ := for_data (G := GL) (tg := .v 12) (src := .call "_law_blanks" [(.v 7)]) (b := itB) (st := ⟨SS x0 x1 (.d (.ref a)) x3 (.d (.ref b)) (.d (.int k)) (.d (.int c)) (.d p.d) (.d (.ref m)) (.d X.d) (.d (.ref h1.length)) (.o (.dct false [])) s12, h4⟩) (st1 := ⟨SS x0 x1 (.d (.ref a)) x3 (.d (.ref b)) (.d (.int k)) (.d (.int c)) (.d p.d) (.d (.ref m)) (.d X.d) (.d (.ref h1.length)) (.o (.dct false [])) s12, h4⟩) (v := .o (.lst ((bks p).map D.int))) (xs := (bks p).map D.int)
    (by
      generalize (bks p).map D.int = B at eb ⊢
      generalize X.d = xd
      generalize p.d = pd at eb ⊢
      unfold SS
      simp [eb]) (fun s => rfl) rfl
    (fun i s => ∃ J, (∃ z12, s = ⟨SS x0 x1 (.d (.ref a)) x3 (.d (.ref b)) (.d (.int k)) (.d (.int c)) (.d p.d) (.d (.ref m)) (.d X.d) (.d (.ref h1.length)) (.o (.dct false (kvD Tm.d J))) z12, h4⟩) ∧ (J.map (·.1)).Nodup ∧ (∀ q ∈ J, q.2 = .bl q.1) ∧ (∀ j, j ∈ J.map (·.1) ↔ j ∈ (bks p).take i) ∧ J.length ≤ i)
    ⟨[], ⟨s12, rfl⟩, List.nodup_nil, (fun q hq => by cases hq), (fun j => by simp), Nat.le_refl 0⟩ (fun i hi s ⟨J, ⟨z12, es⟩, j1, j2, j3, j4⟩ => by
      subst es
      have hi' : i < (bks p).length := by simpa using hi
      have etk : (bks p).take (i + 1) = (bks p).take i ++ [(bks p)[i]] := List.take_succ_eq_append_getElem hi'
      have ei : ((bks p).map D.int)[i] = .int (bks p)[i] := by simp
      have hbl := bs_len p
      have hk : (kvD Tm.d J).length < 1000000 := by
        rw [kvD_len]
        have := w.size
        omega
      refine ⟨_, ⟨SS x0 x1 (.d (.ref a)) x3 (.d (.ref b)) (.d (.int k)) (.d (.int c)) (.d p.d) (.d (.ref m)) (.d X.d) (.d (.ref h1.length)) (.o (.dct false (kvD Tm.d (aput J (bks p)[i] (.bl (bks p)[i]))))) (.d (.int (bks p)[i])), h4⟩, by rw [ei]; rfl, .inl ?_, _, ⟨_, rfl⟩, aput_nodup j1, fun q hq => ?_, fun j => ?_, ?_⟩
      · show exs GL itB ⟨SS x0 x1 (.d (.ref a)) x3 (.d (.ref b)) (.d (.int k)) (.d (.int c)) (.d p.d) (.d (.ref m)) (.d X.d) (.d (.ref h1.length)) (.o (.dct false (kvD Tm.d J))) (.d (.int (bks p)[i])), h4⟩ = _
        rw [← kvD_put]
        generalize (bks p)[i] = bi
        generalize kvD Tm.d J = K at hk ⊢
        generalize X.d = xd
        generalize p.d = pd
        unfold SS itB
        simp [hk, lim, kI_some, d_bl]
      · rcases aput_memP hq with z | z
        · exact j2 q z
        · rw [z]
      · rw [aput_keys, etk, List.mem_append, List.mem_singleton]
        split
        · rename_i hm
          rw [j3]
          constructor
          · exact .inl
          · rintro (z | z)
            · exact z
            · rw [z]
              exact (j3 _).mp hm
        · rw [List.mem_append, List.mem_singleton, j3]
      · have := aput_len (prs := J) (i := (bks p)[i]) (u := .bl (bks p)[i])
        omega)
  have mJ : ∀ x, x ∈ R0 ↔ x ∈ J := fun x => by
    rw [mR0]
    have jk : ∀ j, j ∈ J.map (·.1) ↔ j ∈ bks p := fun j => by
      rw [j3, List.length_map, List.take_length]
    constructor
    · rintro ⟨i, hi, rfl⟩
      obtain ⟨q, hq, e⟩ := List.mem_map.mp ((jk i).mpr hi)
      have := j2 q hq
      obtain ⟨q1, q2⟩ := q
      subst e
      have this : q2 = .bl q1 := this
      rw [this] at hq
      exact hq
    · intro hx
      exact ⟨x.1, (jk _).mp (List.mem_map_of_mem hx), by rw [Prod.ext_iff]; exact ⟨rfl, j2 x hx⟩⟩
  have kJ : Kept J := ⟨j1, fun q hq => kR0.ok q ((mJ q).mpr hq)⟩
  obtain ⟨h5, eh5⟩ : ∃ h5, h5 = h4 ++ [O.dct false (kvD Tm.d R0), .dct false (kvD Tm.d J)] := ⟨_, rfl⟩
  have t3 : callN T 110 "_law_told" [.ref h4.length, .ref (h4.length + 1)] h5 = .ok (.d (.bl true)) h5 := sp_told _ _ h5 R0 J (by rw [eh5]; exact get_new _ _ _) (by rw [eh5]; simp) (by omega) kR0 kJ mJ
  have q10 : ex GL (.ife (.not (.call "_law_told" [(.call "fit" [(.v 7), (.v 7)]), (.v 11)])) [.ret (.k (.bl false))] []) ⟨SS x0 x1 (.d (.ref a)) x3 (.d (.ref b)) (.d (.int k)) (.d (.int c)) (.d p.d) (.d (.ref m)) (.d X.d) (.d (.ref h1.length)) (.o (.dct false (kvD Tm.d J))) z12, h4⟩ = .ok .nx ⟨SS x0 x1 (.d (.ref a)) x3 (.d (.ref b)) (.d (.int k)) (.d (.int c)) (.d p.d) (.d (.ref m)) (.d X.d) (.d (.ref h1.length)) (.d (.ref (h4.length + 1))) z12, h5⟩ := by
    have e0 := e0 h4
    rw [eh5] at t3 ⊢
    generalize kvD Tm.d R0 = K at e0 t3 ⊢
    generalize kvD Tm.d J = K2 at t3 ⊢
    generalize X.d = xd
    generalize p.d = pd at e0 ⊢
    unfold SS
    simp [toDs, toD, e0, t3]
  have nf5 : NF ns fs (.d (.ref a)) (.d (.ref b)) h5 := by
    have := nf ([O.dct false []] ++ [O.dct false (kvD Tm.d R)] ++ [O.dct false (kvD Tm.d R0), .dct false (kvD Tm.d J)])
    rw [eh5, eh4, eh3]
    simpa using this
  refine ⟨⟨SS x0 x1 (.d (.ref a)) x3 (.d (.ref b)) (.d (.int k)) (.d (.int c)) (.d p.d) (.d (.ref m)) (.d X.d) (.d (.ref h1.length)) (.d (.ref (h4.length + 1))) z12, h5⟩, .inl ?_, _, _, _, _, _, _, _, _, _, _, _, rfl, nf5⟩
  · show exs GL [_, _, _, _, _, _, _, _, .for_ _ _ itB, _] _ = _
    rw [exs_cons, q1]
    simp only [Out.bind_ok, thn_nx]
    rw [exs_cons, q2]
    simp only [Out.bind_ok, thn_nx]
    rw [exs_cons, q3]
    simp only [Out.bind_ok, thn_nx]
    rw [exs_cons, q4]
    simp only [Out.bind_ok, thn_nx]
    rw [exs_cons, q5]
    simp only [Out.bind_ok, thn_nx]
    rw [exs_cons, q6]
    simp only [Out.bind_ok, thn_nx]
    rw [exs_cons, q7]
    simp only [Out.bind_ok, thn_nx]
    rw [exs_cons, q8]
    simp only [Out.bind_ok, thn_nx]
    rw [exs_cons, q9]
    simp only [Out.bind_ok, thn_nx]
    rw [exs_cons, q10]
    rfl
end
theorem says : LawSays T 111 "law" := by
  intro scr hlen hbits
  obtain ⟨z, hz⟩ : ∃ z, L2.atI (scr.map D.int ++ [D.int 0]) 0 = some (.int z) := by
    cases scr with
    | nil => exact ⟨0, rfl⟩
    | cons a r => exact ⟨a, atI_nat _ 0 (by simp)⟩
  obtain ⟨L, eL, L0, L1⟩ := sp_spread (T := T) rfl 109 [] z 0 (by omega) (by omega)
  have eL : callN T 110 "_law_spread" [.int z, .int 0] [] = _ := eL
  obtain ⟨ns, en, hl, hns⟩ := sp_names2 (T := T) rfl 109 L [] L0 L1
  have en : callN T 110 "_law_names" [.int L] [] = _ := en
  obtain ⟨F, hF⟩ : ∃ F, F = L / 100000000000000000000 % 1000 := ⟨_, rfl⟩
  obtain ⟨f1, hf1⟩ : ∃ f1, f1 = (F + 1 + L / 100000000000000000000000 % 499) % 1000 := ⟨_, rfl⟩
  obtain ⟨f2, hf2⟩ : ∃ f2, f2 = (F + 501 + L / 100000000000000000000000000 % 499) % 1000 := ⟨_, rfl⟩
  have hf : Free [F, f1, f2] := ⟨rfl, fun i hi => by
    simp only [List.mem_cons, List.not_mem_nil, or_false] at hi
    rcases hi with rfl | rfl | rfl <;> omega⟩
  have sl : (scr.map D.int).length + 1 ≤ 1000000 := by
    rw [List.length_map]
    omega
  obtain ⟨S0, hS⟩ : ∃ S0, S0 = D.fz (scr.map D.int) := ⟨_, rfl⟩
  have q1 : ex GL (.asg (.v 1) (.call "_law_spread" [(.idx (.bin .Add (.v 0) (.lst [(.k (.int 0))])) (.k (.int 0))), (.k (.int 0))])) ⟨SS (.d S0) .un .un .un .un .un .un .un .un .un .un .un .un, []⟩ = .ok .nx ⟨SS (.d S0) (.d (.int L)) .un .un .un .un .un .un .un .un .un .un .un, []⟩ := by
    rw [hS]
    generalize scr.map D.int = X at hz sl ⊢
    unfold SS
    simp [mkLst, lim, sl, hz, eL]
  have q2 : ex GL (.asg (.v 2) (.call "_law_names" [(.v 1)])) ⟨SS (.d S0) (.d (.int L)) .un .un .un .un .un .un .un .un .un .un .un, []⟩ = .ok .nx ⟨SS (.d S0) (.d (.int L)) (.o (.lst (dNames ns))) .un .un .un .un .un .un .un .un .un .un, []⟩ := by
    unfold SS
    simp [en]
  have q3 : ex GL (.asg (.v 3) (.bin .Mod (.bin .FloorDiv (.v 1) (.bin .Pow (.k (.int 10)) (.k (.int 20)))) (.k (.int 1000)))) ⟨SS (.d S0) (.d (.int L)) (.o (.lst (dNames ns))) .un .un .un .un .un .un .un .un .un .un, []⟩ = .ok .nx ⟨SS (.d S0) (.d (.int L)) (.o (.lst (dNames ns))) (.d (.int F)) .un .un .un .un .un .un .un .un .un, []⟩ := by
    unfold SS
    simp [fd20, hF]
  have q4 : ex GL (.asg (.v 4) (.lst [(.v 3), (.bin .Mod (.bin .Add (.bin .Add (.v 3) (.k (.int 1))) (.bin .Mod (.bin .FloorDiv (.v 1) (.bin .Pow (.k (.int 10)) (.k (.int 23)))) (.k (.int 499)))) (.k (.int 1000))), (.bin .Mod (.bin .Add (.bin .Add (.v 3) (.k (.int 501))) (.bin .Mod (.bin .FloorDiv (.v 1) (.bin .Pow (.k (.int 10)) (.k (.int 26)))) (.k (.int 499)))) (.k (.int 1000)))])) ⟨SS (.d S0) (.d (.int L)) (.o (.lst (dNames ns))) (.d (.int F)) .un .un .un .un .un .un .un .un .un, []⟩ = .ok .nx ⟨SS (.d S0) (.d (.int L)) (.o (.lst (dNames ns))) (.d (.int F)) (.o (.lst ([F, f1, f2].map D.int))) .un .un .un .un .un .un .un .un, []⟩ := by
    unfold SS
    simp [fd23, fd26, hf1, hf2, mkLst, lim]
  have hx : ∀ s, items s (.it .enumerate [.o (.lst (cut (scr.map D.int) none (some 40)))]) = some (enumD 0 ((scr.take 40).map D.int)) := fun s => by
    have : cut (scr.map D.int) none (some 40) = (scr.map D.int).take 40 := cut_take _ 40
    rw [this, ← List.map_take]
    rfl
  obtain ⟨s', e1, ts⟩ := for_data (G := GL) (tg := .tup [(.v 5), (.v 6)]) (src := .it .enumerate [(.sl (.v 0) .no (.k (.int 40)))]) (b := turnB) (st := ⟨SS (.d S0) (.d (.int L)) (.o (.lst (dNames ns))) (.d (.int F)) (.o (.lst ([F, f1, f2].map D.int))) .un .un .un .un .un .un .un .un, []⟩) (st1 := ⟨SS (.d S0) (.d (.int L)) (.o (.lst (dNames ns))) (.d (.int F)) (.o (.lst ([F, f1, f2].map D.int))) .un .un .un .un .un .un .un .un, []⟩)
    (v := .it .enumerate [.o (.lst (cut (scr.map D.int) none (some 40)))]) (xs := enumD 0 ((scr.take 40).map D.int))
    (by
      rw [hS]
      generalize scr.map D.int = X
      unfold SS
      simp [slW]) hx rfl
    (fun i s => TS (.d S0) (.d (.int L)) (.d (.int F)) ns [F, f1, f2] s) ⟨_, _, _, _, _, _, _, _, _, _, _, rfl, .inl ⟨rfl, rfl⟩⟩ (fun i hi s hs => by
      obtain ⟨s2, s4, s5, s6, s7, s8, s9, s10, s11, s12, h, rfl, hn⟩ := hs
      have hi' : i < (scr.take 40).length := by rw [enumD_length] at hi; simpa using hi
      have ex : (enumD 0 ((scr.take 40).map D.int))[i] = .tup [.int (i : Nat), .int (scr.take 40)[i]] := by
        have := enumD_get ((scr.take 40).map D.int) 0 i (.int (scr.take 40)[i]) (by rw [List.getElem?_map, List.getElem?_eq_getElem hi']; rfl)
        rw [List.getElem?_eq_getElem hi] at this
        rw [Option.some.inj this, Nat.zero_add]
      obtain ⟨s3, et, ts⟩ := turn (.d S0) (.d (.int L)) (.d (.int F)) ns [F, f1, f2] hl hns hf i (by rw [List.length_take] at hi'; omega) (scr.take 40)[i] s2 s4 s7 s8 s9 s10 s11 s12 h hn
      exact ⟨_, s3, by rw [ex]; rfl, et, ts⟩)
  obtain ⟨h4, e5⟩ := gc_blX [] s'.h true
  refine ⟨h4, ?_⟩
  rw [callN_run T 110 [] (fd := c_law) rfl rfl rfl, runB_end, ← hS]
  have run : exs GL c_law.body ⟨startS c_law.n [S0], []⟩ = .ok (.rt (.d (.bl true))) s' := by
    show exs GL [_, _, _, _, .for_ _ _ turnB, _] ⟨SS (.d S0) .un .un .un .un .un .un .un .un .un .un .un .un, []⟩ = _
    rw [exs_cons, q1]
    simp only [Out.bind_ok, thn_nx]
    rw [exs_cons, q2]
    simp only [Out.bind_ok, thn_nx]
    rw [exs_cons, q3]
    simp only [Out.bind_ok, thn_nx]
    rw [exs_cons, q4]
    simp only [Out.bind_ok, thn_nx]
    rw [exs_cons, e1]
    simp
  rw [run, endB_rt]
  exact e5
end L11

-- part: K11j
set_option maxHeartbeats 0
namespace L11
open PySem PySem.Spec PyProof.Rows L2 EW

/-! the head -/
def dds : List He.DefD := rows.map (EW.Row.dd P)
def mb : PySem.W.Frag → Bool := EW.moreB rows xcs clss
abbrev hk : PySem.W.Hook := EW.hookX 6 (fas cs rows) dds mb
def ob (s : PySem.W.SharedT) : He.AlD := EW.obsX 6 (fas cs rows) dds mb (HandSHeadRun.getT s)
theorem ob_eq (s : PySem.W.SharedT) : ob s = hk.obs s.abs := EW.obsX_eq (HandSHeadRun.getT_eq s)
abbrev R : PySem.W.OpenRow := PySem.W.OpenLaw.row PySem.Challenge.rw_endwise_k11_fits_found
def others : List Str := ["is_whole", "head", "fits_by", "fit", "_law_whole", "_law_spread", "_law_mixed", "_law_names", "_law_term", "_law_filled", "_law_blanks", "_law_count", "_law_chain", "_law_pair", "_law_told"]
theorem run (w : World) : HandSHeadRun.RunEq R (PySem.W.view R.prog [18]) hk ob 4000 others w := by
  intro os
  kernel_rfl
end L11
open PySem PySem.W PySem.Calls PyProof.Rows
theorem PySem.Challenge.cw_endwise_k11_fits_found_holds : PySem.Challenge.rw_endwise_k11_fits_found.Holds := by
  w_on; o_law
  refine HandSHeadRun.head_any (r := OpenLaw.row PySem.Challenge.rw_endwise_k11_fits_found) (q := view (OpenLaw.row PySem.Challenge.rw_endwise_k11_fits_found).prog [18]) (H := L11.hk) (ob := L11.ob) (M := 4000) (loose := L11.others) (d := HandSHeadRun.topDef (OpenLaw.row PySem.Challenge.rw_endwise_k11_fits_found).prog 18) (kwd := []) L11.ob_eq
    (by kernel_rfl) (fun s => by kernel_rfl) L11.run (by kernel_rfl) (by kernel_rfl) (by kernel_rfl) (by rfl) (by first | assumption | decide +kernel) (by decide +kernel) ⟨rfl, rfl, rfl, rfl, rfl, by decide +kernel⟩ ?hw ?hc
  case hw => w_witness2
  case hc =>
    refine EW.walk_sized (l := PySem.Challenge.rw_endwise_k11_fits_found) (n := 63) (k := 222) (x := "_law_script") (CX := fun w => L2.CX PySem.Challenge.rw_endwise_k11_fits_found.prog w) rfl (by decide) (by kernel_rfl) ⟨rfl, by decide, by decide⟩ ?F (fun _ _ _ _ _ z => EW.cx_no z)
    intro w mg fa h Y G hmg0
    obtain ⟨K, KX, c, hx⟩ := Y
    have hmg : mg (PySem.Str.ofString "law") = some (.ref fa) := by
      have e : (HandSHeadRun.topDef (OpenLaw.row PySem.Challenge.rw_endwise_k11_fits_found).prog 18).name = PySem.Str.ofString "law" := by kernel_rfl
      rw [← e]
      exact hmg0
    exact EW.head_F (P := PySem.Challenge.rw_endwise_k11_fits_found.prog) (cs := L11.cs) (rows := L11.rows) (exs := L11.xcs) (cl := L11.clss) (n := 110) KX G hx c L11.bs L11.ks 15 L11.r15 rfl rfl rfl rfl rfl rfl rfl L11.says hmg
