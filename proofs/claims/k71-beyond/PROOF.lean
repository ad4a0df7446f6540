import PyProof.Rows.All
import Wide.All
import OpenK.AllK
import Wide.FinOn
import PySem.Challenge.RW_endwise_k71_beyond
import HandS.ForMost
import KE.GoesEnum
import HandS.RevTup
import HandS.Rev
import KE.SortData
import HandS.Exc
import HandS.ExcOwn
import HandS.WordsExc
import HandS.CallSlots
import HandS.Walk
import HandS.Wide
import HandS.WideBits
import HandS.TupAny
import KE.DataCmp
import HandS.Text
import HandS.Flow
import HandS.IsInst
import HandS.Zip
import HandS.RevRange
import HandS.List
import HandS.Comp
import HandS.Defaults
import HandS.HeadHook2
import HandS.HeadEnd
import HandS.EndBits
import KE.KStateDown
import Lean
import HandS.Ends
import HandS.More
import HandS.Words
import HandS.Head0
import HandS.Head1
import HandS.Head2
import HandS.HeadHook1
set_option Elab.async false
set_option linter.all false
set_option maxRecDepth 100000
-- part: EnumT
set_option maxHeartbeats 2000000
/-! enumerate(tuple); tuple(reversed(tuple)) -/
namespace EW
open PySem PySem.Spec PyProof.Rows L2
section
open Sem (wp)
open AutoSeq1 (wpAny_loadPart')
theorem meets_enumerate_newT {v : Value} {o : Obj} {H : Heap → Prop} (B : Begins v o H) :
    Meets (Builtin.«enumerate.__new__» ⟨[.type "enumerate", v], []⟩) (fun _ R s => H s.heap ∧
      R (.ok (.ret (.ref (s.heap.push o).objs.size))) { s with heap := (s.heap.push o).push { cls := .type "enumerate", data := .fields #[.none, .bool false, .ref s.heap.objs.size, rawInt 0, .none, .none] } }) :=
  .of_wp fun prog w A R s h => by
    obtain ⟨hp, g, d, tk, os⟩ := s; obtain ⟨h1, h⟩ := h
    have hsub := sub_enumerate
    have q1 : ∀ {A' : Around} {E : Value → Shared → Prop} {Q : Value → Shared → Prop}, Q (.ref hp.objs.size) ⟨hp.push o, g, d, tk, os⟩ → wpAny (model prog w) A' (pyIter v) Q E ⟨hp, g, d, tk, os⟩ :=
      fun q => B.iter prog w _ _ ⟨hp, g, d, tk, os⟩ _ h1 q
    wp_walk using q1
    refine wpAny_stack_any fun st => wpAny_pure ?_
    split
    · rename_i c _ _ _ _ _
      cases (c == Value.type "enumerate")
      · wp_walk using q1
        exact ⟨_, rfl, h⟩
      · wp_walk using q1
        exact ⟨_, rfl, h⟩
    · wp_walk using q1
      exact ⟨_, rfl, h⟩
end
section
variable {prog : Program} {w : World} {A : Around} {E : Value → Shared → Prop} {s : Shared}
theorem call_enumerate_tup {l : Addr} {items : Array Value} {Q : Value → Shared → Prop} (hL : s.heap.IsTuple l items)
    (h : ∀ h', IsEnum h' (s.heap.objs.size + 1) s.heap.objs.size 0 .none → h'.IsTupleIter s.heap.objs.size l 0 → h'.objs.size = s.heap.objs.size + 2 →
      (∀ b o, s.heap.get? b = some o → h'.get? b = some o) → Q (.ref (s.heap.objs.size + 1)) { s with heap := h' }) :
    wpAny (model prog w) A (call (.type "enumerate") [.ref l]) Q E s := by
  refine callType_new F.called_enumerate (by decide) (F.typeCall_enumerate_1 _) (F.newCall_enumerate_1 _) (fun obj => F.args_object_init_2 obj _) F.entry_enumerate_new
    (meets_enumerate_newT (begins_tuple l items)) ⟨hL, ?_⟩
  have hz : (s.heap.push { cls := .type "tuple_iterator", data := .fields #[.ref l, .int 0 0] }).objs.size = s.heap.objs.size + 1 := Heap.size_push ..
  show _ ∧ _
  rw [hz]
  have he : IsEnum ((s.heap.push { cls := .type "tuple_iterator", data := .fields #[.ref l, .int 0 0] }).push
      { cls := .type "enumerate", data := .fields #[.none, .bool false, .ref s.heap.objs.size, rawInt 0, .none, .none] }) (s.heap.objs.size + 1) s.heap.objs.size 0 .none := by
    have := Heap.get?_push_size (s.heap.push { cls := .type "tuple_iterator", data := .fields #[.ref l, .int 0 0] })
      (o := { cls := .type "enumerate", data := .fields #[.none, .bool false, .ref s.heap.objs.size, rawInt 0, .none, .none] }) rfl
    rw [hz] at this; exact this
  refine ⟨⟨_, he, rfl⟩, h _ he ⟨_, Heap.get?_push_of_some _ (Heap.get?_push_size _ rfl), rfl, rfl⟩ (by rw [Heap.size_push, hz]) fun b o x => Heap.get?_push_of_some _ (Heap.get?_push_of_some _ x)⟩
end
/-- the tuple at a, each item in a new pair -/
def IteT (K : PySem.W.Frag) (a : Addr) : It :=
  ⟨fun i H => ∃ (xs : List V) (x : V), SqT K H a xs ∧ xs[i]? = some x, fun i H v H' => ∃ T x, v = .ref T ∧ H T = none ∧ H' = upd H T (.tup [.int (i : Nat), x]) ∧ ∀ xs, SqT K H a xs → xs[i]? = some x, fun i H => ∃ xs : List V, SqT K H a xs ∧ xs.length = i⟩
theorem apart_it {h : Heap} {it a : Addr} {i : Nat} {vs : Array Value} (p : h.IsTupleIter it a i) (q : IsTup h a vs) : a ≠ it := fun e => by
  obtain ⟨o, h1, h2, _⟩ := p
  obtain ⟨o', h3, h4, _⟩ := q
  rw [e, h1] at h3
  cases h3
  rw [h2] at h4
  exact absurd (Value.type.inj h4) (by decide)
theorem turn_enumT {P : Program} {w : World} {K : PySem.W.Frag} {elts : List Expr} {kk : Nat} {tpos : Pos} (a e it : Addr) :
    Turn P w K (.Tuple elts kk tpos) (IteT K a) [e, it] e (fun i h => (∃ old, IsEnum h e it ((i : Nat) : Int) old) ∧ h.IsTupleIter it a i ∧ e ≠ it) where
  mem := by simp
  obj := fun i h st b hb => by
    obtain ⟨⟨old, he⟩, ⟨o, ho, hc, hd⟩, _⟩ := st
    have e' : b = e ∨ b = it := by simpa using hb
    rcases e' with z | z
    · rw [z]; exact ⟨_, he, fun v q => nomatch q⟩
    · rw [z]; exact ⟨o, ho, fun v q => by rw [hd] at q; cases q⟩
  keep := fun i h h' st k => let ⟨⟨old, he⟩, hi, hne⟩ := st; ⟨⟨old, k e (by simp) _ he⟩, hi.at fun o q => k it (by simp) o q, hne⟩
  item := by
    intro X hP hw hK hc i pins s σ H E I hf st hg
    subst hP hw hK
    obtain ⟨⟨old, he⟩, hit, hne⟩ := st
    obtain ⟨xs, x, hq, hx⟩ := hg
    obtain ⟨its, rv, p, hz⟩ := I.tuple hq
    obtain ⟨u, hu, ru⟩ := rv.get hx
    have hel : e < s.heap.objs.size := Heap.lt_size he
    have hil : it < s.heap.objs.size := by obtain ⟨_, q, _⟩ := hit; exact Heap.lt_size q
    have hat : a ≠ it := apart_it hit p
    have hae : a ≠ e := fun z => by
      obtain ⟨o', h3, h4, _⟩ := p
      rw [z, he] at h3
      cases h3
      exact absurd (Value.type.inj (show Value.type "enumerate" = .type "tuple" from h4)) (by decide)
    have hl : its.toArray.size = its.length := by simp
    have hilt : i < its.toArray.size := by
      have := (List.getElem?_eq_some_iff.mp hu).1
      rw [hl]
      exact this
    refine wpAny_pyNext_enum_itemD (Draws.tuple (A := X.A.in1) (show X.A.in1.handled = none from I.ok.hd hc) it a hat its.toArray) he ⟨hit, p⟩ hilt hne (by simp [hne, Ne.symm hae]) fun y h' tk hy ho hit' hT hsz hk => ?_
    have ey : y = u := by
      have : its.toArray[i]? = some u := by simpa using hu
      rw [this] at hy
      exact (Option.some.inj hy).symm
    subst ey
    refine ⟨_, rfl, wpAny_letOwnedTupleGo_enum (s := { s with heap := h', toks := tk + 1 }) ho fun h'' he' sb => ?_⟩
    have hT2 : h''.get? s.heap.objs.size = some { cls := .type "tuple", data := .seq #[.int i tk, y] } := (sb.2 _ (Nat.ne_of_gt hel)).trans hT
    have new : ObjOk X.prog X.w (upd H s.heap.objs.size (.tup [.int (i : Nat), x])) h'' s.heap.objs.size (.tup [.int (i : Nat), x]) :=
      ⟨by show 2 ≤ sizeLine; decide, [.int i tk, y], .cons ⟨_, rfl⟩ (.cons ru .nil), ⟨_, hT2, rfl, _, rfl⟩⟩
    have I1 : Inv X pins σ (upd H s.heap.objs.size (.tup [.int (i : Nat), x])) { s with heap := h'', toks := tk + 1 } :=
      I.turnedNew (ch := [e, it]) (fun b ob hb q => (sb.2 b (fun z => hb (by simp [z]))).trans (hk b ob (fun z => hb (by simp [z])) (fun z => hb (by simp [z])) q)) hf (Nat.le_refl _) new
    refine ⟨.ref s.heap.objs.size, _, I1, rfl, ⟨_, x, rfl, I.hok.fresh (Nat.le_refl _), rfl, fun ys hy => by rw [I.tuple_inj hy hq]; exact hx⟩, ⟨⟨y, ?_⟩, hit'.1.at fun o q => (sb.2 it (Ne.symm hne)).trans q, hne⟩, fun b hb => ?_⟩
    · have e1 : ((i + 1 : Nat) : Int) = (i : Int) + 1 := by omega
      rw [e1]; exact he'
    · have hb' : b < s.heap.objs.size := by
        have e' : b = e ∨ b = it := by simpa using hb
        rcases e' with z | z
        · rw [z]; exact hel
        · rw [z]; exact hil
      rw [upd_ne (Nat.ne_of_lt hb')]
      exact (hf b hb).1
  done := by
    intro X hP hw hK hc i pins s σ H E I hf st hg
    subst hP hw hK
    obtain ⟨⟨old, he⟩, hit, hne⟩ := st
    obtain ⟨xs, hq, hx⟩ := hg
    obtain ⟨its, rv, p, hz⟩ := I.tuple hq
    obtain ⟨f0, f1, f2, f3, f4, f5⟩ := hf it (by simp)
    have hl := rv.length
    have hat : a ≠ it := apart_it hit p
    have e2 : i = its.toArray.size := by simp; omega
    subst e2
    exact wpAny_pyNext_enum_endD (Draws.tuple (A := X.A.in1) (show X.A.in1.handled = none from I.ok.hd hc) it a hat its.toArray) he ⟨hit, p⟩ fun h' eb => ⟨rfl, I.turned (t' := s.toks) (fun b o hb q => eb b o hb q) f0 f1 f3 f4 f5⟩
  self := fun A i s Q E st h => let ⟨⟨_, he⟩, _⟩ := st; wpAny_pyIter_enum he h
def iEnumA (K : PySem.W.Frag) (ta : TA) : TI := fun σ H R => ta σ H fun vs H1 => ∃ a xs, vs = [.ref a] ∧ ((SqL K H1 a xs ∧ R (Ite K a) H1) ∨ (SqT K H1 a xs ∧ R (IteT K a) H1))
theorem pi_enumA {X : Cx} {e : Expr} {ta : TA} {p pos tpos : Pos} {elts : List Expr} {kk : Nat} (hg : Gl X "enumerate") (hm : X.mg "enumerate" = none) (ha : PA X [e] ta) (hs : starEach [e] X.env = [(false, eval e X.env)]) :
    PI X (.Tuple elts kk tpos) (.Call (.Name "enumerate" p) [e] [] pos) (iEnumA X.K ta) := by
  refine ⟨fun pins s σ H R I h => ?_⟩
  refine Call_ (ld_blt I hg hm boot_enumerate (PyProof.Rows.callWith_type1 (thn (ha.run pos pins s σ H _ I h) fun us s1 ⟨vs, H1, I1, r1, q1⟩ => ?_) hs rfl))
  obtain ⟨a, xs, ex, q1⟩ := q1
  subst ex
  cases r1 with
  | cons r rr =>
    cases rr
    cases r
    have fp : ∀ b, b ∈ [s1.heap.objs.size + 1, s1.heap.objs.size] → FpOk X pins H1 b := fun b hb => by
      have e' : b = s1.heap.objs.size + 1 ∨ b = s1.heap.objs.size := by simpa using hb
      have hle : s1.heap.objs.size ≤ b := by
        rcases e' with z | z
        · rw [z]; exact Nat.le_add_right _ _
        · rw [z]; exact Nat.le_refl _
      exact I1.fpOk hle (I1.hok.fresh hle)
    rcases q1 with ⟨hq, q⟩ | ⟨hq, q⟩
    · obtain ⟨its, rv, p', hz⟩ := I1.list hq
      refine call_enumerate_list p'.isList fun h' he hit hsz hk => wpAny_pyIter_enum he ?_
      have I2 : Inv X pins σ H1 { s1 with heap := h' } := I1.kept (t' := s1.toks) hk
      exact ⟨s1.heap.objs.size + 1, [s1.heap.objs.size + 1, s1.heap.objs.size], _, _, H1, rfl, I2, turn_enum a (s1.heap.objs.size + 1) s1.heap.objs.size, ⟨⟨.none, he⟩, hit, Nat.succ_ne_self _⟩, fp, q⟩
    · obtain ⟨its, rv, p', hz⟩ := I1.tuple hq
      refine call_enumerate_tup p' fun h' he hit hsz hk => wpAny_pyIter_enum he ?_
      have I2 : Inv X pins σ H1 { s1 with heap := h' } := I1.kept (t' := s1.toks) hk
      exact ⟨s1.heap.objs.size + 1, [s1.heap.objs.size + 1, s1.heap.objs.size], _, _, H1, rfl, I2, turn_enumT a (s1.heap.objs.size + 1) s1.heap.objs.size, ⟨⟨.none, he⟩, hit, Nat.succ_ne_self _⟩, fp, q⟩
end EW

-- part: Mini
/-! Mini: a small interpreter for the Python of the program and of the laws. -/
namespace EW
open PySem

/-- data: never changed; ref: an object of the small heap; fz: the script (a list that nobody writes); exn: a caught refusal -/
inductive D where
  | non | bl (b : Bool) | int (i : Int) | str (x : Str) | tup (ds : List D) | ref (a : Nat) | fz (ds : List D) | exn (c : String)
  deriving Inhabited
inductive O where
  | lst (ds : List D) | dct (kvs : List (D × D)) | ins (c : String) (fs : List (String × D))
/-- what is walked but no list: made by these calls -/
inductive I where
  | enumerate | zip | range | reversed | items | values
/-- what an expression gives: data; a new object that nobody else has; the object that the slot i alone has; a thing to be walked -/
inductive EV where
  | d (x : D) | o (x : O) | pl (i : Nat) | it (k : I) (vs : List EV)
/-- a local name: unset, data, an object that this name alone has -/
inductive Sl where
  | un | d (x : D) | o (x : O)
structure St where
  σ : List Sl
  h : List O
inductive Out (α : Type) where
  | ok (a : α) (st : St) | ex (c : String) (st : St) | bad
inductive OutC where
  | ok (v : EV) (h : List O) | ex (c : String) (h : List O) | bad
inductive Fl where
  | nx | rt (v : EV) | ct

inductive B where
  | len | max | min | sum | all | any | abs | int | str | tuple | list | sorted | divmod | repr | dict | set

inductive Tg where
  | v (i : Nat) | tup (ts : List Tg)
inductive E where
  | no
  | k (x : D) | v (i : Nat) | g (n : String) (x : D)
  | tup (es : List E) | lst (es : List E) | dct (ks vs : List E)
  | bin (op : Operator) (a b : E) | neg (a : E) | not (a : E)
  | and (a b : E) | or (a b : E) | ife (c a b : E)
  | cmp (op : CmpOp) (a b : E) | chn (op op' : CmpOp) (a b c : E)
  | idx (a i : E) | sl (a lo hi : E)
  | fld (a : E) (f : String)
  | call (f : String) (es : List E)
  | new (c : String) (es : List E)
  | bi (b : B) (es : List E)
  | isi (a : E) (ts : List String)
  | meth (m : String) (o : E) (es : List E)
  | it (k : I) (es : List E)
  | lc (elt : E) (tg : Tg) (src : E) (cond : E)
  | trv (a : E)
inductive S where
  | pass | cont
  | asg (t : Tg) (e : E)
  | sub (o i e : E)
  | fld (o : E) (f : String) (e : E)
  | aug (i : Nat) (op : Operator) (e : E)
  | ex (e : E)
  | ret (e : E)
  | ife (c : E) (a b : List S)
  | whl (c : E) (b : List S)
  | for_ (t : Tg) (src : E) (b : List S)
  | rse (c : String)
  | tr (b : List S) (cs : List String) (i : Option Nat) (hb : List S)

structure Gam where
  call : String → List D → List O → OutC
  sub : String → String → Bool
  W : Nat

/-! ### data -/
mutual
def D.toP : D → PyData
  | .non => .none | .bl b => .bool b | .int i => .int i | .str x => .str x | .tup ds => .tuple (D.toPs ds)
  | .ref _ => .none | .fz ds => .list (D.toPs ds) | .exn _ => .none
def D.toPs : List D → List PyData
  | [] => []
  | d :: ds => d.toP :: D.toPs ds
end
mutual
/-- nothing that could change, all texts sound -/
def D.pure : D → Bool
  | .non => true | .bl _ => true | .int _ => true | .str x => PyData.strOk x | .tup ds => D.pures ds
  | .ref _ => false | .fz _ => false | .exn _ => false
def D.pures : List D → Bool
  | [] => true
  | d :: ds => d.pure && D.pures ds
end
mutual
/-- all refs below n -/
def D.lt (n : Nat) : D → Bool
  | .non => true | .bl _ => true | .int _ => true | .str _ => true | .tup ds => D.lts n ds
  | .ref a => decide (a < n) | .fz ds => D.lts n ds | .exn _ => true
def D.lts (n : Nat) : List D → Bool
  | [] => true
  | d :: ds => d.lt n && D.lts n ds
end
def O.lt (n : Nat) : O → Bool
  | .lst ds => D.lts n ds
  | .dct kvs => kvs.all fun p => p.1.lt n && p.2.lt n
  | .ins _ fs => fs.all fun p => p.2.lt n
def EV.lt (n : Nat) : EV → Bool
  | .d x => x.lt n | .o x => x.lt n | _ => false
def D.dep (d : D) : Nat := d.toP.depth
/-- Python's == of pure data -/
def deq (a b : D) : Bool := PyData.eqv a.toP b.toP

inductive Wv where
  | d (x : D) | o (x : O)
def rdD (h : List O) : D → Option Wv
  | .ref a => (h[a]?).map Wv.o
  | x => some (.d x)
def rd (st : St) : EV → Option Wv
  | .d x => rdD st.h x
  | .o x => some (.o x)
  | .pl i => match st.σ[i]? with
    | some (.o x) => some (.o x)
    | some (.d (.ref a)) => (st.h[a]?).map Wv.o
    | _ => none
  | .it _ _ => none

/-- the largest length of lists, tuples, texts that are made -/
def lim : Nat := 1000000
def strItems (x : Str) : List D := x.cps.toList.map fun c => .str ⟨#[c]⟩
def seqW : Wv → Option (List D)
  | .d (.tup ds) => some ds
  | .d (.fz ds) => some ds
  | .d (.str x) => some (strItems x)
  | .o (.lst ds) => some ds
  | _ => none
/-- .. no text -/
def seqL (w : Wv) : Option (List D) := match w with
  | .d (.str _) => none
  | w => seqW w
def truthW : Wv → Option Bool
  | .d .non => some false
  | .d (.bl b) => some b
  | .d (.int i) => some (i != 0)
  | .d (.str x) => if x.length ≤ lim then some (x.length != 0) else none
  | .d (.tup ds) => some (!ds.isEmpty)
  | .d (.fz ds) => some (!ds.isEmpty)
  | .o (.lst ds) => some (!ds.isEmpty)
  | _ => none
def intW : Wv → Option Int
  | .d (.int i) => some i
  | _ => none
def enumD : Nat → List D → List D
  | _, [] => []
  | n, d :: ds => .tup [.int n, d] :: enumD (n + 1) ds
def rangeD (lo : Int) : Nat → List D
  | 0 => []
  | n + 1 => .int lo :: rangeD (lo + 1) n
def rangeC (lo c : Int) : Nat → List D
  | 0 => []
  | n + 1 => .int lo :: rangeC (lo + c) c n
def Wv.isTup : Wv → Bool
  | .d (.tup _) => true | _ => false
/-- what is walked, item by item -/
def items (st : St) : EV → Option (List D)
  | .it .enumerate [a] => ((rd st a).bind seqL).map (enumD 0)
  | .it .zip [a, b] => match (rd st a).bind seqL, (rd st b).bind seqL with
    | some xs, some ys => if ((rd st a).map Wv.isTup == (rd st b).map Wv.isTup) = true then some (List.zipWith (fun x y => .tup [x, y]) xs ys) else none
    | _, _ => none
  | .it .range [a] => match (rd st a).bind intW with
    | some n => if n ≤ lim ∧ -lim ≤ n then some (rangeD 0 n.toNat) else none
    | _ => none
  | .it .range [a, b] => match (rd st a).bind intW, (rd st b).bind intW with
    | some lo, some hi => if -(2 ^ 60) ≤ lo ∧ lo ≤ 2 ^ 60 ∧ -(2 ^ 60) ≤ hi ∧ hi ≤ 2 ^ 60 then some (rangeD lo (hi - lo).toNat) else none
    | _, _ => none
  | .it .range [a, b, c] => match (rd st a).bind intW, (rd st b).bind intW, (rd st c).bind intW with
    | some lo, some hi, some s => if s = -1 ∧ -(2 ^ 60) ≤ lo ∧ lo ≤ 2 ^ 60 ∧ -(2 ^ 60) ≤ hi ∧ hi ≤ 2 ^ 60 then some (rangeC lo (-1) (lo - hi).toNat) else none
    | _, _, _ => none
  | .it .reversed [a] => match rd st a with
    | some (.d (.tup ds)) => some ds.reverse
    | some (.o (.lst ds)) => some ds.reverse
    | _ => none
  | .it .items [a] => match rd st a with
    | some (.o (.dct kvs)) => some (kvs.map fun p => .tup [p.1, p.2])
    | _ => none
  | .it .values [a] => match rd st a with
    | some (.o (.dct kvs)) => some (kvs.map (·.2))
    | _ => none
  | .it _ _ => none
  | v => (rd st v).bind seqW
/-- the slots that a walked thing leans on -/
def EV.pls : EV → List Nat
  | .pl i => [i]
  | .it _ vs => vs.flatMap fun
    | .pl i => [i]
    | _ => []
  | _ => []

/-! ### operators -/
def binW (op : Operator) : Wv → Wv → Option EV
  | .d (.int i), .d (.int j) => match op with
    | .Add => some (.d (.int (i + j)))
    | .Sub => some (.d (.int (i - j)))
    | .Mult => if i.natAbs.log2 + j.natAbs.log2 < 130000000 then some (.d (.int (i * j))) else none
    | .FloorDiv => if 0 < j ∧ j.natAbs.log2 < 9000 then some (.d (.int (i / j))) else none
    | .Mod => if 0 < j then some (.d (.int (i % j))) else none
    | .Pow => if 0 ≤ j ∧ j ≤ 1000000 ∧ i.natAbs < 2 ^ 64 then some (.d (.int (i ^ j.toNat))) else none
    | .LShift => if 0 ≤ j ∧ j ≤ 1000000 ∧ i.natAbs < 2 ^ 64 then some (.d (.int (i * 2 ^ j.toNat))) else none
    | _ => none
  | .d (.str x), .d (.str y) => match op with
    | .Add => if x.length + y.length ≤ lim then some (.d (.str (x ++ y))) else none
    | _ => none
  | .d (.tup x), .d (.tup y) => match op with
    | .Add => if x.length + y.length ≤ lim then some (.d (.tup (x ++ y))) else none
    | _ => none
  | .o (.lst x), .o (.lst y) => match op with
    | .Add => if x.length + y.length ≤ lim then some (.o (.lst (x ++ y))) else none
    | _ => none
  | .d (.tup _), .d (.int _) => match op with
    | _ => none
  | .o (.lst _), .d (.int _) => match op with
    | _ => none
  | _, _ => none
/-- the deepest data that == and < look at -/
def deepest : Nat := 150
def Wv.pure : Wv → Bool
  | .d x => x.pure | .o (.lst ds) => D.pures ds | .o _ => false
def Wv.toP : Wv → PyData
  | .d x => x.toP | .o (.lst ds) => .list (D.toPs ds) | .o _ => .none
def eqW : Wv → Wv → Option Bool
  | .d (.int i), .d (.int j) => some (i == j)
  | .d (.str x), .d (.str y) => some (x == y)
  | a, b => if a.pure && b.pure && decide (min a.toP.depth b.toP.depth ≤ deepest) then some (PyData.eqv a.toP b.toP) else none
def Wv.isSeq : Wv → Bool
  | .d (.tup _) => true | .o (.lst _) => true | _ => false
def ltW : Wv → Wv → Option Bool
  | .d (.int i), .d (.int j) => some (decide (i < j))
  | .d (.str x), .d (.str y) => some (decide (x.cps.toList < y.cps.toList))
  | a, b => if a.pure && b.pure && a.isSeq && W.alike a.toP b.toP && decide (min a.toP.depth b.toP.depth ≤ deepest) then some (W.dataLt a.toP b.toP) else none
/-- where a key stands -/
def dget (kvs : List (D × D)) (k : D) : Option D := (kvs.find? fun p => deq p.1 k).map (·.2)
def dput : List (D × D) → D → D → List (D × D)
  | [], k, v => [(k, v)]
  | p :: r, k, v => if deq p.1 k then (p.1, v) :: r else p :: dput r k v
def ddel (kvs : List (D × D)) (k : D) : List (D × D) := kvs.eraseP fun p => deq p.1 k
def inW : Wv → Wv → Option Bool
  | .d (.str x), .d (.str y) => some (!(Builtin.Str.occurrences y x 0 y.length 1).isEmpty)
  | a, .d (.tup ds) => if a.pure && D.pures ds && decide (a.toP.depth ≤ deepest) then some (ds.any fun y => PyData.eqv y.toP a.toP) else none
  | a, .o (.lst ds) => if a.pure && D.pures ds && decide (a.toP.depth ≤ deepest) then some (ds.any fun y => PyData.eqv y.toP a.toP) else none
  | .d x, .o (.dct kvs) => if x.pure && decide (x.dep ≤ deepest) then some (dget kvs x).isSome else none
  | _, _ => none
def Wv.isNon : Wv → Bool
  | .d .non => true | _ => false
def cmpW (op : CmpOp) (a b : Wv) : Option Bool := match op with
  | .Eq => eqW a b
  | .NotEq => (eqW a b).map (!·)
  | .Lt => ltW a b
  | .Gt => ltW b a
  | .LtE => (ltW b a).map (!·)
  | .GtE => (ltW a b).map (!·)
  | .In => inW a b
  | .NotIn => (inW a b).map (!·)
  | .Is => match b with
    | .d .non => some a.isNon
    | _ => none
  | .IsNot => match b with
    | .d .non => some (!a.isNon)
    | _ => none
def isiW (sub : String → String → Bool) (w : Wv) (t : String) : Option Bool := match w with
  | .d .non => some false
  | .d (.bl _) => some (t == "bool" || t == "int")
  | .d (.int _) => some (t == "int")
  | .d (.str _) => some (t == "str")
  | .d (.tup _) => some (t == "tuple")
  | .d (.fz _) => some (t == "list")
  | .d (.exn c) => some (sub c t)
  | .o (.lst _) => some (t == "list")
  | .o (.dct _) => some (t == "dict")
  | .o (.ins c _) => some (sub c t)
  | .d (.ref _) => none

def idxW : Wv → Wv → Option D
  | .d (.tup ds), .d (.int i) => L2.atI ds i
  | .d (.fz ds), .d (.int i) => L2.atI ds i
  | .o (.lst ds), .d (.int i) => L2.atI ds i
  | .d (.str x), .d (.int i) => if x.length ≤ lim then (L2.atI x.cps.toList i).map fun c => .str ⟨#[c]⟩ else none
  | .o (.dct kvs), .d k => if k.pure && decide (k.dep ≤ deepest) then dget kvs k else none
  | _, _ => none
def cut {α : Type} (xs : List α) (lo hi : Option Int) : List α :=
  (xs.drop (HT.sIx xs.length 0 lo)).take (HT.sIx xs.length xs.length hi - HT.sIx xs.length 0 lo)
def slW (w : Wv) (lo hi : Option Int) : Option EV := match w with
  | .d (.tup ds) => some (.d (.tup (cut ds lo hi)))
  | .d (.fz ds) => some (.o (.lst (cut ds lo hi)))
  | .o (.lst ds) => some (.o (.lst (cut ds lo hi)))
  | .d (.str x) => if x.length ≤ lim then some (.d (.str ⟨(cut x.cps.toList lo hi).toArray⟩)) else none
  | _ => none

/-! ### built-in calls -/
def sumD : Int → List D → Option Int
  | a, [] => some a
  | a, .int i :: r => sumD (a + i) r
  | _, _ => none
def boolsD : List D → Option (List Bool)
  | [] => some []
  | .bl b :: r => (boolsD r).map (b :: ·)
  | _ => none
def intsD : List D → Option (List Int)
  | [] => some []
  | .int i :: r => (intsD r).map (i :: ·)
  | _ => none
def maxI : Int → List Int → Int
  | a, [] => a
  | a, b :: r => maxI (if a < b then b else a) r
def biS (b : B) (st : St) (vs : List EV) : Option EV := match b, vs with
  | .len, [v] => match rd st v with
    | some (.d (.tup ds)) => some (.d (.int ds.length))
    | some (.d (.fz ds)) => some (.d (.int ds.length))
    | some (.d (.str x)) => if x.length ≤ lim then some (.d (.int x.length)) else none
    | some (.o (.lst ds)) => some (.d (.int ds.length))
    | some (.o (.dct kvs)) => some (.d (.int kvs.length))
    | _ => none
  | .max, [v] => match (rd st v) with
    | some (.o (.lst ds)) => match intsD ds with
      | some (i :: r) => some (.d (.int (maxI i r)))
      | _ => none
    | _ => none
  | .max, [v, u] => match (rd st v).bind intW, (rd st u).bind intW with
    | some i, some j => some (.d (.int (if j > i then j else i)))
    | _, _ => none
  | .min, [v, u] => match (rd st v).bind intW, (rd st u).bind intW with
    | some i, some j => some (.d (.int (if j < i then j else i)))
    | _, _ => none
  | .sum, [v] => match (rd st v) with
    | some (.o (.lst ds)) => (sumD 0 ds).map fun i => .d (.int i)
    | _ => none
  | .all, [v] => match (rd st v) with
    | some (.o (.lst ds)) => (boolsD ds).map fun bs => .d (.bl (bs.all id))
    | _ => none
  | .any, [v] => match (rd st v) with
    | some (.o (.lst ds)) => (boolsD ds).map fun bs => .d (.bl (bs.any id))
    | _ => none
  | .int, [v] => match rd st v with
    | some (.d (.int i)) => some (.d (.int i))
    | some (.d (.bl b)) => some (.d (.int (if b then 1 else 0)))
    | _ => none
  | .tuple, [v] => match v, items st v with
    | .it .reversed _, some ds => some (.d (.tup ds))
    | .it _ _, _ => none
    | _, some ds => match rd st v with
      | some (.o (.lst _)) => some (.d (.tup ds))
      | some (.d (.tup _)) => some (.d (.tup ds))
      | _ => none
    | _, none => none
  | .list, [v] => match v, items st v with
    | .it _ _, _ => none
    | _, some ds => match rd st v with
      | some (.o (.lst _)) => some (.o (.lst ds))
      | some (.d (.tup _)) => some (.o (.lst ds))
      | some (.d (.fz _)) => some (.o (.lst ds))
      | _ => none
    | _, none => none
  | .divmod, [v, u] => match (rd st v).bind intW, (rd st u).bind intW with
    | some i, some j => if 0 < j ∧ Builtin.Int.intBits i ≤ Builtin.Int.intBits j + 4000 then some (.d (.tup [.int (i / j), .int (i % j)])) else none
    | _, _ => none
  | _, _ => none

/-! ### the state -/
def St.set (st : St) (i : Nat) (s : Sl) : St := { st with σ := st.σ.set i s }
/-- what stands in the heap from now on -/
def toD (v : EV) (st : St) : Option (D × St) := match v with
  | .d x => some (x, st)
  | .o x => some (.ref st.h.length, { st with h := st.h ++ [x] })
  | .pl i => match st.σ[i]? with
    | some (.o x) => some (.ref st.h.length, { σ := st.σ.set i (.d (.ref st.h.length)), h := st.h ++ [x] })
    | some (.d x) => some (x, st)
    | _ => none
  | .it _ _ => none
def toDs : List EV → St → Option (List D × St)
  | [], st => some ([], st)
  | v :: vs, st => match toD v st with
    | some (x, st1) => match toDs vs st1 with
      | some (xs, st2) => some (x :: xs, st2)
      | none => none
    | none => none
/-- x = v -/
def put (i : Nat) (v : EV) (st : St) : Option St := match v with
  | .d x => some (st.set i (.d x))
  | .o x => some (st.set i (.o x))
  | .pl j => match toD (.pl j) st with
    | some (x, st1) => some (st1.set i (.d x))
    | none => none
  | .it _ _ => none
mutual
def bindD : Tg → D → St → Option St
  | .v i, x, st => some (st.set i (.d x))
  | .tup ts, .tup ds, st => bindDs ts ds st
  | .tup _, _, _ => none
def bindDs : List Tg → List D → St → Option St
  | [], [], st => some st
  | t :: ts, d :: ds, st => match bindD t d st with
    | some st1 => bindDs ts ds st1
    | none => none
  | _, _, _ => none
end
def bindV (t : Tg) (v : EV) (st : St) : Option St := match t with
  | .v i => put i v st
  | .tup ts => match rd st v with
    | some (.d (.tup ds)) => bindDs ts ds st
    | _ => none
mutual
def Tg.vars : Tg → List Nat
  | .v i => [i]
  | .tup ts => Tg.varss ts
def Tg.varss : List Tg → List Nat
  | [] => []
  | t :: ts => t.vars ++ Tg.varss ts
end
mutual
/-- the slots that code stores to -/
def S.asgs : S → List Nat
  | .asg t _ => t.vars
  | .aug i _ _ => [i]
  | .ife _ a b => S.asgss a ++ S.asgss b
  | .whl _ b => S.asgss b
  | .for_ t _ b => t.vars ++ S.asgss b
  | .tr b _ i hb => S.asgss b ++ (match i with | some j => [j] | none => []) ++ S.asgss hb
  | _ => []
def S.asgss : List S → List Nat
  | [] => []
  | s :: r => s.asgs ++ S.asgss r
end
/-- an object is changed where it stands -/
def change (v : EV) (f : O → Option (O × EV)) (st : St) : Option (EV × St) := match v with
  | .pl i => match st.σ[i]? with
    | some (.o x) => match f x with
      | some (y, r) => some (r, st.set i (.o y))
      | none => none
    | some (.d (.ref a)) => match st.h[a]? with
      | some x => match f x with
        | some (y, r) => some (r, { st with h := st.h.set a y })
        | none => none
      | none => none
    | _ => none
  | .d (.ref a) => match st.h[a]? with
    | some x => match f x with
      | some (y, r) => some (r, { st with h := st.h.set a y })
      | none => none
    | none => none
  | _ => none
/-- methods that change a list or dict; their arguments are data -/
def mutO (m : String) (ds : List D) : O → Option (O × EV)
  | .lst xs => match m, ds with
    | "append", [x] => if xs.length < lim then some (.lst (xs ++ [x]), .d .non) else none
    | "clear", [] => some (.lst [], .d .non)
    | "pop", [] => match xs.getLast? with
      | some y => some (.lst xs.dropLast, .d y)
      | none => none
    | _, _ => none
  | .dct kvs => match m, ds with
    | "pop", [k] => if k.pure && decide (k.dep ≤ deepest) then match dget kvs k with
        | some y => some (.dct (ddel kvs k), .d y)
        | none => none
      else none
    | _, _ => none
  | _ => none
/-- methods that only look -/
def lookM (m : String) (w : Wv) (ds : List D) : Option EV := match w with
  | .d (.str x) => match m, ds with
    | "find", [.str y] => some (.d (.int (Txt.find x y)))
    | "upper", [] => none
    | _, _ => none
  | .o (.lst xs) => match m, ds with
    | "count", [k] => none
    | _, _ => none
  | .o (.dct kvs) => match m, ds with
    | "get", [k] => if k.pure && decide (k.dep ≤ deepest) then some (.d ((dget kvs k).getD .non)) else none
    | "get", [k, x] => if k.pure && decide (k.dep ≤ deepest) then some (.d ((dget kvs k).getD x)) else none
    | _, _ => none
  | _ => none
/-- whose method that is -/
def methOk (m : String) (n : Nat) : Wv → Bool
  | .o (.lst _) => m == "append" || m == "clear" || (m == "pop" && n == 0)
  | .o (.dct _) => (m == "pop" && n != 0) || m == "get"
  | .d (.str _) => m == "find"
  | _ => false
def isLook (m : String) : Bool := m == "find" || m == "upper" || m == "count" || m == "get"

/-! ### the interpreter -/
def Out.bind {α β : Type} (o : Out α) (f : α → St → Out β) : Out β := match o with
  | .ok a st => f a st | .ex c st => .ex c st | .bad => .bad
def Out.of {α : Type} (st : St) : Option α → Out α
  | some a => .ok a st | none => .bad
@[simp] theorem Out.bind_ok {α β : Type} (a : α) (st : St) (f : α → St → Out β) : (Out.ok a st).bind f = f a st := rfl
@[simp] theorem Out.bind_ex {α β : Type} (c : String) (st : St) (f : α → St → Out β) : (Out.ex c st : Out α).bind f = .ex c st := rfl
@[simp] theorem Out.bind_bad {α β : Type} (f : α → St → Out β) : (Out.bad : Out α).bind f = .bad := rfl
@[simp] theorem Out.of_some {α : Type} (a : α) (st : St) : Out.of st (some a) = .ok a st := rfl
@[simp] theorem Out.of_none {α : Type} (st : St) : Out.of st (none : Option α) = .bad := rfl
/-- one value and its state -/
def Out.of2 {α : Type} : Option (α × St) → Out α
  | some (a, st) => .ok a st | none => .bad
@[simp] theorem Out.of2_some {α : Type} (a : α) (st : St) : Out.of2 (some (a, st)) = .ok a st := rfl
@[simp] theorem Out.of2_none {α : Type} : Out.of2 (none : Option (α × St)) = .bad := rfl
/-- a refusal inside a comprehension is not carried -/
def Out.tame {α : Type} : Out α → Out α
  | .ok a st => .ok a st | _ => .bad
@[simp] theorem Out.tame_ok {α : Type} (a : α) (st : St) : (Out.ok a st).tame = .ok a st := rfl

/-- the back call's end in the caller -/
def OutC.out (st : St) : OutC → Out EV
  | .ok v h => .ok v { st with h := h } | .ex c h => .ex c { st with h := h } | .bad => .bad
@[simp] theorem OutC.out_ok (st : St) (v : EV) (h : List O) : (OutC.ok v h).out st = .ok v { st with h := h } := rfl
@[simp] theorem OutC.out_ex (st : St) (c : String) (h : List O) : (OutC.ex c h).out st = .ex c { st with h := h } := rfl

/-- the comprehension's own names come and go -/
def wipeS (σ : List Sl) : List Nat → List Sl
  | [] => σ
  | i :: is => (wipeS σ is).set i .un
open Classical in
/-- the turns of a comprehension: stay: the walked thing is as it was -/
noncomputable def lcL (stay : St → Prop) (tg : Tg) (test : St → Out Bool) (elt : St → Out EV) : List D → List D → St → Out (List D)
  | [], acc, st => if stay st then .ok acc st else .bad
  | x :: xs, acc, st => if stay st then match bindD tg x { st with σ := wipeS st.σ tg.vars } with
      | none => .bad
      | some st1 => (test st1).bind fun b st2 => if b = true then (elt st2).bind fun v st3 => (Out.of2 (toD v st3)).bind fun y st4 => lcL stay tg test elt xs (acc ++ [y]) st4
        else lcL stay tg test elt xs acc st2
    else .bad
def backS (σ σ0 : List Sl) : List Nat → List Sl
  | [] => σ
  | i :: is => (backS σ σ0 is).set i (σ0.getD i .un)

def optInt (o : Option Wv) : Option (Option Int) := match o with
  | some (.d (.int i)) => some (some i)
  | _ => none

mutual
noncomputable def ev (G : Gam) : E → St → Out EV
  | .no, st => .bad
  | .k x, st => .ok (.d x) st
  | .g _ x, st => .ok (.d x) st
  | .v i, st => match st.σ[i]? with
    | some (.d x) => .ok (.d x) st
    | some (.o _) => .ok (.pl i) st
    | _ => .bad
  | .tup es, st => (evs G es st).bind fun vs st1 => (Out.of2 (toDs vs st1)).bind fun ds st2 => if ds.length ≤ lim then .ok (.d (.tup ds)) st2 else .bad
  | .lst es, st => (evs G es st).bind fun vs st1 => (Out.of2 (toDs vs st1)).bind fun ds st2 => if ds.length ≤ lim then .ok (.o (.lst ds)) st2 else .bad
  | .dct ks vs, st => (evs G ks st).bind fun kvs st1 => match kvs with
    | [] => .ok (.o (.dct [])) st1
    | _ => .bad
  | .bin op a b, st => (ev G a st).bind fun va st1 => (ev G b st1).bind fun vb st2 => match rd st2 va, rd st2 vb with
    | some wa, some wb => Out.of st2 (binW op wa wb)
    | _, _ => .bad
  | .neg a, st => (ev G a st).bind fun va st1 => match (rd st1 va).bind intW with
    | some i => .ok (.d (.int (-i))) st1
    | none => .bad
  | .not a, st => (ev G a st).bind fun va st1 => match (rd st1 va).bind truthW with
    | some b => .ok (.d (.bl (!b))) st1
    | none => .bad
  | .and a b, st => (ev G a st).bind fun va st1 => match (rd st1 va).bind truthW with
    | some true => ev G b st1
    | some false => .ok va st1
    | none => .bad
  | .or a b, st => (ev G a st).bind fun va st1 => match (rd st1 va).bind truthW with
    | some false => ev G b st1
    | some true => .ok va st1
    | none => .bad
  | .ife c a b, st => (tst G c st).bind fun t st1 => if t = true then ev G a st1 else ev G b st1
  | .cmp op a b, st => (ev G a st).bind fun va st1 => (ev G b st1).bind fun vb st2 => match rd st2 va, rd st2 vb with
    | some wa, some wb => Out.of st2 ((cmpW op wa wb).map fun t => .d (.bl t))
    | _, _ => .bad
  | .chn op op' a b c, st => (ev G a st).bind fun va st1 => (ev G b st1).bind fun vb st2 => match rd st2 va, rd st2 vb with
    | some wa, some wb => match cmpW op wa wb with
      | some true => (ev G c st2).bind fun vc st3 => match rd st3 vb, rd st3 vc with
        | some wb', some wc => Out.of st3 ((cmpW op' wb' wc).map fun t => .d (.bl t))
        | _, _ => .bad
      | some false => .ok (.d (.bl false)) st2
      | none => .bad
    | _, _ => .bad
  | .idx a i, st => (ev G a st).bind fun va st1 => (ev G i st1).bind fun vi st2 => match rd st2 va, rd st2 vi with
    | some wa, some wi => Out.of st2 ((idxW wa wi).map EV.d)
    | _, _ => .bad
  | .sl a lo hi, st => (ev G a st).bind fun va st1 => (evo G lo st1).bind fun l st2 => (evo G hi st2).bind fun h st3 => match rd st3 va with
    | some wa => Out.of st3 (slW wa l h)
    | none => .bad
  | .fld a f, st => (ev G a st).bind fun va st1 => match rd st1 va with
    | some (.o (.ins _ fs)) => match fs.lookup f with
      | some x => .ok (.d x) st1
      | none => .bad
    | _ => .bad
  | .call f es, st => (evs G es st).bind fun vs st1 => (Out.of2 (toDs vs st1)).bind fun ds st2 => (G.call f ds st2.h).out st2
  | .new _ _, _ => .bad
  | .bi b es, st => (evs G es st).bind fun vs st1 => Out.of st1 (biS b st1 vs)
  | .isi a ts, st => (ev G a st).bind fun va st1 => match rd st1 va with
    | some w => Out.of st1 (match ts.mapM (isiW G.sub w) with
      | some bs => some (.d (.bl (bs.any id)))
      | none => none)
    | none => .bad
  | .meth m o es, st => (ev G o st).bind fun vo st1 => if (rd st1 vo).any (methOk m es.length) = true then (evs G es st1).bind fun vs st2 => (Out.of2 (toDs vs st2)).bind fun ds st3 =>
      if isLook m = true then match rd st3 vo with
        | some w => Out.of st3 (lookM m w ds)
        | none => .bad
      else Out.of2 (change vo (mutO m ds) st3)
    else .bad
  | .it k es, st => (evs G es st).bind fun vs st1 => .ok (.it k vs) st1
  | .lc elt tg src cond, st => (ev G src st).bind fun v st1 => match items st1 v with
    | some xs => if (decide (xs.length ≤ lim) && v.pls.all fun i => !tg.vars.contains i) = true then
        ((lcL (fun s => items s v = some xs) tg (fun s => (match cond with | .no => .ok true s | c => tst G c s)) (ev G elt) xs [] st1).tame).bind fun ys st2 =>
          .ok (.o (.lst ys)) { st2 with σ := backS st2.σ st1.σ tg.vars }
        else .bad
    | none => .bad
  | .trv a, st => (ev G a st).bind fun va st1 => match (rd st1 va).bind seqL with
    | some ds => .ok (.d (.tup ds.reverse)) st1
    | none => .bad
noncomputable def evs (G : Gam) : List E → St → Out (List EV)
  | [], st => .ok [] st
  | e :: es, st => (ev G e st).bind fun v st1 => (evs G es st1).bind fun vs st2 => .ok (v :: vs) st2
/-- an end of a slice: left out, or an int -/
noncomputable def evo (G : Gam) : E → St → Out (Option Int)
  | .no, st => .ok none st
  | e, st => (ev G e st).bind fun v st1 => match (rd st1 v).bind intW with
    | some i => .ok (some i) st1
    | none => .bad
noncomputable def tst (G : Gam) : E → St → Out Bool
  | .and a b, st => (tst G a st).bind fun t st1 => if t = true then tst G b st1 else .ok false st1
  | .or a b, st => (tst G a st).bind fun t st1 => if t = true then .ok true st1 else tst G b st1
  | .not a, st => (tst G a st).bind fun t st1 => .ok (!t) st1
  | .ife c a b, st => (tst G c st).bind fun t st1 => if t = true then tst G a st1 else tst G b st1
  | e, st => (ev G e st).bind fun v st1 => match (rd st1 v).bind truthW with
    | some t => .ok t st1
    | none => .bad
end

/-! ### statements -/
def setO (w : Wv) (x : D) : O → Option (O × EV)
  | .lst xs => match w with
    | .d (.int i) => match L2.ixN xs.length i with
      | some j => some (.lst (xs.set j x), .d .non)
      | none => none
    | _ => none
  | .dct kvs => match w with
    | .d k => if k.pure && decide (k.dep ≤ deepest) && decide (kvs.length < lim) then some (.dct (dput kvs k x), .d .non) else none
    | _ => none
  | _ => none
def setF (f : String) (x : D) : List (String × D) → List (String × D)
  | [] => [(f, x)]
  | p :: r => if p.1 = f then (f, x) :: r else p :: setF f x r
def setA (f : String) (x : D) : O → Option (O × EV)
  | .ins c fs => if fs.length < 900 then some (.ins c (setF f x fs), .d .non) else none
  | _ => none
/-- out of a frame: what it alone has goes with it -/
def leave (v : EV) (st : St) : Option EV := match v with
  | .d x => some (.d x)
  | .o x => some (.o x)
  | .pl i => match st.σ[i]? with
    | some (.o x) => some (.o x)
    | some (.d x) => some (.d x)
    | _ => none
  | .it _ _ => none
noncomputable def whL (c : St → Out Bool) (b : St → Out Fl) : Nat → St → Out Fl
  | 0, _ => .bad
  | n + 1, st => (c st).bind fun t st1 => if t = true then (b st1).bind fun f st2 => match f with
      | .rt v => .ok (.rt v) st2
      | _ => whL c b n st2
    else .ok .nx st1
open Classical in
noncomputable def foL (stay : St → Prop) (tg : Tg) (b : St → Out Fl) : List D → St → Out Fl
  | [], st => if stay st then .ok .nx st else .bad
  | x :: xs, st => if stay st then match bindD tg x st with
      | none => .bad
      | some st1 => (b st1).bind fun f st2 => match f with
        | .rt v => .ok (.rt v) st2
        | _ => foL stay tg b xs st2
    else .bad
/-- try .. except cs as i -/
def handle (sub : String → String → Bool) (cs : List String) (i : Option Nat) (hb : St → Out Fl) : Out Fl → Out Fl
  | .ex c st => if (cs.any fun t => sub c t) = true then match i with
      | none => hb st
      | some j => (hb (st.set j (.d (.exn c)))).bind fun f st1 => .ok f (st1.set j .un)
    else .ex c st
  | o => o
mutual
noncomputable def ex (G : Gam) : S → St → Out Fl
  | .pass, st => .ok .nx st
  | .cont, st => .ok .ct st
  | .asg t e, st => (ev G e st).bind fun v st1 => match bindV t v st1 with
    | some st2 => .ok .nx st2
    | none => .bad
  | .sub o i e, st => (ev G e st).bind fun v st1 => (ev G o st1).bind fun vo st2 => (ev G i st2).bind fun vi st3 => match rd st3 vi with
    | some wi => (Out.of2 (toD v st3)).bind fun x st4 => (Out.of2 (change vo (setO wi x) st4)).bind fun _ st5 => .ok .nx st5
    | none => .bad
  | .fld o f e, st => (ev G e st).bind fun v st1 => (ev G o st1).bind fun vo st2 => (Out.of2 (toD v st2)).bind fun x st3 => (Out.of2 (change vo (setA f x) st3)).bind fun _ st4 => .ok .nx st4
  | .aug i op e, st => match st.σ[i]? with
    | some (.d x) => (ev G e st).bind fun v st1 => match x, rd st1 v with
      | .ref _, _ => .bad
      | _, some w => match binW op (.d x) w with
        | some (.d y) => .ok .nx (st1.set i (.d y))
        | _ => .bad
      | _, none => .bad
    | _ => .bad
  | .ex e, st => (ev G e st).bind fun _ st1 => .ok .nx st1
  | .ret e, st => (ev G e st).bind fun v st1 => match leave v st1 with
    | some r => .ok (.rt r) st1
    | none => .bad
  | .ife c a b, st => (tst G c st).bind fun t st1 => if t = true then exs G a st1 else exs G b st1
  | .whl c b, st => whL (tst G c) (exs G b) G.W st
  | .for_ tg src b, st => (ev G src st).bind fun v st1 => match items st1 v with
    | some xs => if (v.pls.all fun i => !(tg.vars ++ S.asgss b).contains i) = true then foL (fun s => items s v = some xs) tg (exs G b) xs st1 else .bad
    | none => .bad
  | .rse c, st => .ex c st
  | .tr b cs i hb, st => handle G.sub cs i (exs G hb) (exs G b st)
noncomputable def exs (G : Gam) : List S → St → Out Fl
  | [], st => .ok .nx st
  | s :: r, st => (ex G s st).bind fun f st1 => match f with
    | .nx => exs G r st1
    | f => .ok f st1
end

/-! ### defs -/
structure Fd where
  ps : Nat
  n : Nat
  body : List S
  dfl : List D := []
def startS (n : Nat) (ds : List D) : List Sl := ds.map Sl.d ++ List.replicate (n - ds.length) .un
noncomputable def runB (G : Gam) (fd : Fd) (ds : List D) (h : List O) : OutC := match exs G fd.body ⟨startS fd.n ds, h⟩ with
  | .ok (.rt v) st => .ok v st.h
  | .ok .nx st => .ok (.d .non) st.h
  | .ok .ct _ => .bad
  | .ex c st => .ex c st.h
  | .bad => .bad
open Classical in
/-- what nobody can reach any more is forgotten -/
noncomputable def gc (h : List O) : OutC → OutC
  | .ok v h' => if h'.take h.length = h then (match v with
      | .d (.ref i) => if i < h.length then .ok v h else match h'[i]? with
        | some x => if x.lt h.length = true then .ok (.o x) h else .ok v h'
        | none => .ok v h'
      | v => if v.lt h.length = true then .ok v h else .ok v h') else .ok v h'
  | .ex c h' => if h'.take h.length = h then .ex c h else .ex c h'
  | .bad => .bad
structure Tab where
  fn : String → Option Fd
  sub : String → String → Bool
noncomputable def callN (T : Tab) : Nat → String → List D → List O → OutC
  | 0, _, _, _ => .bad
  | n + 1, f, ds, h => match T.fn f with
    | none => .bad
    | some fd => if ds.length ≤ fd.ps ∧ fd.ps ≤ ds.length + fd.dfl.length then gc h (runB ⟨callN T n, T.sub, 1000000⟩ fd (ds ++ fd.dfl.drop (fd.dfl.length + ds.length - fd.ps)) h) else .bad
noncomputable def gam (T : Tab) (n : Nat) : Gam := ⟨callN T n, T.sub, 1000000⟩
end EW

-- part: Sound1
set_option maxHeartbeats 1000000
/-! how Mini's data and state stand in the abstract heap -/
namespace EW
open PySem PySem.Spec PyProof.Rows L2

section
variable (K : PySem.W.Frag) (ρ : List Addr) (H : Hp)
def FrzL (a : Addr) (vs : List V) : Prop := (∃ o, H a = some (.frz o (.lst vs))) ∨ ∃ (o : Obj) (its : Array Value) (n : Nat), K.lookup a = some o ∧ o.cls = .type "list" ∧ o.dict = none ∧ o.data = .seq its n ∧ its.size ≤ sizeLine ∧ Vals vs its.toList
mutual
/-- v stands for the datum -/
def VR : D → V → Prop
  | .non, v => v = .non
  | .bl b, v => v = .bl b
  | .int i, v => v = .int i
  | .str x, v => v = .str x
  | .tup ds, v => ∃ a vs, v = .ref a ∧ SqT K H a vs ∧ VRs ds vs
  | .ref i, v => ∃ a, ρ[i]? = some a ∧ v = .ref a
  | .fz ds, v => ∃ a vs, v = .ref a ∧ FrzL K H a vs ∧ VRs ds vs
  | .exn _, _ => False
def VRs : List D → List V → Prop
  | [], vs => vs = []
  | d :: ds, vs => ∃ v r, vs = v :: r ∧ VR d v ∧ VRs ds r
end
/-- the object at p -/
def OR (p : Addr) : O → Prop
  | .lst ds => ∃ vs, H p = some (.lst vs) ∧ VRs K ρ H ds vs
  | .dct _ => False
  | .ins _ _ => False
end
/-- tuples and what is locked stay -/
structure Pers (H H' : Hp) : Prop where
  tup : ∀ a xs, H a = some (.tup xs) → H' a = some (.tup xs)
  frz : ∀ a o u, H a = some (.frz o u) → H' a = some (.frz o u)
theorem Pers.refl (H : Hp) : Pers H H := ⟨fun _ _ h => h, fun _ _ _ h => h⟩
theorem Pers.trans {H H1 H2 : Hp} (a : Pers H H1) (b : Pers H1 H2) : Pers H H2 := ⟨fun p xs h => b.tup p xs (a.tup p xs h), fun p o u h => b.frz p o u (a.frz p o u h)⟩
theorem Pers.same {H H' : Hp} (s : Same H H') : Pers H H' := ⟨fun a xs h => s a _ h, fun a o u h => s a _ h⟩
section
variable {K : PySem.W.Frag} {ρ ρ' : List Addr} {H H' : Hp}
theorem Pers.sqT (p : Pers H H') {a : Addr} {vs : List V} (h : SqT K H a vs) : SqT K H' a vs := by
  rcases h with (h | ⟨o, h⟩) | h
  · exact .inl (.inl (p.tup _ _ h))
  · exact .inl (.inr ⟨o, p.frz _ _ _ h⟩)
  · exact .inr h
theorem pre_get {i : Nat} {a : Addr} (h : ρ <+: ρ') (e : ρ[i]? = some a) : ρ'[i]? = some a := by
  obtain ⟨t, rfl⟩ := h
  rw [List.getElem?_append_left (List.getElem?_eq_some_iff.mp e).1]
  exact e
mutual
theorem VR.mono (p : Pers H H') (hp : ρ <+: ρ') : ∀ (d : D) (v : V), VR K ρ H d v → VR K ρ' H' d v
  | .non, v, h => h
  | .bl b, v, h => h
  | .int i, v, h => h
  | .str x, v, h => h
  | .tup ds, v, h => by
    obtain ⟨a, vs, e, hs, hr⟩ := h
    exact ⟨a, vs, e, p.sqT hs, VRs.mono p hp ds vs hr⟩
  | .ref i, v, h => by
    obtain ⟨a, e, h⟩ := h
    exact ⟨a, pre_get hp e, h⟩
  | .fz ds, v, h => by
    obtain ⟨a, vs, e, hs, hr⟩ := h
    exact ⟨a, vs, e, hs.imp (fun ⟨o, hs⟩ => ⟨o, p.frz _ _ _ hs⟩) id, VRs.mono p hp ds vs hr⟩
  | .exn c, v, h => h
theorem VRs.mono (p : Pers H H') (hp : ρ <+: ρ') : ∀ (ds : List D) (vs : List V), VRs K ρ H ds vs → VRs K ρ' H' ds vs
  | [], vs, h => h
  | d :: ds, vs, h => by
    obtain ⟨v, r, e, h1, h2⟩ := h
    exact ⟨v, r, e, VR.mono p hp d v h1, VRs.mono p hp ds r h2⟩
end
theorem VRs.length : ∀ {ds : List D} {vs : List V}, VRs K ρ H ds vs → vs.length = ds.length
  | [], vs, h => by
    have e : vs = [] := h
    rw [e]
    rfl
  | d :: ds, vs, h => by
    obtain ⟨v, r, e, h1, h2⟩ := h
    rw [e, List.length_cons, List.length_cons, VRs.length h2]
theorem VRs.nil : VRs K ρ H [] [] := rfl
theorem VRs.cons {d : D} {ds : List D} {v : V} {vs : List V} (h : VR K ρ H d v) (t : VRs K ρ H ds vs) : VRs K ρ H (d :: ds) (v :: vs) := ⟨v, vs, rfl, h, t⟩
theorem VRs.append : ∀ {ds es : List D} {vs ws : List V}, VRs K ρ H ds vs → VRs K ρ H es ws → VRs K ρ H (ds ++ es) (vs ++ ws)
  | [], es, vs, ws, h, g => by
    have e : vs = [] := h
    rw [e]
    exact g
  | d :: ds, es, vs, ws, h, g => by
    obtain ⟨v, r, rfl, h1, h2⟩ := h
    exact .cons h1 (VRs.append h2 g)
theorem VRs.get : ∀ {ds : List D} {vs : List V} {i : Nat} {d : D}, VRs K ρ H ds vs → ds[i]? = some d → ∃ v, vs[i]? = some v ∧ VR K ρ H d v
  | [], vs, i, d, h, e => by simp at e
  | x :: ds, vs, 0, d, h, e => by
    obtain ⟨v, r, rfl, h1, h2⟩ := h
    simp at e
    subst e
    exact ⟨v, rfl, h1⟩
  | x :: ds, vs, i + 1, d, h, e => by
    obtain ⟨v, r, rfl, h1, h2⟩ := h
    obtain ⟨w, e1, h3⟩ := VRs.get (i := i) h2 (by simpa using e)
    exact ⟨w, by simpa using e1, h3⟩
theorem VRs.getV {ds : List D} {vs : List V} {i : Nat} {v : V} (h : VRs K ρ H ds vs) (e : vs[i]? = some v) : ∃ d, ds[i]? = some d ∧ VR K ρ H d v := by
  have hl := h.length
  have hi : i < ds.length := by
    have := (List.getElem?_eq_some_iff.mp e).1
    omega
  obtain ⟨w, e1, h1⟩ := h.get (List.getElem?_eq_getElem hi)
  rw [e] at e1
  cases e1
  exact ⟨_, List.getElem?_eq_getElem hi, h1⟩
theorem VRs.take : ∀ {ds : List D} {vs : List V} (n : Nat), VRs K ρ H ds vs → VRs K ρ H (ds.take n) (vs.take n)
  | _, _, 0, h => rfl
  | [], vs, n + 1, h => by
    have e : vs = [] := h
    rw [e]
    rfl
  | d :: ds, vs, n + 1, h => by
    obtain ⟨v, r, rfl, h1, h2⟩ := h
    exact .cons h1 (VRs.take n h2)
theorem VRs.drop : ∀ {ds : List D} {vs : List V} (n : Nat), VRs K ρ H ds vs → VRs K ρ H (ds.drop n) (vs.drop n)
  | _, _, 0, h => h
  | [], vs, n + 1, h => by
    have e : vs = [] := h
    rw [e]
    rfl
  | d :: ds, vs, n + 1, h => by
    obtain ⟨v, r, rfl, h1, h2⟩ := h
    exact VRs.drop n h2
theorem VRs.set {d : D} {v : V} (hd : VR K ρ H d v) : ∀ {ds : List D} {vs : List V} (n : Nat), VRs K ρ H ds vs → VRs K ρ H (ds.set n d) (vs.set n v)
  | [], vs, n, h => by
    have e : vs = [] := h
    rw [e]
    rfl
  | x :: ds, vs, 0, h => by
    obtain ⟨w, r, rfl, h1, h2⟩ := h
    exact .cons hd h2
  | x :: ds, vs, n + 1, h => by
    obtain ⟨w, r, rfl, h1, h2⟩ := h
    exact .cons h1 (VRs.set hd n h2)
theorem VRs.reverse : ∀ {ds : List D} {vs : List V}, VRs K ρ H ds vs → VRs K ρ H ds.reverse vs.reverse
  | [], vs, h => by
    have e : vs = [] := h
    rw [e]
    rfl
  | d :: ds, vs, h => by
    obtain ⟨v, r, rfl, h1, h2⟩ := h
    rw [List.reverse_cons, List.reverse_cons]
    exact (VRs.reverse h2).append (.cons h1 .nil)
theorem VRs.cut {ds : List D} {vs : List V} (h : VRs K ρ H ds vs) (lo hi : Option Int) : VRs K ρ H (cut ds lo hi) (cutV vs lo hi) := by
  unfold EW.cut cutV
  rw [h.length]
  exact (h.drop _).take _
theorem OR.mono {p : Addr} {x : O} (e : H' p = H p) (s : Pers H H') (hp : ρ <+: ρ') (h : OR K ρ H p x) : OR K ρ' H' p x := by
  cases x with
  | lst ds =>
    obtain ⟨vs, h1, h2⟩ := h
    exact ⟨vs, e.trans h1, h2.mono s hp ds vs⟩
  | dct kvs => exact h
  | ins c fs => exact h
theorem OR.there {p : Addr} {x : O} (h : OR K ρ H p x) : ∃ o, H p = some o ∧ (∀ xs, o ≠ .tup xs) ∧ ∀ ob u, o ≠ .frz ob u := by
  cases x with
  | lst ds =>
    obtain ⟨vs, h1, h2⟩ := h
    exact ⟨_, h1, (fun _ e => nomatch e), (fun _ _ e => nomatch e)⟩
  | dct kvs => exact h.elim
  | ins c fs => exact h.elim
end

/-! ### the state -/
structure HR (K : PySem.W.Frag) (ρ : List Addr) (H : Hp) (h : List O) : Prop where
  len : ρ.length = h.length
  nd : ρ.Nodup
  obj : ∀ (i : Nat) (p : Addr) (x : O), ρ[i]? = some p → h[i]? = some x → OR K ρ H p x
def SlotR (K : PySem.W.Frag) (ρ : List Addr) (H : Hp) (σ : L2.St) (i : Nat) : Sl → Prop
  | .un => True
  | .d x => ∃ v, σ[i]? = some (some v) ∧ VR K ρ H x v
  | .o x => ∃ p, σ[i]? = some (some (.ref p)) ∧ OR K ρ H p x ∧ p ∉ ρ
structure Res (K : PySem.W.Frag) (ρ : List Addr) (H : Hp) (st : St) (σ : L2.St) : Prop where
  hr : HR K ρ H st.h
  len : σ.length = st.σ.length
  sl : ∀ (i : Nat) (s : Sl), st.σ[i]? = some s → SlotR K ρ H σ i s
  sep : ∀ (i j : Nat) (x y : O) (p : Addr), i ≠ j → st.σ[i]? = some (.o x) → st.σ[j]? = some (.o y) → σ[i]? = some (some (.ref p)) → σ[j]? = some (some (.ref p)) → False
/-- what Mini's state has -/
def Dom (st : St) (σ : L2.St) (ρ : List Addr) (a : Addr) : Prop := a ∈ ρ ∨ ∃ (i : Nat) (x : O), st.σ[i]? = some (.o x) ∧ σ[i]? = some (some (.ref a))
theorem Res.dom {K : PySem.W.Frag} {ρ : List Addr} {H : Hp} {st : St} {σ : L2.St} (r : Res K ρ H st σ) {a : Addr} (h : Dom st σ ρ a) : ∃ x, OR K ρ H a x := by
  rcases h with h | ⟨i, x, h1, h2⟩
  · obtain ⟨i, hi, e⟩ := List.mem_iff_getElem.mp h
    have hi' : i < st.h.length := by
      rw [← r.hr.len]
      exact hi
    exact ⟨_, r.hr.obj i a _ (by rw [List.getElem?_eq_getElem hi, e]) (List.getElem?_eq_getElem hi')⟩
  · obtain ⟨p, e, h, _⟩ := r.sl i _ h1
    rw [h2] at e
    cases e
    exact ⟨x, h⟩
theorem Res.notDom {K : PySem.W.Frag} {ρ : List Addr} {H : Hp} {st : St} {σ : L2.St} (r : Res K ρ H st σ) {a : Addr} (h : H a = none) : ¬ Dom st σ ρ a := fun d => by
  obtain ⟨x, h1⟩ := r.dom d
  obtain ⟨o, e, _⟩ := h1.there
  rw [h] at e
  cases e
/-- from one state to a later one -/
structure Step (K : PySem.W.Frag) (ρ : List Addr) (H : Hp) (st : St) (σ : L2.St) (ρ' : List Addr) (H' : Hp) (st' : St) (σ' : L2.St) : Prop where
  res : Res K ρ' H' st' σ'
  pre : ρ <+: ρ'
  frame : ∀ a o, H a = some o → ¬ Dom st σ ρ a → H' a = some o
  grow : ∀ a, Dom st' σ' ρ' a → Dom st σ ρ a ∨ H a = none
section
variable {K : PySem.W.Frag} {ρ ρ1 ρ2 ρ' : List Addr} {H H1 H2 H' : Hp} {st st1 st2 st' : St} {σ σ1 σ2 σ' : L2.St}
theorem Res.pers (r : Res K ρ H st σ) (f : ∀ a o, H a = some o → ¬ Dom st σ ρ a → H' a = some o) : Pers H H' := by
  refine ⟨fun a xs h => f a _ h fun d => ?_, fun a o u h => f a _ h fun d => ?_⟩
  · obtain ⟨x, h1⟩ := r.dom d
    obtain ⟨o, e, n, _⟩ := h1.there
    rw [h] at e
    cases e
    exact n xs rfl
  · obtain ⟨x, h1⟩ := r.dom d
    obtain ⟨o', e, _, n⟩ := h1.there
    rw [h] at e
    cases e
    exact n o u rfl
theorem Step.pers (r : Res K ρ H st σ) (s : Step K ρ H st σ ρ' H' st' σ') : Pers H H' := r.pers s.frame
theorem Step.refl (r : Res K ρ H st σ) : Step K ρ H st σ ρ H st σ := ⟨r, List.prefix_refl _, fun _ _ h _ => h, fun _ h => .inl h⟩
theorem Step.trans (a : Step K ρ H st σ ρ1 H1 st1 σ1) (b : Step K ρ1 H1 st1 σ1 ρ2 H2 st2 σ2) : Step K ρ H st σ ρ2 H2 st2 σ2 := by
  refine ⟨b.res, a.pre.trans b.pre, fun p o h n => b.frame p o (a.frame p o h n) fun d => ?_, fun p d => ?_⟩
  · rcases a.grow p d with q | q
    · exact n q
    · rw [h] at q
      cases q
  · rcases b.grow p d with q | q
    · exact a.grow p q
    · by_cases n : Dom st σ ρ p
      · exact .inl n
      · right
        cases e : H p with
        | none => rfl
        | some o =>
          rw [a.frame p o e n] at q
          cases q
/-- more is tracked, Mini's state is as it was -/
theorem Res.ext (r : Res K ρ H st σ) (s : Same H H') : Res K ρ H' st σ := by
  have ps := Pers.same s
  have keep : ∀ {p : Addr} {x : O}, OR K ρ H p x → OR K ρ H' p x := fun {p x} h => by
    obtain ⟨o, e, _⟩ := h.there
    exact OR.mono (by rw [e, s p o e]) ps (List.prefix_refl _) h
  refine ⟨⟨r.hr.len, r.hr.nd, fun i p x h1 h2 => keep (r.hr.obj i p x h1 h2)⟩, r.len, fun i sl h => ?_, r.sep⟩
  have q := r.sl i sl h
  cases sl with
  | un => trivial
  | d x =>
    obtain ⟨v, e, h⟩ := q
    exact ⟨v, e, h.mono ps (List.prefix_refl _) x v⟩
  | o x =>
    obtain ⟨p, e, h, n⟩ := q
    exact ⟨p, e, keep h, n⟩
theorem Step.ext (r : Res K ρ H st σ) (s : Same H H') : Step K ρ H st σ ρ H' st σ := ⟨r.ext s, List.prefix_refl _, fun a o h _ => s a o h, fun _ h => .inl h⟩
end

/-! ### values of expressions -/
/-- v stands for what an expression gives -/
def ER (K : PySem.W.Frag) (ρ : List Addr) (H : Hp) (st : St) (σ : L2.St) : EV → V → Prop
  | .d x, v => VR K ρ H x v
  | .o x, v => ∃ p, v = .ref p ∧ OR K ρ H p x ∧ ¬ Dom st σ ρ p
  | .pl i, v => σ[i]? = some (some v)
  | .it _ _, _ => False
/-- a new object is new: it was none of the tracked, or it was Mini's -/
def New (ρ : List Addr) (H : Hp) (st : St) (σ : L2.St) (r : EV) (v : V) : Prop := ∀ x p, r = .o x → v = .ref p → (H p = none ∨ Dom st σ ρ p)
def WR (K : PySem.W.Frag) (ρ : List Addr) (H : Hp) : Wv → V → Prop
  | .d x, v => VR K ρ H x v ∧ ∀ a, x ≠ .ref a
  | .o x, v => ∃ p, v = .ref p ∧ OR K ρ H p x
section
variable {K : PySem.W.Frag} {ρ ρ1 ρ2 ρ' : List Addr} {H H1 H2 H' : Hp} {st st1 st2 st' : St} {σ σ1 σ2 σ' : L2.St}
theorem ER.step {r : EV} {v : V} (hr : Res K ρ H st σ) (s : Step K ρ H st σ ρ' H' st' σ) (h : ER K ρ H st σ r v) : ER K ρ' H' st' σ r v := by
  have ps := Step.pers hr s
  cases r with
  | d x => exact VR.mono ps s.pre x v h
  | o x =>
    obtain ⟨p, e, h1, n⟩ := h
    obtain ⟨o, e1, _⟩ := h1.there
    refine ⟨p, e, h1.mono (by rw [e1, s.frame p o e1 n]) ps s.pre, fun d => ?_⟩
    rcases s.grow p d with q | q
    · exact n q
    · rw [e1] at q
      cases q
  | pl i => exact h
  | it k vs => exact h
theorem rdD_sound {x : D} {w : Wv} {v : V} (hr : HR K ρ H st.h) (h : VR K ρ H x v) (e : rdD st.h x = some w) : WR K ρ H w v := by
  cases x with
  | ref i =>
    obtain ⟨a, e1, rfl⟩ := h
    simp only [rdD] at e
    cases q : st.h[i]? with
    | none =>
      rw [q] at e
      cases e
    | some y =>
      rw [q] at e
      cases e
      exact ⟨a, rfl, hr.obj i a y e1 q⟩
  | _ =>
    cases e
    exact ⟨h, fun _ e => nomatch e⟩
theorem rd_sound {r : EV} {w : Wv} {v : V} (hr : Res K ρ H st σ) (h : ER K ρ H st σ r v) (e : rd st r = some w) : WR K ρ H w v := by
  cases r with
  | d x => exact rdD_sound hr.hr h e
  | o x =>
    cases e
    obtain ⟨p, e1, h1, _⟩ := h
    exact ⟨p, e1, h1⟩
  | pl i =>
    simp only [rd] at e
    have h' : σ[i]? = some (some v) := h
    cases q : st.σ[i]? with
    | none =>
      rw [q] at e
      cases e
    | some s =>
      rw [q] at e
      have z := hr.sl i s q
      cases s with
      | un => cases e
      | d x =>
        obtain ⟨v', e1, h1⟩ := z
        rw [h'] at e1
        cases e1
        cases x with
        | ref a => exact rdD_sound hr.hr h1 e
        | _ => cases e
      | o x =>
        cases e
        obtain ⟨p, e1, h1, _⟩ := z
        rw [h'] at e1
        cases e1
        exact ⟨p, rfl, h1⟩
  | it k vs => exact h.elim
end

/-! ### outcomes -/
def Wp {α : Type} (o : Out α) (P : α → St → Prop) (F : String → St → Prop) : Prop := match o with
  | .ok a st => P a st
  | .ex c st => F c st
  | .bad => False
section
variable {α β : Type} {o : Out α} {f : α → St → Out β} {P P' : α → St → Prop} {R : β → St → Prop} {F F' : String → St → Prop}
theorem Wp.bind : Wp (o.bind f) R F ↔ Wp o (fun a st => Wp (f a st) R F) F := by
  cases o <;> exact Iff.rfl
theorem Wp.mono (h : Wp o P F) (hP : ∀ a st, P a st → P' a st) (hF : ∀ c st, F c st → F' c st) : Wp o P' F' := by
  cases o with
  | ok a st => exact hP a st h
  | ex c st => exact hF c st h
  | bad => exact h
end
end EW

-- part: Sound2
set_option maxHeartbeats 1000000
/-! operations by values -/
namespace EW
open PySem PySem.Spec PyProof.Rows L2
theorem lim_line : lim ≤ sizeLine := by rw [sizeLine_eq]; decide
section
variable {K : PySem.W.Frag} {ρ ρ0 ρ1 ρ2 ρ' : List Addr} {H H0 H1 H2 H' : Hp} {st st0 st1 st2 st' : St} {σ : L2.St}
/-- what an operation on values gives: data, or a new object -/
def NewR (K : PySem.W.Frag) (ρ : List Addr) (H : Hp) (r : EV) (H' : Hp) (v : V) : Prop := match r with
  | .d x => VR K ρ H' x v
  | .o x => ∃ p, v = .ref p ∧ H p = none ∧ OR K ρ H' p x
  | .pl _ => False
  | .it _ _ => False
theorem New.back (s : Step K ρ0 H0 st0 σ ρ2 H2 st2 σ) {p : Addr} (h : H2 p = none) : H0 p = none ∨ Dom st0 σ ρ0 p := by
  cases e : H0 p with
  | none => exact .inl rfl
  | some o =>
    by_cases n : Dom st0 σ ρ0 p
    · exact .inr n
    · have z := s.frame p o e n
      rw [h] at z
      cases z
theorem fin_new {r : EV} {v : V} (s : Step K ρ0 H0 st0 σ ρ2 H2 st2 σ) (e : Same H2 H') (n : NewR K ρ2 H2 r H' v) :
    Step K ρ0 H0 st0 σ ρ2 H' st2 σ ∧ ER K ρ2 H' st2 σ r v ∧ New ρ0 H0 st0 σ r v := by
  refine ⟨s.trans (Step.ext s.res e), ?_, ?_⟩
  · cases r with
    | d x => exact n
    | o x =>
      obtain ⟨p, e1, h1, h2⟩ := n
      exact ⟨p, e1, h2, s.res.notDom h1⟩
    | pl i => exact n.elim
    | it k vs => exact n.elim
  · intro x p e1 e2
    subst e1
    obtain ⟨q, e3, h1, h2⟩ := n
    rw [e2] at e3
    cases e3
    exact New.back s h1
theorem same_new {p : Addr} {o : HO} (h : H p = none) : Same H (upd H p o) := fun b x e => by
  rw [upd_ne (ne_of_none e h)]
  exact e
theorem NewR.tup {ds : List D} {vs : List V} {p : Addr} (h : H p = none) (r : VRs K ρ H ds vs) : NewR K ρ H (.d (.tup ds)) (upd H p (.tup vs)) (.ref p) :=
  ⟨p, vs, rfl, .of upd_same, r.mono (Pers.same (same_new h)) (List.prefix_refl _) ds vs⟩
theorem NewR.lst {ds : List D} {vs : List V} {p : Addr} (h : H p = none) (r : VRs K ρ H ds vs) : NewR K ρ H (.o (.lst ds)) (upd H p (.lst vs)) (.ref p) :=
  ⟨p, rfl, h, vs, upd_same, r.mono (Pers.same (same_new h)) (List.prefix_refl _) ds vs⟩
theorem VRs.eq_nil {ds : List D} {vs : List V} (r : VRs K ρ H ds vs) : vs = [] ↔ ds = [] := by
  have := r.length
  constructor
  · intro e
    rw [e] at this
    exact List.length_eq_zero_iff.mp this.symm
  · intro e
    rw [e] at this
    exact List.length_eq_zero_iff.mp this
end

theorem mul_ok {i j : Int} (h : i.natAbs.log2 + j.natAbs.log2 < 130000000) : CMulX i j := by
  have b : ∀ x : Int, Builtin.Int.intBits x ≤ x.natAbs.log2 + 1 := fun x => by
    unfold Builtin.Int.intBits
    split <;> omega
  have h1 := b i
  have h2 := b j
  unfold CMulX
  omega
section
variable {X : Cx}
/-- an operation on two values by f -/
def rVal2 (K : PySem.W.Frag) (f : Wv → Wv → Option EV) : R2 := fun x y H Q => ∃ ρ wa wb r, WR K ρ H wa x ∧ WR K ρ H wb y ∧ f wa wb = some r ∧ ∀ v H', Same H H' → NewR K ρ H r H' v → Q v H'
theorem op_binW (op : Operator) : OpR X (binaryOp op) (rVal2 X.K (binW op)) := by
  intro pins s σ H x y v u Q I rx ry ⟨ρ, wa, wb, r, ha, hb, e, q⟩
  have hlim := lim_line
  unfold binW at e
  split at e
  · obtain ⟨rfl, _⟩ := ha
    obtain ⟨rfl, _⟩ := hb
    split at e
    · cases e
      exact op_add pins s σ H _ _ v u Q I rx ry ⟨_, _, rfl, rfl, q _ H (Same.refl H) rfl⟩
    · cases e
      exact op_sub pins s σ H _ _ v u Q I rx ry ⟨_, _, rfl, rfl, q _ H (Same.refl H) rfl⟩
    · split at e
      · rename_i hc
        cases e
        exact opI (fun _ _ _ _ _ _ _ hc q => mul_int q (CMulX.ok hc)) pins s σ H _ _ v u Q I rx ry ⟨_, _, rfl, rfl, mul_ok hc, q _ H (Same.refl H) rfl⟩
      · cases e
    · split at e
      · rename_i hc
        cases e
        exact op_fdivW pins s σ H _ _ v u Q I rx ry ⟨_, _, rfl, rfl, hc, q _ H (Same.refl H) rfl⟩
      · cases e
    · split at e
      · rename_i hc
        cases e
        exact op_mod pins s σ H _ _ v u Q I rx ry ⟨_, _, rfl, rfl, hc, q _ H (Same.refl H) rfl⟩
      · cases e
    · split at e
      · rename_i hc
        cases e
        exact op_pow pins s σ H _ _ v u Q I rx ry ⟨_, _, rfl, rfl, hc, q _ H (Same.refl H) rfl⟩
      · cases e
    · split at e
      · rename_i hc
        cases e
        exact op_shl pins s σ H _ _ v u Q I rx ry ⟨_, _, rfl, rfl, hc, q _ H (Same.refl H) rfl⟩
      · cases e
    · cases e
  · obtain ⟨rfl, _⟩ := ha
    obtain ⟨rfl, _⟩ := hb
    split at e
    · split at e
      · cases e
        exact op_add_str pins s σ H _ _ v u Q I rx ry ⟨_, _, rfl, rfl, by omega, q _ H (Same.refl H) rfl⟩
      · cases e
    · cases e
  · obtain ⟨⟨a, vs, rfl, hs, hv⟩, _⟩ := ha
    obtain ⟨⟨b, ws, rfl, hs', hw⟩, _⟩ := hb
    split at e
    · split at e
      · cases e
        refine op_catA pins s σ H _ _ v u Q I rx ry ⟨a, b, vs, ws, rfl, rfl, hs, hs', by rw [hv.length, hw.length]; omega, fun z => ?_, fun z z' => ?_, fun z z' p hp => ?_⟩
        · have e1 := hv.eq_nil.mp z
          rw [e1, List.nil_append] at q
          exact q _ H (Same.refl H) ⟨b, ws, rfl, hs', hw⟩
        · have e1 := hw.eq_nil.mp z'
          rw [e1, List.append_nil] at q
          exact q _ H (Same.refl H) ⟨a, vs, rfl, hs, hv⟩
        · exact q _ _ (same_new hp) (NewR.tup hp (hv.append hw))
      · cases e
    · cases e
  · obtain ⟨a, rfl, vs, hs, hv⟩ := ha
    obtain ⟨b, rfl, ws, hs', hw⟩ := hb
    split at e
    · split at e
      · cases e
        exact op_cat pins s σ H _ _ v u Q I rx ry ⟨a, b, vs, ws, rfl, rfl, hs, hs', by rw [hv.length, hw.length]; omega, fun p hp => q _ _ (same_new hp) (NewR.lst hp (hv.append hw))⟩
      · cases e
    · cases e
  · split at e <;> cases e
  · split at e <;> cases e
  · cases e
end

section
variable {K : PySem.W.Frag} {ρ : List Addr} {H : Hp}
mutual
theorem VR.dp : ∀ (d : D) (v : V), d.pure = true → VR K ρ H d v → Dp K H v d.toP
  | .non, v, _, h => by
    cases h
    exact .non
  | .bl b, v, _, h => by
    cases h
    exact .bl b
  | .int i, v, _, h => by
    cases h
    exact .int i
  | .str x, v, _, h => by
    cases h
    exact .str x
  | .tup ds, v, p, h => by
    obtain ⟨a, vs, rfl, hs, hr⟩ := h
    exact .tup hs (VRs.dp ds vs (by simpa [D.pure] using p) hr)
  | .ref a, v, p, h => by simp [D.pure] at p
  | .fz ds, v, p, h => by simp [D.pure] at p
  | .exn c, v, p, h => by simp [D.pure] at p
theorem VRs.dp : ∀ (ds : List D) (vs : List V), D.pures ds = true → VRs K ρ H ds vs → DpAll K H vs (D.toPs ds)
  | [], vs, _, h => by
    have e : vs = [] := h
    rw [e]
    exact .nil
  | d :: ds, vs, p, h => by
    obtain ⟨v, r, rfl, h1, h2⟩ := h
    have p' : d.pure = true ∧ D.pures ds = true := by simpa [D.pures] using p
    exact .cons (VR.dp d v p'.1 h1) (VRs.dp ds r p'.2 h2)
end
mutual
theorem pure_lay : ∀ d : D, d.pure = true → d.toP.canLay0 = true
  | .non, _ => rfl
  | .bl b, _ => rfl
  | .int i, _ => rfl
  | .str x, h => by simpa [D.pure, D.toP, PyData.canLay0] using h
  | .tup ds, h => by
    have := pures_lay ds (by simpa [D.pure] using h)
    simpa [D.toP, PyData.canLay0] using this
  | .ref a, h => by simp [D.pure] at h
  | .fz ds, h => by simp [D.pure] at h
  | .exn c, h => by simp [D.pure] at h
theorem pures_lay : ∀ ds : List D, D.pures ds = true → PyData.canLayAll0 (D.toPs ds) = true
  | [], _ => rfl
  | d :: ds, h => by
    have p' : d.pure = true ∧ D.pures ds = true := by simpa [D.pures] using h
    have h1 := pure_lay d p'.1
    have h2 := pures_lay ds p'.2
    simp [D.toPs, PyData.canLayAll0, h1, h2]
end
theorem any_toPs (x : PyData) : ∀ ds : List D, ((D.toPs ds).any fun y => PyData.eqv y x) = ds.any fun y => PyData.eqv y.toP x
  | [] => rfl
  | d :: ds => by simp [D.toPs, any_toPs x ds]
end
/-- where the stack has room for deep data -/
def Deep (X : Cx) : Prop := X.A.units + 200 < cLine
section
variable {X : Cx}
theorem fin_b {pins : List (Addr × Obj)} {σ : L2.St} {H : Hp} {s : Shared} {Q : VK} {b : Bool} (I : Inv X pins σ H s) (q : Q (.bl b) H) : EP X pins σ Q (.bool b) s := ⟨.bl b, H, I, rfl, q⟩
def rB (K : PySem.W.Frag) (f : Wv → Wv → Option Bool) : R2 := fun x y H Q => ∃ ρ wa wb b, WR K ρ H wa x ∧ WR K ρ H wb y ∧ f wa wb = some b ∧ Q (.bl b) H
theorem WR.dp {K : PySem.W.Frag} {ρ : List Addr} {H : Hp} {w : Wv} {v : V} (p : w.pure = true) (h : WR K ρ H w v) : Dp K H v w.toP := by
  cases w with
  | d x => exact VR.dp x v p h.1
  | o x =>
    cases x with
    | lst ds =>
      obtain ⟨a, rfl, vs, hp, hv⟩ := h
      exact .lst (.of hp) (VRs.dp ds vs p hv)
    | dct _ => cases p
    | ins _ _ => cases p
theorem Wv.lay {w : Wv} (p : w.pure = true) : w.toP.canLay0 = true := by
  cases w with
  | d x => exact pure_lay x p
  | o x =>
    cases x with
    | lst ds => simpa [Wv.toP, PyData.canLay0] using pures_lay ds p
    | dct _ => cases p
    | ins _ _ => cases p
theorem op_eqW (hu : Deep X) : OpR X (compareOp .Eq) (rB X.K eqW) := by
  intro pins s σ H x y v u Q I rx ry ⟨ρ, wa, wb, b, ha, hb, e, q⟩
  have hd : deepest = 150 := rfl
  unfold Deep at hu
  unfold eqW at e
  split at e
  · obtain ⟨rfl, _⟩ := ha
    obtain ⟨rfl, _⟩ := hb
    cases e
    refine op_eq pins s σ H _ _ v u Q I rx ry ⟨rfl, ?_⟩
    rw [dec_int]
    exact q
  · obtain ⟨rfl, _⟩ := ha
    obtain ⟨rfl, _⟩ := hb
    cases e
    refine op_eq pins s σ H _ _ v u Q I rx ry ⟨rfl, ?_⟩
    rw [dec_str]
    exact q
  · split at e
    · rename_i hc
      simp only [Bool.and_eq_true, decide_eq_true_eq] at hc
      cases e
      obtain ⟨as, r1⟩ := Dp.reads I _ x v (WR.dp hc.1.1 ha) rx
      obtain ⟨bs, r2⟩ := Dp.reads I _ y u (WR.dp hc.1.2 hb) ry
      exact SeqAt.compareEq_reads r1 r2 (Wv.lay hc.1.1) (Wv.lay hc.1.2) (by have := hc.2; omega) (fin_b I q)
    · cases e
theorem op_neW (hu : Deep X) : OpR X (compareOp .NotEq) (rB X.K fun a b => (eqW a b).map (!·)) := by
  intro pins s σ H x y v u Q I rx ry ⟨ρ, wa, wb, b, ha, hb, e, q⟩
  have hd : deepest = 150 := rfl
  unfold Deep at hu
  have e' : (eqW wa wb).map (!·) = some b := e
  cases e1 : eqW wa wb with
  | none =>
    rw [e1] at e'
    cases e'
  | some c =>
    rw [e1] at e'
    cases e'
    unfold eqW at e1
    split at e1
    · obtain ⟨rfl, _⟩ := ha
      obtain ⟨rfl, _⟩ := hb
      cases e1
      refine op_ne pins s σ H _ _ v u Q I rx ry ⟨rfl, ?_⟩
      rw [dec_int]
      exact q
    · obtain ⟨rfl, _⟩ := ha
      obtain ⟨rfl, _⟩ := hb
      cases e1
      refine op_ne pins s σ H _ _ v u Q I rx ry ⟨rfl, ?_⟩
      rw [dec_str]
      exact q
    · split at e1
      · rename_i hc
        simp only [Bool.and_eq_true, decide_eq_true_eq] at hc
        cases e1
        obtain ⟨as, r1⟩ := Dp.reads I _ x v (WR.dp hc.1.1 ha) rx
        obtain ⟨bs, r2⟩ := Dp.reads I _ y u (WR.dp hc.1.2 hb) ry
        exact SeqAt.compareNe_reads r1 r2 (Wv.lay hc.1.1) (Wv.lay hc.1.2) (by have := hc.2; omega) (fin_b I q)
      · cases e1
theorem op_swap {op : CmpOp} {f : Wv → Wv → Option Bool} (h : OpR X (compareOp op) (rB X.K f)) {g : Wv → Wv → Option Bool} (e : ∀ a b, g a b = f a b) : OpR X (compareOp op) (rB X.K g) := by
  rw [show g = f from funext fun a => funext fun b => e a b]
  exact h
theorem seq_ne {w : Wv} (h : w.isSeq = true) : w.toP ≠ .none := by
  cases w with
  | d x => cases x <;> first | (simp [Wv.isSeq] at h; done) | simp [Wv.toP, D.toP]
  | o x => cases x <;> first | (simp [Wv.isSeq] at h; done) | simp [Wv.toP]
theorem op_ltW (hu : Deep X) : OpR X (compareOp .Lt) (rB X.K ltW) := by
  intro pins s σ H x y v u Q I rx ry ⟨ρ, wa, wb, b, ha, hb, e, q⟩
  have hd : deepest = 150 := rfl
  unfold Deep at hu
  unfold ltW at e
  split at e
  · obtain ⟨rfl, _⟩ := ha
    obtain ⟨rfl, _⟩ := hb
    cases e
    exact op_lt pins s σ H _ _ v u Q I rx ry ⟨_, _, rfl, rfl, q⟩
  · obtain ⟨rfl, _⟩ := ha
    obtain ⟨rfl, _⟩ := hb
    cases e
    exact op_lt_str pins s σ H _ _ v u Q I rx ry ⟨_, _, rfl, rfl, q⟩
  · split at e
    · rename_i hc
      simp only [Bool.and_eq_true, decide_eq_true_eq] at hc
      cases e
      obtain ⟨as, r1⟩ := Dp.reads I _ x v (WR.dp hc.1.1.1.1 ha) rx
      obtain ⟨bs, r2⟩ := Dp.reads I _ y u (WR.dp hc.1.1.1.2 hb) ry
      exact PySem.W.lt_data r1 r2 hc.1.2 (seq_ne hc.1.1.2) (by have := hc.2; omega) (fin_b I q)
    · cases e
theorem op_gtW (hu : Deep X) : OpR X (compareOp .Gt) (rB X.K fun a b => ltW b a) := by
  intro pins s σ H x y v u Q I rx ry ⟨ρ, wa, wb, b, ha, hb, e, q⟩
  have hd : deepest = 150 := rfl
  unfold Deep at hu
  simp only at e
  unfold ltW at e
  split at e
  · obtain ⟨rfl, _⟩ := ha
    obtain ⟨rfl, _⟩ := hb
    cases e
    exact op_gt pins s σ H _ _ v u Q I rx ry ⟨_, _, rfl, rfl, q⟩
  · obtain ⟨rfl, _⟩ := ha
    obtain ⟨rfl, _⟩ := hb
    cases e
    exact op_gt_str pins s σ H _ _ v u Q I rx ry ⟨_, _, rfl, rfl, q⟩
  · split at e
    · rename_i hc
      simp only [Bool.and_eq_true, decide_eq_true_eq] at hc
      cases e
      obtain ⟨as, r1⟩ := Dp.reads I _ x v (WR.dp hc.1.1.1.2 ha) rx
      obtain ⟨bs, r2⟩ := Dp.reads I _ y u (WR.dp hc.1.1.1.1 hb) ry
      have al := hc.1.2
      exact PySem.W.gt_data r1 r2 (by rw [PySem.W.alike_comm]; exact al) (PySem.W.ne_none_both al (seq_ne hc.1.1.2)) (by have := hc.2; omega) (fin_b I q)
    · cases e
theorem not_lt_le (a b : Int) : (!decide (b < a)) = decide (a ≤ b) := by
  by_cases h : b < a
  · rw [decide_eq_true h, decide_eq_false (by omega)]
    rfl
  · rw [decide_eq_false h, decide_eq_true (by omega)]
    rfl
theorem op_leW (hu : Deep X) : OpR X (compareOp .LtE) (rB X.K fun a b => (ltW b a).map (!·)) := by
  intro pins s σ H x y v u Q I rx ry ⟨ρ, wa, wb, b, ha, hb, e, q⟩
  have hd : deepest = 150 := rfl
  unfold Deep at hu
  have e' : (ltW wb wa).map (!·) = some b := e
  cases e1 : ltW wb wa with
  | none =>
    rw [e1] at e'
    cases e'
  | some c =>
    rw [e1] at e'
    cases e'
    unfold ltW at e1
    split at e1
    · obtain ⟨rfl, _⟩ := ha
      obtain ⟨rfl, _⟩ := hb
      cases e1
      exact op_le pins s σ H _ _ v u Q I rx ry ⟨_, _, rfl, rfl, by simp only []; rw [← not_lt_le]; exact q⟩
    · cases e1
      obtain ⟨rfl, _⟩ := ha
      obtain ⟨rfl, _⟩ := hb
      exact op_le_str pins s σ H _ _ v u Q I rx ry ⟨_, _, rfl, rfl, q⟩
    · split at e1
      · rename_i hc
        simp only [Bool.and_eq_true, decide_eq_true_eq] at hc
        cases e1
        obtain ⟨as, r1⟩ := Dp.reads I _ x v (WR.dp hc.1.1.1.2 ha) rx
        obtain ⟨bs, r2⟩ := Dp.reads I _ y u (WR.dp hc.1.1.1.1 hb) ry
        have al := hc.1.2
        exact PySem.W.le_data r1 r2 (by rw [PySem.W.alike_comm]; exact al) (PySem.W.ne_none_both al (seq_ne hc.1.1.2)) (by have := hc.2; omega) (fin_b I q)
      · cases e1
theorem op_geW (hu : Deep X) : OpR X (compareOp .GtE) (rB X.K fun a b => (ltW a b).map (!·)) := by
  intro pins s σ H x y v u Q I rx ry ⟨ρ, wa, wb, b, ha, hb, e, q⟩
  have hd : deepest = 150 := rfl
  unfold Deep at hu
  have e' : (ltW wa wb).map (!·) = some b := e
  cases e1 : ltW wa wb with
  | none =>
    rw [e1] at e'
    cases e'
  | some c =>
    rw [e1] at e'
    cases e'
    unfold ltW at e1
    split at e1
    · obtain ⟨rfl, _⟩ := ha
      obtain ⟨rfl, _⟩ := hb
      cases e1
      exact op_ge pins s σ H _ _ v u Q I rx ry ⟨_, _, rfl, rfl, by simp only []; rw [← not_lt_le]; exact q⟩
    · cases e1
      obtain ⟨rfl, _⟩ := ha
      obtain ⟨rfl, _⟩ := hb
      exact op_ge_str pins s σ H _ _ v u Q I rx ry ⟨_, _, rfl, rfl, q⟩
    · split at e1
      · rename_i hc
        simp only [Bool.and_eq_true, decide_eq_true_eq] at hc
        cases e1
        obtain ⟨as, r1⟩ := Dp.reads I _ x v (WR.dp hc.1.1.1.1 ha) rx
        obtain ⟨bs, r2⟩ := Dp.reads I _ y u (WR.dp hc.1.1.1.2 hb) ry
        exact PySem.W.ge_data r1 r2 hc.1.2 (seq_ne hc.1.1.2) (by have := hc.2; omega) (fin_b I q)
      · cases e1
theorem op_inW (hu : Deep X) : OpR X (compareOp .In) (rB X.K inW) := by
  intro pins s σ H x y v u Q I rx ry ⟨ρ, wa, wb, b, ha, hb, e, q⟩
  have hd : deepest = 150 := rfl
  unfold Deep at hu
  unfold inW at e
  split at e
  · obtain ⟨rfl, _⟩ := ha
    obtain ⟨rfl, _⟩ := hb
    cases e
    exact op_in_str pins s σ H _ _ v u Q I rx ry ⟨_, _, rfl, rfl, q⟩
  · split at e
    · rename_i hc
      simp only [Bool.and_eq_true, decide_eq_true_eq] at hc
      cases e
      obtain ⟨as, r1⟩ := Dp.reads I _ x v (WR.dp hc.1.1 ha) rx
      obtain ⟨bs, r2⟩ := Dp.reads I _ y u (WR.dp (w := .d (.tup _)) (by simpa [Wv.pure, D.pure] using hc.1.2) hb) ry
      refine SeqAt.in_tuple_reads (by simpa [Wv.toP, D.toP] using r2) r1 (pures_lay _ hc.1.2) (Wv.lay hc.1.1) (by have := hc.2; omega) (fin_b I ?_)
      rw [any_toPs]
      exact q
    · cases e
  · split at e
    · rename_i hc
      simp only [Bool.and_eq_true, decide_eq_true_eq] at hc
      cases e
      obtain ⟨as, r1⟩ := Dp.reads I _ x v (WR.dp hc.1.1 ha) rx
      obtain ⟨bs, r2⟩ := Dp.reads I _ y u (WR.dp (w := .o (.lst _)) (by simpa [Wv.pure] using hc.1.2) hb) ry
      refine SeqAt.in_list_reads (by simpa [Wv.toP] using r2) r1 (pures_lay _ hc.1.2) (Wv.lay hc.1.1) (by have := hc.2; omega) (fin_b I ?_)
      rw [any_toPs]
      exact q
    · cases e
  · obtain ⟨p, rfl, z⟩ := hb
    exact z.elim
  · cases e
theorem op_notInW (hu : Deep X) : OpR X (compareOp .NotIn) (rB X.K fun a b => (inW a b).map (!·)) := by
  intro pins s σ H x y v u Q I rx ry ⟨ρ, wa, wb, b, ha, hb, e, q⟩
  have hd : deepest = 150 := rfl
  unfold Deep at hu
  have e' : (inW wa wb).map (!·) = some b := e
  cases e1 : inW wa wb with
  | none =>
    rw [e1] at e'
    cases e'
  | some c =>
    rw [e1] at e'
    cases e'
    unfold inW at e1
    split at e1
    · obtain ⟨rfl, _⟩ := ha
      obtain ⟨rfl, _⟩ := hb
      cases e1
      exact op_notin_str pins s σ H _ _ v u Q I rx ry ⟨_, _, rfl, rfl, q⟩
    · split at e1
      · rename_i hc
        simp only [Bool.and_eq_true, decide_eq_true_eq] at hc
        cases e1
        obtain ⟨as, r1⟩ := Dp.reads I _ x v (WR.dp hc.1.1 ha) rx
        obtain ⟨bs, r2⟩ := Dp.reads I _ y u (WR.dp (w := .d (.tup _)) (by simpa [Wv.pure, D.pure] using hc.1.2) hb) ry
        refine SeqAt.notIn_tuple_reads (by simpa [Wv.toP, D.toP] using r2) r1 (pures_lay _ hc.1.2) (Wv.lay hc.1.1) (by have := hc.2; omega) (fin_b I ?_)
        rw [any_toPs]
        exact q
      · cases e1
    · split at e1
      · rename_i hc
        simp only [Bool.and_eq_true, decide_eq_true_eq] at hc
        cases e1
        obtain ⟨as, r1⟩ := Dp.reads I _ x v (WR.dp hc.1.1 ha) rx
        obtain ⟨bs, r2⟩ := Dp.reads I _ y u (WR.dp (w := .o (.lst _)) (by simpa [Wv.pure] using hc.1.2) hb) ry
        refine SeqAt.notIn_list_reads (by simpa [Wv.toP] using r2) r1 (pures_lay _ hc.1.2) (Wv.lay hc.1.1) (by have := hc.2; omega) (fin_b I ?_)
        rw [any_toPs]
        exact q
      · cases e1
    · obtain ⟨p, rfl, z⟩ := hb
      exact z.elim
    · cases e1
theorem WR.non {K : PySem.W.Frag} {ρ : List Addr} {H : Hp} {w : Wv} {v : V} (h : WR K ρ H w v) : decide (v = .non) = w.isNon := by
  cases w with
  | d x =>
    obtain ⟨h, n⟩ := h
    cases x with
    | non =>
      cases h
      rfl
    | bl b =>
      cases h
      rfl
    | int i =>
      cases h
      rfl
    | str y =>
      cases h
      rfl
    | tup ds =>
      obtain ⟨a, vs, rfl, _⟩ := h
      rfl
    | ref a => exact (n a rfl).elim
    | fz ds =>
      obtain ⟨a, vs, rfl, _⟩ := h
      rfl
    | exn c => exact h.elim
  | o x =>
    obtain ⟨p, rfl, _⟩ := h
    rfl
theorem op_cmpW (hu : Deep X) (op : CmpOp) : OpR X (compareOp op) (rB X.K (cmpW op)) := by
  cases op with
  | Eq => exact op_eqW hu
  | NotEq => exact op_neW hu
  | Lt => exact op_ltW hu
  | LtE => exact op_leW hu
  | Gt => exact op_gtW hu
  | GtE => exact op_geW hu
  | In => exact op_inW hu
  | NotIn => exact op_notInW hu
  | Is =>
    intro pins s σ H x y v u Q I rx ry ⟨ρ, wa, wb, b, ha, hb, e, q⟩
    simp only [cmpW] at e
    split at e
    · cases e
      obtain ⟨rfl, _⟩ := hb
      refine op_isN pins s σ H _ _ v u Q I rx ry ⟨rfl, ?_⟩
      rw [ha.non]
      exact q
    · cases e
  | IsNot =>
    intro pins s σ H x y v u Q I rx ry ⟨ρ, wa, wb, b, ha, hb, e, q⟩
    simp only [cmpW] at e
    split at e
    · cases e
      obtain ⟨rfl, _⟩ := hb
      refine op_notN pins s σ H _ _ v u Q I rx ry ⟨rfl, ?_⟩
      rw [ha.non]
      exact q
    · cases e
end
end EW

-- part: Sound3
set_option maxHeartbeats 1000000
/-! subscripts, slices, built-in calls, by values -/
namespace EW
open PySem PySem.Spec PyProof.Rows L2
section
variable {K : PySem.W.Frag} {ρ : List Addr} {H : Hp}
theorem FrzL.sq {a : Addr} {vs : List V} (h : FrzL K H a vs) : SqL K H a vs := by
  rcases h with ⟨o, h⟩ | h
  · exact .inl (.inr ⟨o, h⟩)
  · exact .inr h
theorem VRs.atI {ds : List D} {vs : List V} {i : Int} {d : D} (r : VRs K ρ H ds vs) (e : L2.atI ds i = some d) : ∃ v, L2.atI vs i = some v ∧ VR K ρ H d v := by
  unfold L2.atI at e ⊢
  rw [r.length]
  cases q : L2.ixN ds.length i with
  | none =>
    rw [q] at e
    cases e
  | some j =>
    rw [q] at e
    exact r.get e
/-- a list that is read, as it stands -/
theorem WR.seq {w : Wv} {v : V} {ds : List D} (h : WR K ρ H w v) (e : seqW w = some ds) (hs : ∀ x, w ≠ .d (.str x)) :
    ∃ a vs, v = .ref a ∧ VRs K ρ H ds vs ∧ (SqL K H a vs ∨ SqT K H a vs) := by
  cases w with
  | d x =>
    cases x with
    | tup es =>
      cases e
      obtain ⟨⟨a, vs, rfl, hs, hv⟩, _⟩ := h
      exact ⟨a, vs, rfl, hv, .inr hs⟩
    | fz es =>
      cases e
      obtain ⟨⟨a, vs, rfl, hs, hv⟩, _⟩ := h
      exact ⟨a, vs, rfl, hv, .inl hs.sq⟩
    | str x => exact (hs x rfl).elim
    | _ => cases e
  | o x =>
    cases x with
    | lst es =>
      cases e
      obtain ⟨a, rfl, vs, hp, hv⟩ := h
      exact ⟨a, vs, rfl, hv, .inl (.of hp)⟩
    | dct kvs => cases e
    | ins c fs => cases e
theorem ints_of : ∀ {ds : List D} {ns : List Int}, intsD ds = some ns → ds = ns.map D.int
  | [], ns, h => by
    cases h
    rfl
  | d :: ds, ns, h => by
    cases d with
    | int i =>
      simp only [intsD] at h
      cases q : intsD ds with
      | none =>
        rw [q] at h
        cases h
      | some ms =>
        rw [q] at h
        cases h
        rw [ints_of q]
        rfl
    | _ => cases h
theorem sums_of : ∀ {ds : List D} {a b : Int}, sumD a ds = some b → ∃ ns : List Int, ds = ns.map D.int ∧ b = a + ns.sum
  | [], a, b, h => by
    cases h
    exact ⟨[], rfl, by simp⟩
  | d :: ds, a, b, h => by
    cases d with
    | int i =>
      simp only [sumD] at h
      obtain ⟨ns, e1, e2⟩ := sums_of h
      exact ⟨i :: ns, by rw [e1]; rfl, by rw [e2, List.sum_cons]; omega⟩
    | _ => cases h
theorem bools_of : ∀ {ds : List D} {ns : List Bool}, boolsD ds = some ns → ds = ns.map D.bl
  | [], ns, h => by
    cases h
    rfl
  | d :: ds, ns, h => by
    cases d with
    | bl i =>
      simp only [boolsD] at h
      cases q : boolsD ds with
      | none =>
        rw [q] at h
        cases h
      | some ms =>
        rw [q] at h
        cases h
        rw [bools_of q]
        rfl
    | _ => cases h
theorem VRs.ints : ∀ {ns : List Int} {vs : List V}, VRs K ρ H (ns.map D.int) vs → vs = ns.map V.int
  | [], vs, h => h
  | n :: ns, vs, h => by
    obtain ⟨v, r, rfl, h1, h2⟩ := h
    have e : v = .int n := h1
    rw [e, VRs.ints h2]
    rfl
theorem VRs.bools : ∀ {ns : List Bool} {vs : List V}, VRs K ρ H (ns.map D.bl) vs → vs = ns.map V.bl
  | [], vs, h => h
  | n :: ns, vs, h => by
    obtain ⟨v, r, rfl, h1, h2⟩ := h
    have e : v = .bl n := h1
    rw [e, VRs.bools h2]
    rfl
theorem intW_of {w : Wv} {v : V} {i : Int} (h : WR K ρ H w v) (e : intW w = some i) : v = .int i := by
  cases w with
  | d x =>
    cases x with
    | int j =>
      cases e
      exact h.1
    | _ => cases e
  | o x => cases e
theorem maxI_ge : ∀ (r : List Int) (a : Int), a ≤ maxI a r ∧ (∀ y ∈ r, y ≤ maxI a r) ∧ (maxI a r = a ∨ maxI a r ∈ r)
  | [], a => ⟨Int.le_refl a, (fun _ h => nomatch h), .inl rfl⟩
  | b :: r, a => by
    obtain ⟨h1, h2, h3⟩ := maxI_ge r (if a < b then b else a)
    have e : maxI a (b :: r) = maxI (if a < b then b else a) r := rfl
    rw [e]
    by_cases h : a < b
    · rw [if_pos h] at h1 h2 h3 ⊢
      refine ⟨by omega, fun y hy => ?_, ?_⟩
      · rcases List.mem_cons.mp hy with z | z
        · rw [z]
          exact h1
        · exact h2 y z
      · rcases h3 with z | z
        · exact .inr (by rw [z]; exact List.mem_cons_self)
        · exact .inr (List.mem_cons_of_mem _ z)
    · rw [if_neg h] at h1 h2 h3 ⊢
      refine ⟨h1, fun y hy => ?_, ?_⟩
      · rcases List.mem_cons.mp hy with z | z
        · rw [z]
          omega
        · exact h2 y z
      · rcases h3 with z | z
        · exact .inl z
        · exact .inr (List.mem_cons_of_mem _ z)
end
section
variable {X : Cx}
theorem ix_idxW : IxR X (rVal2 X.K fun a b => (idxW a b).map EV.d) := by
  intro value slice pins s σ H x y v u Q I rx ry ⟨ρ, wa, wb, r, ha, hb, e, q⟩ hs
  have hlim := lim_line
  have e' : (idxW wa wb).map EV.d = some r := e
  cases e1 : idxW wa wb with
  | none =>
    rw [e1] at e'
    cases e'
  | some d =>
    rw [e1] at e'
    cases e'
    unfold idxW at e1
    split at e1
    · obtain ⟨⟨a, vs, rfl, hsq, hv⟩, _⟩ := ha
      obtain ⟨rfl, _⟩ := hb
      obtain ⟨z, e2, hz⟩ := hv.atI e1
      exact ix_tup value slice pins s σ H _ _ v u Q I rx ry ⟨a, vs, _, z, rfl, rfl, hsq, e2, q z H (Same.refl H) hz⟩ hs
    · obtain ⟨⟨a, vs, rfl, hsq, hv⟩, _⟩ := ha
      obtain ⟨rfl, _⟩ := hb
      obtain ⟨z, e2, hz⟩ := hv.atI e1
      exact ix_list value slice pins s σ H _ _ v u Q I rx ry ⟨a, vs, _, z, rfl, rfl, hsq.sq, e2, q z H (Same.refl H) hz⟩ hs
    · obtain ⟨a, rfl, vs, hp, hv⟩ := ha
      obtain ⟨rfl, _⟩ := hb
      obtain ⟨z, e2, hz⟩ := hv.atI e1
      exact ix_list value slice pins s σ H _ _ v u Q I rx ry ⟨a, vs, _, z, rfl, rfl, .of hp, e2, q z H (Same.refl H) hz⟩ hs
    · split at e1
      · rename_i x i hlen
        obtain ⟨rfl, _⟩ := ha
        obtain ⟨rfl, _⟩ := hb
        cases e2 : L2.atI x.cps.toList i with
        | none =>
          rw [e2] at e1
          cases e1
        | some c =>
          rw [e2] at e1
          cases e1
          exact ix_str value slice pins s σ H _ _ v u Q I rx ry ⟨x, i, c, rfl, rfl, by omega, e2, q _ H (Same.refl H) rfl⟩ hs
      · cases e1
    · obtain ⟨p, rfl, z⟩ := ha
      exact z.elim
    · cases e1
/-- a slice by values -/
def rSlW (K : PySem.W.Frag) : V → Option Int → Option Int → Hp → VK → Prop := fun x lo hi H Q => ∃ ρ w r, WR K ρ H w x ∧ slW w lo hi = some r ∧ ∀ v H', Same H H' → NewR K ρ H r H' v → Q v H'
theorem cutV_all {α : Type} (xs : List α) (lo hi : Option Int) (h : HT.sIx xs.length 0 lo = 0 ∧ HT.sIx xs.length xs.length hi = xs.length) : cut xs lo hi = xs := by
  unfold cut
  rw [h.1, h.2]
  simp
theorem sl_W : SlR X (rSlW X.K) := by
  intro pins s σ H x v vl vu lo hi sl Q I rx hs pl pu ⟨ρ, w, r, hw, e, q⟩
  have hlim := lim_line
  unfold slW at e
  split at e
  · cases e
    obtain ⟨⟨a, vs, rfl, hsq, hv⟩, _⟩ := hw
    refine sl_tupA pins s σ H _ v vl vu lo hi sl Q I rx hs pl pu ⟨a, vs, rfl, hsq, fun z => ?_, fun z p hp => q _ _ (same_new hp) (NewR.tup hp (hv.cut lo hi))⟩
    rw [hv.length] at z
    rw [cutV_all _ lo hi z] at q
    exact q _ H (Same.refl H) ⟨a, vs, rfl, hsq, hv⟩
  · cases e
    obtain ⟨⟨a, vs, rfl, hsq, hv⟩, _⟩ := hw
    exact sl_list pins s σ H _ v vl vu lo hi sl Q I rx hs pl pu ⟨a, vs, rfl, hsq.sq, fun p hp => q _ _ (same_new hp) (NewR.lst hp (hv.cut lo hi))⟩
  · cases e
    obtain ⟨a, rfl, vs, hp, hv⟩ := hw
    exact sl_list pins s σ H _ v vl vu lo hi sl Q I rx hs pl pu ⟨a, vs, rfl, .of hp, fun p hp => q _ _ (same_new hp) (NewR.lst hp (hv.cut lo hi))⟩
  · split at e
    · cases e
      obtain ⟨rfl, _⟩ := hw
      refine sl_str pins s σ H _ v vl vu lo hi sl Q I rx hs pl pu ⟨_, rfl, by omega, q _ H (Same.refl H) ?_⟩
      show V.str _ = V.str _
      unfold cutS EW.cut
      simp [Str.length]
    · cases e
  · cases e

theorem empty_len {α β : Type} {xs : List α} {ys : List β} (h : xs.length = ys.length) : xs.isEmpty = ys.isEmpty := by
  cases xs <;> cases ys <;> first | rfl | simp at h
theorem len_ne (n : Nat) : (n != 0) = ((n : Int) != 0) := by
  cases n with
  | zero => rfl
  | succ n =>
    have h1 : (n + 1 != 0) = true := by simp
    have h2 : (((n + 1 : Nat) : Int) != 0) = true := by
      simp only [bne_iff_ne, ne_eq]
      omega
    rw [h1, h2]
/-- a value's truth -/
theorem tru_W : TruR X (fun x H Q => ∃ ρ w b, WR X.K ρ H w x ∧ truthW w = some b ∧ Q b H) := by
  intro pins s σ H x v Q I rx ⟨ρ, w, b, hw, e, q⟩
  have hlim := lim_line
  refine tru_ok pins s σ H x v Q I rx ⟨b, ?_, q⟩
  unfold truthW at e
  split at e
  · cases e
    obtain ⟨rfl, _⟩ := hw
    exact rfl
  · cases e
    obtain ⟨rfl, _⟩ := hw
    exact rfl
  · cases e
    obtain ⟨rfl, _⟩ := hw
    exact rfl
  · split at e
    · cases e
      obtain ⟨rfl, _⟩ := hw
      exact ⟨by omega, len_ne _⟩
    · cases e
  · cases e
    obtain ⟨⟨a, vs, rfl, hsq, hv⟩, _⟩ := hw
    refine .inr (.inl ⟨vs, hsq, ?_⟩)
    rw [empty_len hv.length]
  · cases e
    obtain ⟨⟨a, vs, rfl, hsq, hv⟩, _⟩ := hw
    refine .inl ⟨vs, hsq.sq, ?_⟩
    rw [empty_len hv.length]
  · cases e
    obtain ⟨a, rfl, vs, hp, hv⟩ := hw
    refine .inl ⟨vs, .of hp, ?_⟩
    rw [empty_len hv.length]
  · cases e
end
end EW

-- part: Sound4
set_option maxHeartbeats 1000000
/-! built-in calls by values -/
namespace EW
open PySem PySem.Spec PyProof.Rows L2
def ERl (K : PySem.W.Frag) (ρ : List Addr) (H : Hp) (st : St) (σ : L2.St) : List EV → List V → Prop
  | [], xs => xs = []
  | r :: rs, xs => ∃ v t, xs = v :: t ∧ ER K ρ H st σ r v ∧ ERl K ρ H st σ rs t
def biV : B → Value
  | .len => .builtin "len" | .max => .builtin "max" | .min => .builtin "min" | .sum => .builtin "sum" | .all => .builtin "all" | .any => .builtin "any" | .abs => .builtin "abs"
  | .int => .type "int" | .str => .type "str" | .tuple => .type "tuple" | .list => .type "list" | .sorted => .builtin "sorted" | .divmod => .builtin "divmod" | .repr => .builtin "repr" | .dict => .type "dict" | .set => .type "set"
def rBi (K : PySem.W.Frag) (b : B) : List V → Hp → VK → Prop := fun xs H Q => ∃ ρ st σ vs r, Res K ρ H st σ ∧ ERl K ρ H st σ vs xs ∧ biS b st vs = some r ∧ ∀ v H', Same H H' → NewR K ρ H r H' v → Q v H'
section
variable {K : PySem.W.Frag} {ρ : List Addr} {H : Hp} {st : St} {σ : L2.St}
theorem ERl.one {r : EV} {xs : List V} (h : ERl K ρ H st σ [r] xs) : ∃ v, xs = [v] ∧ ER K ρ H st σ r v := by
  obtain ⟨v, t, rfl, h1, h2⟩ := h
  have e : t = [] := h2
  rw [e]
  exact ⟨v, rfl, h1⟩
theorem ERl.two {r r' : EV} {xs : List V} (h : ERl K ρ H st σ [r, r'] xs) : ∃ v v', xs = [v, v'] ∧ ER K ρ H st σ r v ∧ ER K ρ H st σ r' v' := by
  obtain ⟨v, t, rfl, h1, h2⟩ := h
  obtain ⟨v', rfl, h3⟩ := h2.one
  exact ⟨v, v', rfl, h1, h3⟩
theorem items_rd {v : EV} {x : V} (h : ER K ρ H st σ v x) : items st v = (rd st v).bind seqW := by
  cases v with
  | it k vs => exact h.elim
  | _ => simp [items]
end
section
variable {X : Cx}
theorem call_bi (hc : X.calm = true) (b : B) : CallR X (biV b) (rBi X.K b) := by
  intro pins s σ' H xs us Q I rs ⟨ρ, st, σ, vs, r, hR, hvs, e, q⟩
  have hlim := lim_line
  unfold biS at e
  split at e
  · -- len
    rename_i v
    obtain ⟨x, rfl, hx⟩ := hvs.one
    split at e
    · rename_i ds e1
      cases e
      obtain ⟨⟨a, ws, rfl, hs, hv⟩, _⟩ := rd_sound hR hx e1
      exact call_len pins s σ' H _ us Q I rs ⟨_, _, rfl, .inr ⟨ws, hs, rfl⟩, by rw [hv.length]; exact q _ H (Same.refl H) rfl⟩
    · rename_i ds e1
      cases e
      obtain ⟨⟨a, ws, rfl, hs, hv⟩, _⟩ := rd_sound hR hx e1
      exact call_len pins s σ' H _ us Q I rs ⟨_, _, rfl, .inl ⟨ws, hs.sq, rfl⟩, by rw [hv.length]; exact q _ H (Same.refl H) rfl⟩
    · rename_i y e1
      split at e
      · cases e
        obtain ⟨rfl, _⟩ := rd_sound hR hx e1
        exact call_len pins s σ' H _ us Q I rs ⟨_, _, rfl, ⟨by omega, rfl⟩, q _ H (Same.refl H) rfl⟩
      · cases e
    · rename_i ds e1
      cases e
      obtain ⟨a, rfl, ws, hp, hv⟩ := rd_sound hR hx e1
      exact call_len pins s σ' H _ us Q I rs ⟨_, _, rfl, .inl ⟨ws, .of hp, rfl⟩, by rw [hv.length]; exact q _ H (Same.refl H) rfl⟩
    · rename_i ds e1
      obtain ⟨a, rfl, z⟩ := rd_sound hR hx e1
      exact z.elim
    · cases e
  · -- max of a list
    rename_i v
    obtain ⟨x, rfl, hx⟩ := hvs.one
    split at e
    · rename_i ds e1
      obtain ⟨a, rfl, ws, hp, hv⟩ := rd_sound hR hx e1
      split at e
      · rename_i i r' e2
        cases e
        have e3 := ints_of e2
        subst e3
        have e4 := VRs.ints (ns := i :: r') hv
        subst e4
        obtain ⟨h1, h2, h3⟩ := maxI_ge r' i
        refine cr_max hc pins s σ' H _ us Q I rs ⟨a, i :: r', rfl, .of hp, by simp, fun m hm hall => ?_⟩
        have e5 : m = maxI i r' := by
          have g1 : m ≤ maxI i r' := by
            rcases List.mem_cons.mp hm with z | z
            · rw [z]
              exact h1
            · exact h2 m z
          have g2 : maxI i r' ≤ m := by
            rcases h3 with z | z
            · rw [z]
              exact hall i List.mem_cons_self
            · exact hall _ (List.mem_cons_of_mem _ z)
          omega
        rw [e5]
        exact q _ H (Same.refl H) rfl
      · cases e
    · cases e
  · -- max of two
    rename_i v u
    obtain ⟨x, y, rfl, hx, hy⟩ := hvs.two
    split at e
    · rename_i i j e1 e2
      cases e
      cases q1 : rd st v with
      | none =>
        rw [q1] at e1
        cases e1
      | some w1 =>
        rw [q1] at e1
        cases q2 : rd st u with
        | none =>
          rw [q2] at e2
          cases e2
        | some w2 =>
          rw [q2] at e2
          have ex := intW_of (rd_sound hR hx q1) e1
          have ey := intW_of (rd_sound hR hy q2) e2
          subst ex ey
          exact call_max2 hc pins s σ' H _ us Q I rs ⟨i, j, rfl, q _ H (Same.refl H) rfl⟩
    · cases e
  · -- min of two
    rename_i v u
    obtain ⟨x, y, rfl, hx, hy⟩ := hvs.two
    split at e
    · rename_i i j e1 e2
      cases e
      cases q1 : rd st v with
      | none =>
        rw [q1] at e1
        cases e1
      | some w1 =>
        rw [q1] at e1
        cases q2 : rd st u with
        | none =>
          rw [q2] at e2
          cases e2
        | some w2 =>
          rw [q2] at e2
          have ex := intW_of (rd_sound hR hx q1) e1
          have ey := intW_of (rd_sound hR hy q2) e2
          subst ex ey
          exact call_min2 hc pins s σ' H _ us Q I rs ⟨i, j, rfl, q _ H (Same.refl H) rfl⟩
    · cases e
  · -- sum
    rename_i v
    obtain ⟨x, rfl, hx⟩ := hvs.one
    split at e
    · rename_i ds e1
      obtain ⟨a, rfl, ws, hp, hv⟩ := rd_sound hR hx e1
      cases e2 : sumD 0 ds with
      | none =>
        rw [e2] at e
        cases e
      | some n =>
        rw [e2] at e
        cases e
        obtain ⟨ns, rfl, rfl⟩ := sums_of e2
        have e4 := VRs.ints hv
        subst e4
        refine cr_sum hc pins s σ' H _ us Q I rs ⟨a, ns, rfl, .of hp, ?_⟩
        have := q (.int (0 + ns.sum)) H (Same.refl H) rfl
        rw [Int.zero_add] at this
        exact this
    · cases e
  · -- all
    rename_i v
    obtain ⟨x, rfl, hx⟩ := hvs.one
    split at e
    · rename_i ds e1
      obtain ⟨a, rfl, ws, hp, hv⟩ := rd_sound hR hx e1
      cases e2 : boolsD ds with
      | none =>
        rw [e2] at e
        cases e
      | some n =>
        rw [e2] at e
        cases e
        have e3 := bools_of e2
        subst e3
        have e4 := VRs.bools hv
        subst e4
        exact cr_all hc pins s σ' H _ us Q I rs ⟨a, n, rfl, .of hp, q _ H (Same.refl H) rfl⟩
    · cases e
  · -- any
    rename_i v
    obtain ⟨x, rfl, hx⟩ := hvs.one
    split at e
    · rename_i ds e1
      obtain ⟨a, rfl, ws, hp, hv⟩ := rd_sound hR hx e1
      cases e2 : boolsD ds with
      | none =>
        rw [e2] at e
        cases e
      | some n =>
        rw [e2] at e
        cases e
        have e3 := bools_of e2
        subst e3
        have e4 := VRs.bools hv
        subst e4
        exact cr_any hc pins s σ' H _ us Q I rs ⟨a, n, rfl, .of hp, q _ H (Same.refl H) rfl⟩
    · cases e
  · -- int
    rename_i v
    obtain ⟨x, rfl, hx⟩ := hvs.one
    split at e
    · rename_i i e1
      cases e
      obtain ⟨rfl, _⟩ := rd_sound hR hx e1
      exact call_int1 pins s σ' H _ us Q I rs (.inl ⟨i, rfl, q _ H (Same.refl H) rfl⟩)
    · rename_i i e1
      cases e
      obtain ⟨rfl, _⟩ := rd_sound hR hx e1
      exact call_int1 pins s σ' H _ us Q I rs (.inr ⟨i, rfl, q _ H (Same.refl H) rfl⟩)
    · cases e
  · -- tuple
    rename_i v
    obtain ⟨x, rfl, hx⟩ := hvs.one
    split at e
    · exact hx.elim
    · exact hx.elim
    · rename_i ds _ _ e1
      rw [items_rd hx] at e1
      split at e
      · rename_i es e2
        cases e
        rw [e2] at e1
        cases e1
        obtain ⟨a, rfl, ws, hp, hv⟩ := rd_sound hR hx e2
        exact call_tuple_of pins s σ' H _ us Q I rs ⟨a, ws, rfl, .inl ⟨.of hp, fun l hl => q _ _ (same_new hl) (NewR.tup hl hv)⟩⟩
      · rename_i es e2
        cases e
        rw [e2] at e1
        cases e1
        obtain ⟨⟨a, ws, rfl, hs, hv⟩, _⟩ := rd_sound hR hx e2
        exact call_tuple_of pins s σ' H _ us Q I rs ⟨a, ws, rfl, .inr ⟨hs, q _ H (Same.refl H) ⟨a, ws, rfl, hs, hv⟩⟩⟩
      · cases e
    · cases e
  · -- list
    rename_i v
    obtain ⟨x, rfl, hx⟩ := hvs.one
    split at e
    · exact hx.elim
    · rename_i ds _ e1
      rw [items_rd hx] at e1
      split at e
      · rename_i es e2
        cases e
        rw [e2] at e1
        cases e1
        obtain ⟨a, rfl, ws, hp, hv⟩ := rd_sound hR hx e2
        exact call_list_of pins s σ' H _ us Q I rs ⟨a, ws, rfl, .inl (.of hp), fun l hl => q _ _ (same_new hl) (NewR.lst hl hv)⟩
      · rename_i es e2
        cases e
        rw [e2] at e1
        cases e1
        obtain ⟨⟨a, ws, rfl, hs, hv⟩, _⟩ := rd_sound hR hx e2
        exact call_list_of pins s σ' H _ us Q I rs ⟨a, ws, rfl, .inr hs, fun l hl => q _ _ (same_new hl) (NewR.lst hl hv)⟩
      · rename_i es e2
        cases e
        rw [e2] at e1
        cases e1
        obtain ⟨⟨a, ws, rfl, hs, hv⟩, _⟩ := rd_sound hR hx e2
        exact call_list_of pins s σ' H _ us Q I rs ⟨a, ws, rfl, .inl hs.sq, fun l hl => q _ _ (same_new hl) (NewR.lst hl hv)⟩
      · cases e
    · cases e
  · -- divmod
    rename_i v u
    obtain ⟨x, y, rfl, hx, hy⟩ := hvs.two
    split at e
    · rename_i i j e1 e2
      split at e
      · rename_i hc'
        cases e
        cases q1 : rd st v with
        | none =>
          rw [q1] at e1
          cases e1
        | some w1 =>
          rw [q1] at e1
          cases q2 : rd st u with
          | none =>
            rw [q2] at e2
            cases e2
          | some w2 =>
            rw [q2] at e2
            have ex := intW_of (rd_sound hR hx q1) e1
            have ey := intW_of (rd_sound hR hy q2) e2
            subst ex ey
            exact call_divmodW pins s σ' H _ us Q I rs ⟨i, j, rfl, divp_ok hc'.1 hc'.2, fun p hp => q _ _ (same_new hp) (NewR.tup hp (.cons rfl (.cons rfl .nil)))⟩
      · cases e
    · cases e
  · cases e
end
end EW

-- part: Sound5
set_option maxHeartbeats 1000000
/-! expressions -/
namespace EW
open PySem PySem.Spec PyProof.Rows L2
theorem PE.imp {X : Cx} {e : Expr} {t t' : TE} (h : PE X e t) (f : ∀ σ H Q, t' σ H Q → t σ H Q) : PE X e t' := ⟨fun pins s σ H Q I q => h.run pins s σ H Q I (f σ H Q q)⟩
theorem PT.imp {X : Cx} {e : Expr} {t t' : TT} (h : PT X e t) (f : ∀ σ H Q, t' σ H Q → t σ H Q) : PT X e t' := ⟨fun pins s σ H Q I q => h.run pins s σ H Q I (f σ H Q q)⟩
theorem PW.imp {X : Cx} {e : Expr} {t t' : TT} (h : PW X e t) (f : ∀ σ H Q, t' σ H Q → t σ H Q) : PW X e t' := ⟨fun w pins s σ H Q I q => h.run w pins s σ H Q I (f σ H Q q)⟩
theorem PA.imp {X : Cx} {es : List Expr} {t t' : TA} (h : PA X es t) (f : ∀ σ H Q, t' σ H Q → t σ H Q) : PA X es t' := ⟨fun pos pins s σ H Q I q => h.run pos pins s σ H Q I (f σ H Q q)⟩
theorem PS.imp {X : Cx} {s : Stmt} {t t' : TS} (h : PS X s t) (f : ∀ D σ H, t' D σ H → t D σ H) : PS X s t' := ⟨fun pins s σ H D I q => h.run pins s σ H D I (f D σ H q)⟩
theorem PSs.imp {X : Cx} {s : List Stmt} {t t' : TS} (h : PSs X s t) (f : ∀ D σ H, t' D σ H → t D σ H) : PSs X s t' := ⟨fun pins s σ H D I q => h.run pins s σ H D I (f D σ H q)⟩
theorem PE.or {X : Cx} {e : Expr} {t t' : TE} (h : PE X e t) (h' : PE X e t') : PE X e (fun σ H Q => t σ H Q ∨ t' σ H Q) := ⟨fun pins s σ H Q I q => q.elim (h.run pins s σ H Q I) (h'.run pins s σ H Q I)⟩

/-- the class of a refusal -/
def ClsIs (X : Cx) (c : String) (cls : Value) : Prop := ∃ a, X.mg (Str.ofString c) = some (.ref a) ∧ cls = .ref a
/-- what is wanted behind a refusal -/
def XQ (X : Cx) (ρ : List Addr) (H : Hp) (st : St) (σ : L2.St) (Wx : WX) (c : String) (st' : St) : Prop :=
  ∀ cls H' ρ', Step X.K ρ H st σ ρ' H' st' σ → ClsIs X c cls → Wx cls none σ H'
def EQ (X : Cx) (ρ : List Addr) (H : Hp) (st : St) (σ : L2.St) (Q : VK) (r : EV) (st' : St) : Prop :=
  ∀ v H' ρ', Step X.K ρ H st σ ρ' H' st' σ → ER X.K ρ' H' st' σ r v → New ρ H st σ r v → Q v H'
def BQ (X : Cx) (ρ : List Addr) (H : Hp) (st : St) (σ : L2.St) (Q : Bool → Hp → Prop) (b : Bool) (st' : St) : Prop :=
  ∀ H' ρ', Step X.K ρ H st σ ρ' H' st' σ → Q b H'
def tE (X : Cx) (f : St → Out EV) (Wx : WX) : TE := fun σ H Q => ∃ ρ st, Res X.K ρ H st σ ∧ Wp (f st) (EQ X ρ H st σ Q) (XQ X ρ H st σ Wx)
def tB (X : Cx) (f : St → Out Bool) (Wx : WX) : TT := fun σ H Q => ∃ ρ st, Res X.K ρ H st σ ∧ Wp (f st) (BQ X ρ H st σ Q) (XQ X ρ H st σ Wx)
def SE (X : Cx) (G : Gam) (m : E) (e : Expr) : Prop := ∀ Wx, Takes X Wx → PE X e (tE X (ev G m) Wx)
def ST (X : Cx) (G : Gam) (m : E) (e : Expr) : Prop := ∀ Wx, Takes X Wx → PT X e (tB X (tst G m) Wx)
section
variable {X : Cx} {G : Gam} {Wx : WX}
theorem XQ.back {ρ ρ1 : List Addr} {H H1 : Hp} {st st1 : St} {σ : L2.St} (s : Step X.K ρ H st σ ρ1 H1 st1 σ) {c : String} {st' : St} (h : XQ X ρ H st σ Wx c st') : XQ X ρ1 H1 st1 σ Wx c st' :=
  fun cls H' ρ' s' hc => h cls H' ρ' (s.trans s') hc
theorem New.trans {ρ ρ1 : List Addr} {H H1 : Hp} {st st1 : St} {σ : L2.St} (s : Step X.K ρ H st σ ρ1 H1 st1 σ) {r : EV} {v : V} (n : New ρ1 H1 st1 σ r v) : New ρ H st σ r v := fun x p e1 e2 => by
  rcases n x p e1 e2 with h | h
  · exact New.back s h
  · rcases s.grow p h with q | q
    · exact .inr q
    · exact .inl q
theorem EQ.back {ρ ρ1 : List Addr} {H H1 : Hp} {st st1 : St} {σ : L2.St} {Q : VK} (s : Step X.K ρ H st σ ρ1 H1 st1 σ) {r : EV} {st' : St} (h : EQ X ρ H st σ Q r st') : EQ X ρ1 H1 st1 σ Q r st' :=
  fun v H' ρ' s' hr hn => h v H' ρ' (s.trans s') hr (New.trans s hn)
theorem BQ.back {ρ ρ1 : List Addr} {H H1 : Hp} {st st1 : St} {σ : L2.St} {Q : Bool → Hp → Prop} (s : Step X.K ρ H st σ ρ1 H1 st1 σ) {r : Bool} {st' : St} (h : BQ X ρ H st σ Q r st') : BQ X ρ1 H1 st1 σ Q r st' :=
  fun H' ρ' s' => h H' ρ' (s.trans s')
/-- a value operation is the end -/
theorem EQ.fin {ρ ρ2 : List Addr} {H H2 H' : Hp} {st st2 : St} {σ : L2.St} {Q : VK} {r : EV} {v : V} (h : EQ X ρ H st σ Q r st2) (s : Step X.K ρ H st σ ρ2 H2 st2 σ) (e : Same H2 H') (n : NewR X.K ρ2 H2 r H' v) : Q v H' := by
  obtain ⟨a, b, c⟩ := fin_new s e n
  exact h v H' ρ2 a b c
/-- running one part, then the rest -/
theorem tE.bind {f : St → Out EV} {σ : L2.St} {H : Hp} {ρ : List Addr} {st : St} {α : Type} {g : EV → St → Out α} {P : α → St → Prop} {F : String → St → Prop} {R : VK} (hR : Res X.K ρ H st σ) (h : Wp ((f st).bind g) P F)
    (hF : ∀ c st', F c st' → XQ X ρ H st σ Wx c st')
    (k : ∀ r st1 v H1 ρ1, Step X.K ρ H st σ ρ1 H1 st1 σ → ER X.K ρ1 H1 st1 σ r v → New ρ H st σ r v → Wp (g r st1) P F → R v H1) : tE X f Wx σ H R :=
  ⟨ρ, st, hR, (Wp.bind.mp h).mono (fun r st1 h1 v H1 ρ1 s hr hn => k r st1 v H1 ρ1 s hr hn h1) hF⟩
theorem tB.bind {f : St → Out Bool} {σ : L2.St} {H : Hp} {ρ : List Addr} {st : St} {α : Type} {g : Bool → St → Out α} {P : α → St → Prop} {F : String → St → Prop} {R : Bool → Hp → Prop} (hR : Res X.K ρ H st σ) (h : Wp ((f st).bind g) P F)
    (hF : ∀ c st', F c st' → XQ X ρ H st σ Wx c st')
    (k : ∀ b st1 H1 ρ1, Step X.K ρ H st σ ρ1 H1 st1 σ → Wp (g b st1) P F → R b H1) : tB X f Wx σ H R :=
  ⟨ρ, st, hR, (Wp.bind.mp h).mono (fun r st1 h1 H1 ρ1 s => k r st1 H1 ρ1 s h1) hF⟩

/-! ### names and constants -/
theorem se_k {e : Expr} {d : D} {v : V} (h : PE X e (tC v)) (hv : ∀ ρ H, VR X.K ρ H d v) {m : E} (hm : ∀ st, ev G m st = .ok (.d d) st) : SE X G m e := fun Wx tk => by
  refine PE.imp h ?_
  rintro σ H Q ⟨ρ, st, hR, h⟩
  rw [hm] at h
  exact h v H ρ (Step.refl hR) (hv ρ H) (fun x p e _ => nomatch e)
theorem se_v {i : Nat} {e : Expr} (h : PE X e (tVar i)) : SE X G (.v i) e := fun Wx tk => by
  refine PE.imp h ?_
  rintro σ H Q ⟨ρ, st, hR, h⟩
  rw [ev] at h
  cases q : st.σ[i]? with
  | none =>
    rw [q] at h
    exact h.elim
  | some sl =>
    rw [q] at h
    have z := hR.sl i sl q
    cases sl with
    | un => exact h.elim
    | d x =>
      obtain ⟨v, e1, h1⟩ := z
      exact ⟨v, e1, h v H ρ (Step.refl hR) h1 (fun x p e _ => nomatch e)⟩
    | o x =>
      obtain ⟨p, e1, h1, h2⟩ := z
      exact ⟨_, e1, h (.ref p) H ρ (Step.refl hR) e1 (fun x p e _ => nomatch e)⟩
/-! ### operations -/
theorem wp_of {α : Type} {o : Option α} {st : St} {P : α → St → Prop} {F : String → St → Prop} (h : Wp (Out.of st o) P F) : ∃ a, o = some a ∧ P a st := by
  cases o with
  | none => exact h.elim
  | some a => exact ⟨a, rfl, h⟩
theorem wp_of2 {α : Type} {o : Option (α × St)} {P : α → St → Prop} {F : String → St → Prop} (h : Wp (Out.of2 o) P F) : ∃ a st, o = some (a, st) ∧ P a st := by
  cases o with
  | none => exact h.elim
  | some p => exact ⟨p.1, p.2, rfl, h⟩
theorem se_bin {op : Operator} {a b : E} {ea eb : Expr} {pos : Pos} (ha : SE X G a ea) (hb : SE X G b eb) : SE X G (.bin op a b) (.BinOp ea op eb pos) := fun Wx tk => by
  refine PE.imp (pe_op (op_binW op) (ha Wx tk) (hb Wx tk)) ?_
  rintro σ H Q ⟨ρ, st, hR, h⟩
  rw [ev] at h
  refine tE.bind hR h (fun _ _ x => x) fun va st1 v1 H1 ρ1 s1 r1 n1 h => ?_
  refine tE.bind s1.res h (fun _ _ x => x.back s1) fun vb st2 v2 H2 ρ2 s2 r2 n2 h => ?_
  have r1' := ER.step s1.res s2 r1
  cases q1 : rd st2 va with
  | none =>
    rw [q1] at h
    exact h.elim
  | some wa =>
    cases q2 : rd st2 vb with
    | none =>
      rw [q1, q2] at h
      exact h.elim
    | some wb =>
      rw [q1, q2] at h
      obtain ⟨r, e, h⟩ := wp_of h
      exact ⟨ρ2, wa, wb, r, rd_sound s2.res r1' q1, rd_sound s2.res r2 q2, e, fun v H' e n => h.fin (s1.trans s2) e n⟩
theorem se_cmp {op : CmpOp} {a b : E} {ea eb : Expr} {pos : Pos} (hu : Deep X) (hm : behindInMarks op eb = false) (ha : SE X G a ea) (hb : SE X G b eb) : SE X G (.cmp op a b) (.Compare ea [op] [eb] pos) := fun Wx tk => by
  refine PE.imp (pe_cmpR (op_cmpW hu op) (ha Wx tk) (hb Wx tk) hm) ?_
  rintro σ H Q ⟨ρ, st, hR, h⟩
  rw [ev] at h
  refine tE.bind hR h (fun _ _ x => x) fun va st1 v1 H1 ρ1 s1 r1 n1 h => ?_
  refine tE.bind s1.res h (fun _ _ x => x.back s1) fun vb st2 v2 H2 ρ2 s2 r2 n2 h => ?_
  have r1' := ER.step s1.res s2 r1
  cases q1 : rd st2 va with
  | none =>
    rw [q1] at h
    exact h.elim
  | some wa =>
    cases q2 : rd st2 vb with
    | none =>
      rw [q1, q2] at h
      exact h.elim
    | some wb =>
      rw [q1, q2] at h
      obtain ⟨r, e, h⟩ := wp_of h
      cases q3 : cmpW op wa wb with
      | none =>
        rw [q3] at e
        cases e
      | some c =>
        rw [q3] at e
        cases e
        exact ⟨ρ2, wa, wb, c, rd_sound s2.res r1' q1, rd_sound s2.res r2 q2, q3, h.fin (s1.trans s2) (Same.refl H2) rfl⟩
theorem st_cmp {op : CmpOp} {a b : E} {ea eb : Expr} {pos : Pos} (hu : Deep X) (hm : behindInMarks op eb = false) (ha : SE X G a ea) (hb : SE X G b eb) : ST X G (.cmp op a b) (.Compare ea [op] [eb] pos) := fun Wx tk => by
  refine PT.imp (pt_cmpR (op_cmpW hu op) (ha Wx tk) (hb Wx tk) hm) ?_
  rintro σ H Q ⟨ρ, st, hR, h⟩
  simp only [tst] at h
  rw [ev] at h
  have h := Wp.bind.mp h
  refine tE.bind hR h (fun _ _ x => x) fun va st1 v1 H1 ρ1 s1 r1 n1 h => ?_
  refine tE.bind s1.res h (fun _ _ x => x.back s1) fun vb st2 v2 H2 ρ2 s2 r2 n2 h => ?_
  have r1' := ER.step s1.res s2 r1
  cases q1 : rd st2 va with
  | none =>
    rw [q1] at h
    exact h.elim
  | some wa =>
    cases q2 : rd st2 vb with
    | none =>
      rw [q1, q2] at h
      exact h.elim
    | some wb =>
      rw [q1, q2] at h
      obtain ⟨r, e, h⟩ := wp_of h
      cases q3 : cmpW op wa wb with
      | none =>
        rw [q3] at e
        cases e
      | some c =>
        rw [q3] at e
        cases e
        exact ⟨ρ2, wa, wb, c, rd_sound s2.res r1' q1, rd_sound s2.res r2 q2, q3, c, rfl, h H2 ρ2 (s1.trans s2)⟩
theorem se_neg {a : E} {ea : Expr} {pos : Pos} (ha : SE X G a ea) : SE X G (.neg a) (.UnaryOp .USub ea pos) := fun Wx tk => by
  refine PE.imp (pe_un un_neg (ha Wx tk)) ?_
  rintro σ H Q ⟨ρ, st, hR, h⟩
  rw [ev] at h
  refine tE.bind hR h (fun _ _ x => x) fun va st1 v1 H1 ρ1 s1 r1 n1 h => ?_
  cases q1 : rd st1 va with
  | none =>
    rw [q1] at h
    exact h.elim
  | some wa =>
    rw [q1] at h
    cases q2 : intW wa with
    | none =>
      simp only [Option.bind_some, q2] at h
      exact h.elim
    | some i =>
      simp only [Option.bind_some, q2] at h
      have e := intW_of (rd_sound s1.res r1 q1) q2
      exact ⟨i, e, EQ.fin h s1 (Same.refl H1) rfl⟩
theorem tru_of {ρ : List Addr} {H : Hp} {st : St} {σ : L2.St} {va : EV} {v : V} {b : Bool} (hR : Res X.K ρ H st σ) (r : ER X.K ρ H st σ va v) (e : (rd st va).bind truthW = some b) : ∃ w, WR X.K ρ H w v ∧ truthW w = some b := by
  cases q1 : rd st va with
  | none =>
    rw [q1] at e
    cases e
  | some w =>
    rw [q1] at e
    exact ⟨w, rd_sound hR r q1, e⟩
theorem truV_of {ρ : List Addr} {H : Hp} {w : Wv} {v : V} {b : Bool} (h : WR X.K ρ H w v) (e : truthW w = some b) : TruV X.K v H b := by
  have hlim := lim_line
  unfold truthW at e
  split at e
  · cases e
    obtain ⟨rfl, _⟩ := h
    exact rfl
  · cases e
    obtain ⟨rfl, _⟩ := h
    exact rfl
  · cases e
    obtain ⟨rfl, _⟩ := h
    exact rfl
  · split at e
    · cases e
      obtain ⟨rfl, _⟩ := h
      exact ⟨by omega, len_ne _⟩
    · cases e
  · cases e
    obtain ⟨⟨a, vs, rfl, hsq, hv⟩, _⟩ := h
    refine .inr (.inl ⟨vs, hsq, ?_⟩)
    rw [empty_len hv.length]
  · cases e
    obtain ⟨⟨a, vs, rfl, hsq, hv⟩, _⟩ := h
    refine .inl ⟨vs, hsq.sq, ?_⟩
    rw [empty_len hv.length]
  · cases e
    obtain ⟨a, rfl, vs, hp, hv⟩ := h
    refine .inl ⟨vs, .of hp, ?_⟩
    rw [empty_len hv.length]
  · cases e
theorem se_not {a : E} {ea : Expr} {pos : Pos} (ha : SE X G a ea) : SE X G (.not a) (.UnaryOp .Not ea pos) := fun Wx tk => by
  refine PE.imp (pe_notT (ha Wx tk)) ?_
  rintro σ H Q ⟨ρ, st, hR, h⟩
  rw [ev] at h
  refine tE.bind hR h (fun _ _ x => x) fun va st1 v1 H1 ρ1 s1 r1 n1 h => ?_
  cases q1 : (rd st1 va).bind truthW with
  | none =>
    rw [q1] at h
    exact h.elim
  | some b =>
    rw [q1] at h
    obtain ⟨w, hw, e⟩ := tru_of s1.res r1 q1
    exact ⟨b, truV_of hw e, EQ.fin h s1 (Same.refl H1) rfl⟩
theorem se_and {a b : E} {ea eb : Expr} {er : List Expr} {pos : Pos} (ha : SE X G a ea) (hb : SE X G b (.BoolOp .And (eb :: er) pos)) : SE X G (.and a b) (.BoolOp .And (ea :: eb :: er) pos) := fun Wx tk => by
  refine PE.imp (pe_andT (ha Wx tk) (hb Wx tk)) ?_
  rintro σ H Q ⟨ρ, st, hR, h⟩
  rw [ev] at h
  refine tE.bind hR h (fun _ _ x => x) fun va st1 v1 H1 ρ1 s1 r1 n1 h => ?_
  cases q1 : (rd st1 va).bind truthW with
  | none =>
    rw [q1] at h
    exact h.elim
  | some t =>
    rw [q1] at h
    obtain ⟨w, hw, e⟩ := tru_of s1.res r1 q1
    refine ⟨t, truV_of hw e, ?_⟩
    cases t with
    | true => exact iteT ⟨ρ1, st1, s1.res, Wp.mono h (fun _ _ x => x.back s1) fun _ _ x => x.back s1⟩
    | false => exact iteF (h v1 H1 ρ1 s1 r1 n1)
theorem se_or {a b : E} {ea eb : Expr} {er : List Expr} {pos : Pos} (ha : SE X G a ea) (hb : SE X G b (.BoolOp .Or (eb :: er) pos)) : SE X G (.or a b) (.BoolOp .Or (ea :: eb :: er) pos) := fun Wx tk => by
  refine PE.imp (pe_orT (ha Wx tk) (hb Wx tk)) ?_
  rintro σ H Q ⟨ρ, st, hR, h⟩
  rw [ev] at h
  refine tE.bind hR h (fun _ _ x => x) fun va st1 v1 H1 ρ1 s1 r1 n1 h => ?_
  cases q1 : (rd st1 va).bind truthW with
  | none =>
    rw [q1] at h
    exact h.elim
  | some t =>
    rw [q1] at h
    obtain ⟨w, hw, e⟩ := tru_of s1.res r1 q1
    refine ⟨t, truV_of hw e, ?_⟩
    cases t with
    | true => exact iteT (h v1 H1 ρ1 s1 r1 n1)
    | false => exact iteF ⟨ρ1, st1, s1.res, Wp.mono h (fun _ _ x => x.back s1) fun _ _ x => x.back s1⟩
theorem se_one {op : BoolOp} {b : E} {eb : Expr} {pos : Pos} (hb : SE X G b eb) : SE X G b (.BoolOp op [eb] pos) := fun Wx tk => pe_one (hb Wx tk)
theorem se_ife {c a b : E} {ec ea eb : Expr} {pos : Pos} (hc : ST X G c ec) (ha : SE X G a ea) (hb : SE X G b eb) : SE X G (.ife c a b) (.IfExp ec ea eb pos) := fun Wx tk => by
  refine PE.imp (pe_ifExp (hc Wx tk) (ha Wx tk) (hb Wx tk)) ?_
  rintro σ H Q ⟨ρ, st, hR, h⟩
  rw [ev] at h
  refine tB.bind hR h (fun _ _ x => x) fun t st1 H1 ρ1 s1 h => ?_
  cases t with
  | true => exact iteT ⟨ρ1, st1, s1.res, Wp.mono h (fun _ _ x => x.back s1) fun _ _ x => x.back s1⟩
  | false => exact iteF ⟨ρ1, st1, s1.res, Wp.mono h (fun _ _ x => x.back s1) fun _ _ x => x.back s1⟩
theorem se_idx {a b : E} {ea eb : Expr} {pos : Pos} (hs : PlainIx eb) (ha : SE X G a ea) (hb : SE X G b eb) : SE X G (.idx a b) (.Subscript ea eb pos) := fun Wx tk => by
  refine PE.imp (pe_ix ix_idxW (ha Wx tk) (hb Wx tk) hs) ?_
  rintro σ H Q ⟨ρ, st, hR, h⟩
  rw [ev] at h
  refine tE.bind hR h (fun _ _ x => x) fun va st1 v1 H1 ρ1 s1 r1 n1 h => ?_
  refine tE.bind s1.res h (fun _ _ x => x.back s1) fun vb st2 v2 H2 ρ2 s2 r2 n2 h => ?_
  have r1' := ER.step s1.res s2 r1
  cases q1 : rd st2 va with
  | none =>
    rw [q1] at h
    exact h.elim
  | some wa =>
    cases q2 : rd st2 vb with
    | none =>
      rw [q1, q2] at h
      exact h.elim
    | some wb =>
      rw [q1, q2] at h
      obtain ⟨r, e, h⟩ := wp_of h
      exact ⟨ρ2, wa, wb, r, rd_sound s2.res r1' q1, rd_sound s2.res r2 q2, e, fun v H' e n => h.fin (s1.trans s2) e n⟩

/-! ### tests -/
theorem st_tru {a : E} {ea : Expr} (he : ∀ whole, isTrue ea X.env whole = (do let v ← whole; standAt ea.pos; holding [v] (truthy v)))
    (hm : ∀ st, tst G a st = (ev G a st).bind fun v st1 => match (rd st1 v).bind truthW with | some t => .ok t st1 | none => .bad) (ha : SE X G a ea) : ST X G a ea := fun Wx tk => by
  refine PT.imp (pt_truth (ha Wx tk) he) ?_
  rintro σ H Q ⟨ρ, st, hR, h⟩
  rw [hm] at h
  refine tE.bind hR h (fun _ _ x => x) fun va st1 v1 H1 ρ1 s1 r1 n1 h => ?_
  cases q1 : (rd st1 va).bind truthW with
  | none =>
    rw [q1] at h
    exact h.elim
  | some t =>
    rw [q1] at h
    obtain ⟨w, hw, e⟩ := tru_of s1.res r1 q1
    exact ⟨t, truV_of hw e, h H1 ρ1 s1⟩
theorem st_not {a : E} {ea : Expr} {pos : Pos} (ha : ST X G a ea) : ST X G (.not a) (.UnaryOp .Not ea pos) := fun Wx tk => by
  refine PT.imp (pt_not (ha Wx tk)) ?_
  rintro σ H Q ⟨ρ, st, hR, h⟩
  simp only [tst] at h
  exact tB.bind hR h (fun _ _ x => x) fun t st1 H1 ρ1 s1 h => h H1 ρ1 s1
/-- a test whatever stands around it -/
def SW (X : Cx) (G : Gam) (m : E) (e : Expr) : Prop := ∀ Wx, Takes X Wx → PW X e (tB X (tst G m) Wx)
theorem SW.st {m : E} {e : Expr} (h : SW X G m e) : ST X G m e := fun Wx tk => (h Wx tk).pt
theorem sw_and {a b : E} {ea eb : Expr} {er : List Expr} {pos : Pos} (ha : ST X G a ea) (hb : SW X G b (.BoolOp .And (eb :: er) pos)) : SW X G (.and a b) (.BoolOp .And (ea :: eb :: er) pos) := fun Wx tk => by
  refine PW.imp (pw_and (ha Wx tk) (hb Wx tk)) ?_
  rintro σ H Q ⟨ρ, st, hR, h⟩
  simp only [tst] at h
  refine tB.bind hR h (fun _ _ x => x) fun t st1 H1 ρ1 s1 h => ?_
  cases t with
  | true => exact iteT ⟨ρ1, st1, s1.res, Wp.mono h (fun _ _ x => x.back s1) fun _ _ x => x.back s1⟩
  | false => exact iteF (h H1 ρ1 s1)
theorem sw_or {a b : E} {ea eb : Expr} {er : List Expr} {pos : Pos} (ha : ST X G a ea) (hb : SW X G b (.BoolOp .Or (eb :: er) pos)) : SW X G (.or a b) (.BoolOp .Or (ea :: eb :: er) pos) := fun Wx tk => by
  refine PW.imp (pw_or (ha Wx tk) (hb Wx tk)) ?_
  rintro σ H Q ⟨ρ, st, hR, h⟩
  simp only [tst] at h
  refine tB.bind hR h (fun _ _ x => x) fun t st1 H1 ρ1 s1 h => ?_
  cases t with
  | true => exact iteT (h H1 ρ1 s1)
  | false => exact iteF ⟨ρ1, st1, s1.res, Wp.mono h (fun _ _ x => x.back s1) fun _ _ x => x.back s1⟩
theorem sw_and1 {b : E} {eb : Expr} {pos : Pos} (hb : ST X G b eb) : SW X G b (.BoolOp .And [eb] pos) := fun Wx tk => pw_and1 (hb Wx tk)
theorem sw_or1 {b : E} {eb : Expr} {pos : Pos} (hb : ST X G b eb) : SW X G b (.BoolOp .Or [eb] pos) := fun Wx tk => pw_or1 (hb Wx tk)
end
end EW

-- part: Sound6
set_option maxHeartbeats 1000000
/-! what is handed on: temps and own objects go to the small heap -/
namespace EW
open PySem PySem.Spec PyProof.Rows L2
section
variable {K : PySem.W.Frag} {ρ ρ0 ρ1 ρ2 ρ' : List Addr} {H H0 H1 H2 H' : Hp} {st st0 st1 st2 st' : St} {σ : L2.St}
theorem pre_app (ρ : List Addr) (p : Addr) : ρ <+: ρ ++ [p] := ⟨[p], rfl⟩
theorem HR.push {h : List O} {p : Addr} {x : O} (r : HR K ρ H h) (hp : p ∉ ρ) (hx : OR K ρ H p x) : HR K (ρ ++ [p]) H (h ++ [x]) := by
  refine ⟨by simp [r.len], ?_, fun i q y h1 h2 => ?_⟩
  · rw [List.nodup_append]
    refine ⟨r.nd, by simp, fun a ha b hb => ?_⟩
    have e : b = p := by simpa using hb
    rw [e]
    intro z
    rw [z] at ha
    exact hp ha
  · have mono : ∀ {q : Addr} {y : O}, OR K ρ H q y → OR K (ρ ++ [p]) H q y := fun h => h.mono rfl (Pers.refl H) (pre_app ρ p)
    by_cases hi : i < ρ.length
    · rw [List.getElem?_append_left hi] at h1
      rw [List.getElem?_append_left (by rw [← r.len]; exact hi)] at h2
      exact mono (r.obj i q y h1 h2)
    · have e : i = ρ.length := by
        have := (List.getElem?_eq_some_iff.mp h1).1
        simp at this
        omega
      subst e
      rw [List.getElem?_append_right (Nat.le_refl _)] at h1
      rw [List.getElem?_append_right (by rw [r.len]; exact Nat.le_refl _)] at h2
      simp [r.len] at h1 h2
      subst h1 h2
      exact mono hx
theorem SlotR.mono {σ : L2.St} {i : Nat} {s : Sl} (hp : ρ <+: ρ') (h : SlotR K ρ H σ i s) (hn : ∀ p x, s = .o x → σ[i]? = some (some (.ref p)) → p ∉ ρ') : SlotR K ρ' H σ i s := by
  cases s with
  | un => trivial
  | d x =>
    obtain ⟨v, e, h⟩ := h
    exact ⟨v, e, h.mono (Pers.refl H) hp x v⟩
  | o x =>
    obtain ⟨p, e, h, n⟩ := h
    exact ⟨p, e, h.mono rfl (Pers.refl H) hp, hn p x rfl e⟩
theorem toD_core {r : EV} {v : V} {d : D} (hR : Res K ρ H st σ) (hr : ER K ρ H st σ r v) (e : toD r st = some (d, st')) :
    ∃ ρ', Res K ρ' H st' σ ∧ ρ <+: ρ' ∧ VR K ρ' H d v ∧ ∀ a, Dom st' σ ρ' a → Dom st σ ρ a ∨ ∃ x, r = .o x ∧ v = .ref a := by
  cases r with
  | d x =>
    simp only [toD, Option.some.injEq, Prod.mk.injEq] at e
    obtain ⟨rfl, rfl⟩ := e
    exact ⟨ρ, hR, List.prefix_refl _, hr, fun a h => .inl h⟩
  | o x =>
    simp only [toD, Option.some.injEq, Prod.mk.injEq] at e
    obtain ⟨rfl, rfl⟩ := e
    obtain ⟨p, rfl, hx, n⟩ := hr
    have np : p ∉ ρ := fun h => n (.inl h)
    refine ⟨ρ ++ [p], ⟨hR.hr.push np hx, hR.len, fun i s h => ?_, hR.sep⟩, pre_app ρ p, ⟨p, ?_, rfl⟩, fun a h => ?_⟩
    · refine (hR.sl i s h).mono (pre_app ρ p) fun q y e1 e2 => ?_
      subst e1
      intro hm
      rcases List.mem_append.mp hm with z | z
      · obtain ⟨q', e3, _, n'⟩ := hR.sl i _ h
        rw [e2] at e3
        cases e3
        exact n' z
      · have e3 : q = p := by simpa using z
        subst e3
        exact n (.inr ⟨i, y, h, e2⟩)
    · rw [← hR.hr.len]
      simp
    · rcases h with h | h
      · rcases List.mem_append.mp h with z | z
        · exact .inl (.inl z)
        · have e3 : a = p := by simpa using z
          exact .inr ⟨x, rfl, by rw [e3]⟩
      · exact .inl (.inr h)
  | pl i =>
    have hi : σ[i]? = some (some v) := hr
    simp only [toD] at e
    cases q : st.σ[i]? with
    | none =>
      rw [q] at e
      cases e
    | some s =>
      rw [q] at e
      have z := hR.sl i s q
      cases s with
      | un => cases e
      | d x =>
        simp only [Option.some.injEq, Prod.mk.injEq] at e
        obtain ⟨rfl, rfl⟩ := e
        obtain ⟨v', e1, h1⟩ := z
        rw [hi] at e1
        cases e1
        exact ⟨ρ, hR, List.prefix_refl _, h1, fun a h => .inl h⟩
      | o x =>
        simp only [Option.some.injEq, Prod.mk.injEq] at e
        obtain ⟨rfl, rfl⟩ := e
        obtain ⟨p, e1, h1, np⟩ := z
        rw [hi] at e1
        cases e1
        have hlt : i < st.σ.length := (List.getElem?_eq_some_iff.mp q).1
        have len : (ρ ++ [p])[st.h.length]? = some p := by
          rw [← hR.hr.len]
          simp
        refine ⟨ρ ++ [p], ⟨hR.hr.push np h1, by simpa using hR.len, fun j s h => ?_, fun j k y z' w hjk h2 h3 h4 h5 => ?_⟩, pre_app ρ p, ⟨p, len, rfl⟩, fun a h => ?_⟩
        · by_cases hj : j = i
          · subst hj
            rw [List.getElem?_set_self hlt] at h
            cases h
            exact ⟨_, hi, p, len, rfl⟩
          · rw [List.getElem?_set_ne (Ne.symm hj)] at h
            refine (hR.sl j s h).mono (pre_app ρ p) fun q' y e1 e2 => ?_
            subst e1
            intro hm
            rcases List.mem_append.mp hm with z | z
            · obtain ⟨q'', e3, _, n'⟩ := hR.sl j _ h
              rw [e2] at e3
              cases e3
              exact n' z
            · have e3 : q' = p := by simpa using z
              subst e3
              exact hR.sep j i y x q' hj h q e2 hi
        · have hj : j ≠ i := fun z => by
            subst z
            rw [List.getElem?_set_self hlt] at h2
            cases h2
          have hk : k ≠ i := fun z => by
            subst z
            rw [List.getElem?_set_self hlt] at h3
            cases h3
          rw [List.getElem?_set_ne (Ne.symm hj)] at h2
          rw [List.getElem?_set_ne (Ne.symm hk)] at h3
          exact hR.sep j k y z' w hjk h2 h3 h4 h5
        · left
          rcases h with h | ⟨j, y, h2, h3⟩
          · rcases List.mem_append.mp h with z | z
            · exact .inl z
            · have e3 : a = p := by simpa using z
              subst e3
              exact .inr ⟨i, x, q, hi⟩
          · have hj : j ≠ i := fun z => by
              subst z
              rw [List.getElem?_set_self hlt] at h2
              cases h2
            rw [List.getElem?_set_ne (Ne.symm hj)] at h2
            exact .inr ⟨j, y, h2, h3⟩
  | it k vs => exact hr.elim
/-- one value is handed on -/
theorem toD_sound {r : EV} {v : V} {d : D} (s : Step K ρ0 H0 st0 σ ρ H st σ) (hr : ER K ρ H st σ r v) (hn : New ρ0 H0 st0 σ r v) (e : toD r st = some (d, st')) :
    ∃ ρ', Step K ρ0 H0 st0 σ ρ' H st' σ ∧ ρ <+: ρ' ∧ VR K ρ' H d v ∧ ∀ a, Dom st' σ ρ' a → Dom st σ ρ a ∨ ∃ x, r = .o x ∧ v = .ref a := by
  obtain ⟨ρ', h1, h2, h3, h4⟩ := toD_core s.res hr e
  refine ⟨ρ', ⟨h1, s.pre.trans h2, s.frame, fun a ha => ?_⟩, h2, h3, h4⟩
  rcases h4 a ha with z | ⟨x, e1, e2⟩
  · exact s.grow a z
  · rcases hn x a e1 e2 with z | z
    · exact .inr z
    · exact .inl z

/-! ### argument lists -/
def ERs (K : PySem.W.Frag) (ρ : List Addr) (H : Hp) (st : St) (σ : L2.St) : List EV → List V → Prop
  | [], vs => vs = []
  | r :: rs, vs => ∃ v t, vs = v :: t ∧ ER K ρ H st σ r v ∧ ERs K ρ H st σ rs t ∧ ∀ x p, r = .o x → v = .ref p → ∀ (j : Nat) (y : O), rs[j]? = some (.o y) → t[j]? = some (.ref p) → False
def NewS (ρ : List Addr) (H : Hp) (st : St) (σ : L2.St) (rs : List EV) (vs : List V) : Prop := ∀ (j : Nat) (x : O) (p : Addr), rs[j]? = some (.o x) → vs[j]? = some (.ref p) → H p = none ∨ Dom st σ ρ p
theorem ERs.erl : ∀ {rs : List EV} {vs : List V}, ERs K ρ H st σ rs vs → ERl K ρ H st σ rs vs
  | [], vs, h => h
  | r :: rs, vs, h => by
    obtain ⟨v, t, e, h1, h2, _⟩ := h
    exact ⟨v, t, e, h1, ERs.erl h2⟩
theorem ERs.promo {p : V} (hp : ρ <+: ρ') (hd : ∀ a, Dom st' σ ρ' a → Dom st σ ρ a ∨ p = .ref a) : ∀ {rs : List EV} {vs : List V}, ERs K ρ H st σ rs vs →
    (∀ q, p = .ref q → ¬ Dom st σ ρ q → ∀ (j : Nat) (y : O), rs[j]? = some (.o y) → vs[j]? = some (.ref q) → False) → ERs K ρ' H st' σ rs vs
  | [], vs, h, _ => h
  | r :: rs, vs, h, hq => by
    obtain ⟨v, t, rfl, h1, h2, h3⟩ := h
    refine ⟨v, t, rfl, ?_, ERs.promo hp hd h2 (fun q e n j y e1 e2 => hq q e n (j + 1) y (by simpa using e1) (by simpa using e2)), h3⟩
    cases r with
    | d x => exact VR.mono (Pers.refl H) hp x v h1
    | o x =>
      obtain ⟨q, e, hx, n⟩ := h1
      refine ⟨q, e, hx.mono rfl (Pers.refl H) hp, fun d => ?_⟩
      rcases hd q d with z | z
      · exact n z
      · exact hq q z n 0 x rfl (by rw [e]; rfl)
    | pl i => exact h1
    | it k vs => exact h1
theorem toDs_sound : ∀ {rs : List EV} {vs : List V} {ds : List D} {st st' : St} {ρ : List Addr}, Step K ρ0 H0 st0 σ ρ H st σ → ERs K ρ H st σ rs vs → NewS ρ0 H0 st0 σ rs vs → toDs rs st = some (ds, st') →
    ∃ ρ', Step K ρ0 H0 st0 σ ρ' H st' σ ∧ ρ <+: ρ' ∧ VRs K ρ' H ds vs
  | [], vs, ds, st, st', ρ, s, h, _, e => by
    simp only [toDs, Option.some.injEq, Prod.mk.injEq] at e
    obtain ⟨rfl, rfl⟩ := e
    exact ⟨ρ, s, List.prefix_refl _, h⟩
  | r :: rs, vs, ds, st, st', ρ, s, h, hn, e => by
    obtain ⟨v, t, rfl, h1, h2, h3⟩ := h
    simp only [toDs] at e
    cases q : toD r st with
    | none =>
      rw [q] at e
      cases e
    | some p =>
      obtain ⟨x, st1⟩ := p
      rw [q] at e
      simp only at e
      cases q2 : toDs rs st1 with
      | none =>
        rw [q2] at e
        cases e
      | some p2 =>
        obtain ⟨xs, st2⟩ := p2
        rw [q2] at e
        simp only [Option.some.injEq, Prod.mk.injEq] at e
        obtain ⟨rfl, rfl⟩ := e
        obtain ⟨ρ1, s1, g1, g2, g3⟩ := toD_sound s h1 (fun y p e1 e2 => hn 0 y p (by rw [e1]; rfl) (by rw [e2]; rfl)) q
        have h2' : ERs K ρ1 H st1 σ rs t := by
          refine ERs.promo (p := match r with | .o _ => v | _ => .non) g1 (fun a ha => ?_) h2 (fun q' e1 n j y e2 e3 => ?_)
          · rcases g3 a ha with z | ⟨x', e1, e2⟩
            · exact .inl z
            · subst e1
              exact .inr e2
          · cases r with
            | o x' => exact h3 x' q' rfl e1 j y e2 e3
            | d x' => cases e1
            | pl i => cases e1
            | it k vs => cases e1
        obtain ⟨ρ2, s2, g4, g5⟩ := toDs_sound s1 h2' (fun j y p e1 e2 => hn (j + 1) y p (by simpa using e1) (by simpa using e2)) q2
        exact ⟨ρ2, s2, g1.trans g4, .cons (g2.mono (Pers.refl H) g4 x v) g5⟩
end
section
variable {X : Cx} {G : Gam} {Wx : WX}
def AQ (X : Cx) (ρ : List Addr) (H : Hp) (st : St) (σ : L2.St) (Q : List V → Hp → Prop) (rs : List EV) (st' : St) : Prop :=
  ∀ vs H' ρ', Step X.K ρ H st σ ρ' H' st' σ → ERs X.K ρ' H' st' σ rs vs → NewS ρ H st σ rs vs → Q vs H'
def tA (X : Cx) (f : St → Out (List EV)) (Wx : WX) : TA := fun σ H Q => ∃ ρ st, Res X.K ρ H st σ ∧ Wp (f st) (AQ X ρ H st σ Q) (XQ X ρ H st σ Wx)
def SA (X : Cx) (G : Gam) (ms : List E) (es : List Expr) : Prop := ∀ Wx, Takes X Wx → PA X es (tA X (evs G ms) Wx)
theorem sa_nil : SA X G [] [] := fun Wx tk => by
  refine PA.imp pa_nil ?_
  rintro σ H Q ⟨ρ, st, hR, h⟩
  simp only [evs] at h
  exact h [] H ρ (Step.refl hR) rfl (fun j x p e => by simp at e)
theorem sa_cons {m : E} {ms : List E} {e : Expr} {es : List Expr} (hp : starEach (e :: es) X.env = (false, eval e X.env) :: starEach es X.env) (h1 : SE X G m e) (h2 : SA X G ms es) : SA X G (m :: ms) (e :: es) := fun Wx tk => by
  refine PA.imp (pa_cons (h1 Wx tk) (h2 Wx tk) hp) ?_
  rintro σ H Q ⟨ρ, st, hR, h⟩
  simp only [evs] at h
  refine tE.bind hR h (fun _ _ x => x) fun r st1 v H1 ρ1 s1 r1 n1 h => ?_
  refine ⟨ρ1, st1, s1.res, Wp.mono (Wp.bind.mp h) (fun rs st2 h2 vs H2 ρ2 s2 r2 n2 => ?_) fun _ _ x => x.back s1⟩
  refine h2 (v :: vs) H2 ρ2 (s1.trans s2) ⟨v, vs, rfl, ER.step s1.res s2 r1, r2, fun x p e1 e2 j y e3 e4 => ?_⟩ fun j x p e1 e2 => ?_
  · subst e1 e2
    obtain ⟨p', e5, hx, n⟩ := r1
    cases e5
    obtain ⟨o, e6, _⟩ := hx.there
    rcases n2 j y p e3 e4 with z | z
    · rw [e6] at z
      cases z
    · exact n z
  · cases j with
    | zero =>
      simp at e1 e2
      exact n1 x p e1 e2
    | succ j =>
      rcases n2 j x p (by simpa using e1) (by simpa using e2) with z | z
      · exact New.back s1 z
      · rcases s1.grow p z with z | z
        · exact .inr z
        · exact .inl z
theorem tA.bind {f : St → Out (List EV)} {σ : L2.St} {H : Hp} {ρ : List Addr} {st : St} {α : Type} {g : List EV → St → Out α} {P : α → St → Prop} {F : String → St → Prop} {R : List V → Hp → Prop} (hR : Res X.K ρ H st σ) (h : Wp ((f st).bind g) P F)
    (hF : ∀ c st', F c st' → XQ X ρ H st σ Wx c st')
    (k : ∀ rs st1 vs H1 ρ1, Step X.K ρ H st σ ρ1 H1 st1 σ → ERs X.K ρ1 H1 st1 σ rs vs → NewS ρ H st σ rs vs → Wp (g rs st1) P F → R vs H1) : tA X f Wx σ H R :=
  ⟨ρ, st, hR, (Wp.bind.mp h).mono (fun r st1 h1 v H1 ρ1 s hr hn => k r st1 v H1 ρ1 s hr hn h1) hF⟩

theorem se_tup {ms : List E} {es : List Expr} {x1 : Nat} {pos : Pos} (ha : SA X G ms es) : SE X G (.tup ms) (.Tuple es x1 pos) := fun Wx tk => by
  refine PE.imp (pe_tup (ha Wx tk)) ?_
  rintro σ H Q ⟨ρ, st, hR, h⟩
  rw [ev] at h
  refine tA.bind hR h (fun _ _ x => x) fun rs st1 vs H1 ρ1 s1 r1 n1 h => ?_
  obtain ⟨ds, st2, e, h⟩ := wp_of2 (Wp.bind.mp h)
  obtain ⟨ρ2, s2, _, hv⟩ := toDs_sound s1 r1 n1 e
  have hlim := lim_line
  split at h
  · refine ⟨by rw [hv.length]; omega, fun p hp => ?_⟩
    exact EQ.fin h s2 (same_new hp) (NewR.tup hp hv)
  · exact h.elim
theorem se_lst {ms : List E} {es : List Expr} {pos : Pos} (ha : SA X G ms es) : SE X G (.lst ms) (.List es pos) := fun Wx tk => by
  refine PE.imp (pe_lst (ha Wx tk)) ?_
  rintro σ H Q ⟨ρ, st, hR, h⟩
  rw [ev] at h
  refine tA.bind hR h (fun _ _ x => x) fun rs st1 vs H1 ρ1 s1 r1 n1 h => ?_
  obtain ⟨ds, st2, e, h⟩ := wp_of2 (Wp.bind.mp h)
  obtain ⟨ρ2, s2, _, hv⟩ := toDs_sound s1 r1 n1 e
  have hlim := lim_line
  split at h
  · refine ⟨by rw [hv.length]; omega, fun p hp => ?_⟩
    exact EQ.fin h s2 (same_new hp) (NewR.lst hp hv)
  · exact h.elim

/-! ### built-in calls -/
def biN : B → Str
  | .len => "len" | .max => "max" | .min => "min" | .sum => "sum" | .all => "all" | .any => "any" | .abs => "abs"
  | .int => "int" | .str => "str" | .tuple => "tuple" | .list => "list" | .sorted => "sorted" | .divmod => "divmod" | .repr => "repr" | .dict => "dict" | .set => "set"
theorem boot_bi (b : B) : bootBuiltins (biN b) = some (biV b) := by
  cases b <;> decide +kernel
theorem pe_callBi {b : B} {e : Expr} {es : List Expr} {t : TA} {r : List V → Hp → VK → Prop} {p pos : Pos} (hc : CallR X (biV b) r) (hg : Gl X (biN b)) (hm : X.mg (biN b) = none) (ha : PA X (e :: es) t)
    (he : starEach (e :: es) X.env = (false, eval e X.env) :: starEach es X.env) (hpl : (backTo pos (starEach es X.env)).any (·.1) = false) : PE X (.Call (.Name (biN b) p) (e :: es) [] pos) (tCB r t) := by
  have hb := boot_bi b
  cases b <;> first | exact pe_callB hc hg hm hb ha (by decide) (by decide) he hpl | exact pe_callTy hc hg hm hb ha (by decide) (by decide) he hpl
theorem se_bi {b : B} {ms : List E} {e : Expr} {es : List Expr} {p pos : Pos} (hc : X.calm = true) (hg : Gl X (biN b)) (hm : X.mg (biN b) = none)
    (he : starEach (e :: es) X.env = (false, eval e X.env) :: starEach es X.env) (hpl : (backTo pos (starEach es X.env)).any (·.1) = false) (ha : SA X G ms (e :: es)) : SE X G (.bi b ms) (.Call (.Name (biN b) p) (e :: es) [] pos) := fun Wx tk => by
  refine PE.imp (pe_callBi (call_bi hc b) hg hm (ha Wx tk) he hpl) ?_
  rintro σ H Q ⟨ρ, st, hR, h⟩
  rw [ev] at h
  refine tA.bind hR h (fun _ _ x => x) fun rs st1 vs H1 ρ1 s1 r1 n1 h => ?_
  obtain ⟨r, e, h⟩ := wp_of h
  exact ⟨ρ1, st1, σ, rs, r, s1.res, r1.erl, e, fun v H' e n => h.fin s1 e n⟩

/-! ### slices -/
def tO (X : Cx) (f : St → Out (Option Int)) (Wx : WX) : TO := fun σ H Q => ∃ ρ st, Res X.K ρ H st σ ∧ Wp (f st) (fun o st' => ∀ H' ρ', Step X.K ρ H st σ ρ' H' st' σ → Q o H') (XQ X ρ H st σ Wx)
def SO (X : Cx) (G : Gam) (m : E) (e : Option Expr) : Prop := ∀ Wx, Takes X Wx → PO X e (tO X (evo G m) Wx)
theorem PO.imp {X : Cx} {e : Option Expr} {t t' : TO} (h : PO X e t) (f : ∀ σ H Q, t' σ H Q → t σ H Q) : PO X e t' := ⟨fun pins s σ H Q I q => h.run pins s σ H Q I (f σ H Q q)⟩
theorem so_no : SO X G .no none := fun Wx tk => by
  refine PO.imp po_none ?_
  rintro σ H Q ⟨ρ, st, hR, h⟩
  simp only [evo] at h
  exact h H ρ (Step.refl hR)
theorem so_some {m : E} {e : Expr} (hm : m ≠ .no) (he : SE X G m e) : SO X G m (some e) := fun Wx tk => by
  refine PO.imp (po_some (he Wx tk)) ?_
  rintro σ H Q ⟨ρ, st, hR, h⟩
  have e1 : evo G m st = (ev G m st).bind fun v st1 => match (rd st1 v).bind intW with | some i => .ok (some i) st1 | none => .bad := by
    cases m <;> first | exact absurd rfl hm | (simp only [evo]; done) | (simp only [evo]; rfl)
  rw [e1] at h
  refine tE.bind hR h (fun _ _ x => x) fun va st1 v1 H1 ρ1 s1 r1 n1 h => ?_
  cases q1 : rd st1 va with
  | none =>
    rw [q1] at h
    exact h.elim
  | some wa =>
    rw [q1] at h
    cases q2 : intW wa with
    | none =>
      simp only [Option.bind_some, q2] at h
      exact h.elim
    | some i =>
      simp only [Option.bind_some, q2] at h
      exact ⟨i, intW_of (rd_sound s1.res r1 q1) q2, h H1 ρ1 s1⟩
theorem tO.bind {f : St → Out (Option Int)} {σ : L2.St} {H : Hp} {ρ : List Addr} {st : St} {α : Type} {g : Option Int → St → Out α} {P : α → St → Prop} {F : String → St → Prop} {R : Option Int → Hp → Prop} (hR : Res X.K ρ H st σ) (h : Wp ((f st).bind g) P F)
    (hF : ∀ c st', F c st' → XQ X ρ H st σ Wx c st')
    (k : ∀ b st1 H1 ρ1, Step X.K ρ H st σ ρ1 H1 st1 σ → Wp (g b st1) P F → R b H1) : tO X f Wx σ H R :=
  ⟨ρ, st, hR, (Wp.bind.mp h).mono (fun r st1 h1 H1 ρ1 s => k r st1 H1 ρ1 s h1) hF⟩
theorem se_sl {a lo hi : E} {ea : Expr} {elo ehi : Option Expr} {p2 pos : Pos} (ha : SE X G a ea) (hl : SO X G lo elo) (hh : SO X G hi ehi) : SE X G (.sl a lo hi) (.Subscript ea (.Slice elo ehi none p2) pos) := fun Wx tk => by
  refine PE.imp (pe_slice sl_W (ha Wx tk) (hl Wx tk) (hh Wx tk)) ?_
  rintro σ H Q ⟨ρ, st, hR, h⟩
  rw [ev] at h
  refine tE.bind hR h (fun _ _ x => x) fun va st1 v1 H1 ρ1 s1 r1 n1 h => ?_
  refine tO.bind s1.res h (fun _ _ x => x.back s1) fun l st2 H2 ρ2 s2 h => ?_
  refine tO.bind s2.res h (fun _ _ x => x.back (s1.trans s2)) fun u st3 H3 ρ3 s3 h => ?_
  have r1' := ER.step s2.res s3 (ER.step s1.res s2 r1)
  cases q1 : rd st3 va with
  | none =>
    rw [q1] at h
    exact h.elim
  | some wa =>
    rw [q1] at h
    obtain ⟨r, e, h⟩ := wp_of h
    exact ⟨ρ3, wa, r, rd_sound s3.res r1' q1, e, fun v H' e n => h.fin ((s1.trans s2).trans s3) e n⟩

/-! ### a op b op' c -/
theorem se_chn {op op' : CmpOp} {a b c : E} {ea eb ec : Expr} {pos : Pos} (hu : Deep X) (hm : lastMarks [op, op'] [eb, ec] = false) (ha : SE X G a ea) (hb : SE X G b eb) (hc : SE X G c ec) : SE X G (.chn op op' a b c) (.Compare ea [op, op'] [eb, ec] pos) := fun Wx tk => by
  refine PE.imp (pe_chain (op_cmpW hu op) (op_cmpW hu op') (ha Wx tk) (hb Wx tk) (hc Wx tk) hm) ?_
  rintro σ H Q ⟨ρ, st, hR, h⟩
  rw [ev] at h
  refine tE.bind hR h (fun _ _ x => x) fun va st1 v1 H1 ρ1 s1 r1 n1 h => ?_
  refine tE.bind s1.res h (fun _ _ x => x.back s1) fun vb st2 v2 H2 ρ2 s2 r2 n2 h => ?_
  have r1' := ER.step s1.res s2 r1
  cases q1 : rd st2 va with
  | none =>
    rw [q1] at h
    exact h.elim
  | some wa =>
    cases q2 : rd st2 vb with
    | none =>
      rw [q1, q2] at h
      exact h.elim
    | some wb =>
      simp only [q1, q2] at h
      cases q3 : cmpW op wa wb with
      | none =>
        rw [q3] at h
        exact h.elim
      | some k =>
        refine ⟨ρ2, wa, wb, k, rd_sound s2.res r1' q1, rd_sound s2.res r2 q2, q3, k, rfl, ?_⟩
        cases k with
        | false =>
          rw [q3] at h
          exact iteF (EQ.fin h (s1.trans s2) (Same.refl H2) rfl)
        | true =>
          rw [q3] at h
          refine iteT ?_
          refine tE.bind s2.res h (fun _ _ x => x.back (s1.trans s2)) fun vc st3 v3 H3 ρ3 s3 r3 n3 h => ?_
          have r2' := ER.step s2.res s3 r2
          cases q4 : rd st3 vb with
          | none =>
            rw [q4] at h
            exact h.elim
          | some wb' =>
            cases q5 : rd st3 vc with
            | none =>
              rw [q4, q5] at h
              exact h.elim
            | some wc =>
              rw [q4, q5] at h
              obtain ⟨r, e, h⟩ := wp_of h
              cases q6 : cmpW op' wb' wc with
              | none =>
                rw [q6] at e
                cases e
              | some k' =>
                rw [q6] at e
                cases e
                exact ⟨ρ3, wb', wc, k', rd_sound s3.res r2' q4, rd_sound s3.res r3 q5, q6, h.fin ((s1.trans s2).trans s3) (Same.refl H3) rfl⟩
theorem st_chn {op op' : CmpOp} {a b c : E} {ea eb ec : Expr} {pos : Pos} (hu : Deep X) (hm : lastMarks [op, op'] [eb, ec] = false) (ha : SE X G a ea) (hb : SE X G b eb) (hc : SE X G c ec) : ST X G (.chn op op' a b c) (.Compare ea [op, op'] [eb, ec] pos) := fun Wx tk => by
  refine PT.imp (pt_chain (op_cmpW hu op) (op_cmpW hu op') (ha Wx tk) (hb Wx tk) (hc Wx tk) hm) ?_
  rintro σ H Q ⟨ρ, st, hR, h⟩
  simp only [tst] at h
  rw [ev] at h
  have h := Wp.bind.mp h
  refine tE.bind hR h (fun _ _ x => x) fun va st1 v1 H1 ρ1 s1 r1 n1 h => ?_
  refine tE.bind s1.res h (fun _ _ x => x.back s1) fun vb st2 v2 H2 ρ2 s2 r2 n2 h => ?_
  have r1' := ER.step s1.res s2 r1
  cases q1 : rd st2 va with
  | none =>
    rw [q1] at h
    exact h.elim
  | some wa =>
    cases q2 : rd st2 vb with
    | none =>
      rw [q1, q2] at h
      exact h.elim
    | some wb =>
      simp only [q1, q2] at h
      cases q3 : cmpW op wa wb with
      | none =>
        rw [q3] at h
        exact h.elim
      | some k =>
        refine ⟨ρ2, wa, wb, k, rd_sound s2.res r1' q1, rd_sound s2.res r2 q2, q3, k, rfl, ?_⟩
        cases k with
        | false =>
          rw [q3] at h
          exact iteF ⟨false, rfl, h H2 ρ2 (s1.trans s2)⟩
        | true =>
          rw [q3] at h
          refine iteT ?_
          refine tE.bind s2.res h (fun _ _ x => x.back (s1.trans s2)) fun vc st3 v3 H3 ρ3 s3 r3 n3 h => ?_
          have r2' := ER.step s2.res s3 r2
          cases q4 : rd st3 vb with
          | none =>
            rw [q4] at h
            exact h.elim
          | some wb' =>
            cases q5 : rd st3 vc with
            | none =>
              rw [q4, q5] at h
              exact h.elim
            | some wc =>
              rw [q4, q5] at h
              obtain ⟨r, e, h⟩ := wp_of h
              cases q6 : cmpW op' wb' wc with
              | none =>
                rw [q6] at e
                cases e
              | some k' =>
                rw [q6] at e
                cases e
                exact ⟨ρ3, wb', wc, k', rd_sound s3.res r2' q4, rd_sound s3.res r3 q5, q6, k', rfl, h H3 ρ3 ((s1.trans s2).trans s3)⟩
end
end EW

-- part: Sound7
set_option maxHeartbeats 1000000
/-! calls of defs; what is walked -/
namespace EW
open PySem PySem.Spec PyProof.Rows L2 RZ RT
/-- a def's promise by Mini -/
structure HStep (K : PySem.W.Frag) (ρ : List Addr) (H : Hp) (ρ' : List Addr) (H' : Hp) (h' : List O) : Prop where
  hr : HR K ρ' H' h'
  pre : ρ <+: ρ'
  frame : ∀ a o, H a = some o → a ∉ ρ → H' a = some o
  grow : ∀ a, a ∈ ρ' → a ∈ ρ ∨ H a = none
def RC (K : PySem.W.Frag) (H : Hp) (ρ' : List Addr) (H' : Hp) (r : EV) (v : V) : Prop := match r with
  | .d x => VR K ρ' H' x v
  | .o x => ∃ p, v = .ref p ∧ OR K ρ' H' p x ∧ p ∉ ρ' ∧ H p = none
  | _ => False
def ClsM (mg : Str → Option Value) (c : String) (cls : Value) : Prop := ∃ a, mg (Str.ofString c) = some (.ref a) ∧ cls = .ref a
def spF (K : PySem.W.Frag) (mg : Str → Option Value) (n : Nat) (call : List D → List O → OutC) : Sp := fun vs H Q E => ∃ ρ h ds, HR K ρ H h ∧ VRs K ρ H ds vs ∧ ds.length = n ∧ match call ds h with
  | .ok r h' => ∀ v H' ρ', HStep K ρ H ρ' H' h' → RC K H ρ' H' r v → Q v H'
  | .ex c h' => ∀ cls H' ρ', HStep K ρ H ρ' H' h' → ClsM mg c cls → E cls none H'
  | .bad => False
section
variable {K : PySem.W.Frag} {ρ ρ' : List Addr} {H H' : Hp} {st : St} {σ : L2.St} {h' : List O}
theorem HStep.pers (hr : HR K ρ H st.h) (s : HStep K ρ H ρ' H' h') : Pers H H' := by
  have key : ∀ a, a ∈ ρ → ∃ x, OR K ρ H a x := fun a ha => by
    obtain ⟨i, hi, e⟩ := List.mem_iff_getElem.mp ha
    have hi' : i < st.h.length := by
      rw [← hr.len]
      exact hi
    exact ⟨_, hr.obj i a _ (by rw [List.getElem?_eq_getElem hi, e]) (List.getElem?_eq_getElem hi')⟩
  refine ⟨fun a xs h => s.frame a _ h fun d => ?_, fun a o u h => s.frame a _ h fun d => ?_⟩
  · obtain ⟨x, h1⟩ := key a d
    obtain ⟨o, e, n, _⟩ := h1.there
    rw [h] at e
    cases e
    exact n xs rfl
  · obtain ⟨x, h1⟩ := key a d
    obtain ⟨o', e, _, n⟩ := h1.there
    rw [h] at e
    cases e
    exact n o u rfl
/-- behind a call, in the caller -/
theorem HStep.step (hR : Res K ρ H st σ) (s : HStep K ρ H ρ' H' h') : Step K ρ H st σ ρ' H' { st with h := h' } σ := by
  have ps := HStep.pers hR.hr s
  refine ⟨⟨s.hr, hR.len, fun i sl e => ?_, hR.sep⟩, s.pre, fun a o e n => s.frame a o e fun z => n (.inl z), fun a d => ?_⟩
  · have z := hR.sl i sl e
    cases sl with
    | un => trivial
    | d x =>
      obtain ⟨v, e1, h1⟩ := z
      exact ⟨v, e1, h1.mono ps s.pre x v⟩
    | o x =>
      obtain ⟨p, e1, h1, n⟩ := z
      obtain ⟨o, e2, _⟩ := h1.there
      refine ⟨p, e1, h1.mono (by rw [e2, s.frame p o e2 n]) ps s.pre, fun z => ?_⟩
      rcases s.grow p z with q | q
      · exact n q
      · rw [e2] at q
        cases q
  · rcases d with d | ⟨i, x, e1, e2⟩
    · rcases s.grow a d with q | q
      · exact .inl (.inl q)
      · exact .inr q
    · exact .inl (.inr ⟨i, x, e1, e2⟩)
theorem RC.er {r : EV} {v : V} (hR : Res K ρ H st σ) (s : HStep K ρ H ρ' H' h') (h : RC K H ρ' H' r v) : ER K ρ' H' { st with h := h' } σ r v ∧ ∀ x p, r = .o x → v = .ref p → H p = none := by
  cases r with
  | d x => exact ⟨h, fun x p e _ => nomatch e⟩
  | o x =>
    obtain ⟨p, e, h1, n1, n2⟩ := h
    refine ⟨⟨p, e, h1, fun d => ?_⟩, fun y q e1 e2 => by rw [e] at e2; cases e2; exact n2⟩
    rcases d with d | ⟨i, y, e1, e2⟩
    · exact n1 d
    · have z := hR.notDom n2
      exact z (.inr ⟨i, y, e1, e2⟩)
  | pl i => exact h.elim
  | it k vs => exact h.elim
end
section
variable {X : Cx} {G : Gam} {Wx : WX}
theorem evs_length : ∀ {ms : List E} {st st' : St} {rs : List EV}, evs G ms st = .ok rs st' → rs.length = ms.length
  | [], st, st', rs, h => by
    simp only [evs] at h
    cases h
    rfl
  | m :: ms, st, st', rs, h => by
    simp only [evs] at h
    cases e1 : ev G m st with
    | bad =>
      rw [e1] at h
      cases h
    | ex c s1 =>
      rw [e1] at h
      cases h
    | ok v s1 =>
      rw [e1] at h
      simp only [Out.bind_ok] at h
      cases e2 : evs G ms s1 with
      | bad =>
        rw [e2] at h
        cases h
      | ex c s2 =>
        rw [e2] at h
        cases h
      | ok vs s2 =>
        rw [e2] at h
        cases h
        rw [List.length_cons, List.length_cons, evs_length e2]
theorem toDs_length : ∀ {rs : List EV} {st st' : St} {ds : List D}, toDs rs st = some (ds, st') → ds.length = rs.length
  | [], st, st', ds, h => by
    simp only [toDs, Option.some.injEq, Prod.mk.injEq] at h
    rw [← h.1]
    rfl
  | r :: rs, st, st', ds, h => by
    simp only [toDs] at h
    cases e1 : toD r st with
    | none =>
      rw [e1] at h
      cases h
    | some p =>
      obtain ⟨x, s1⟩ := p
      rw [e1] at h
      simp only at h
      cases e2 : toDs rs s1 with
      | none =>
        rw [e2] at h
        cases h
      | some p2 =>
        obtain ⟨xs, s2⟩ := p2
        rw [e2] at h
        simp only [Option.some.injEq, Prod.mk.injEq] at h
        rw [← h.1, List.length_cons, List.length_cons, toDs_length e2]
/-- .. with what the parts came to -/
theorem tA.bindE {f : St → Out (List EV)} {σ : L2.St} {H : Hp} {ρ : List Addr} {st : St} {α : Type} {g : List EV → St → Out α} {P : α → St → Prop} {F : String → St → Prop} {R : List V → Hp → Prop} (hR : Res X.K ρ H st σ) (h : Wp ((f st).bind g) P F)
    (hF : ∀ c st', F c st' → XQ X ρ H st σ Wx c st')
    (k : ∀ rs st1 vs H1 ρ1, f st = .ok rs st1 → Step X.K ρ H st σ ρ1 H1 st1 σ → ERs X.K ρ1 H1 st1 σ rs vs → NewS ρ H st σ rs vs → Wp (g rs st1) P F → R vs H1) : tA X f Wx σ H R := by
  refine ⟨ρ, st, hR, ?_⟩
  cases q : f st with
  | bad =>
    rw [q] at h
    exact h
  | ex c st1 =>
    rw [q] at h
    exact hF c st1 h
  | ok rs st1 =>
    rw [q] at h
    exact fun vs H1 ρ1 s r n => k rs st1 vs H1 ρ1 q s r n h
theorem se_call {f : String} {ms : List E} {e : Expr} {es : List Expr} {p pos : Pos} {k n : Nat} {fa : Addr} {fd : FuncData} {ps : List Str} (F : FnOk X.prog X.w X.K X.mg X.base (L2.CX X.prog X.w) k fa fd ps (spF X.K X.mg n (G.call f))) (hr : Room k X.A)
    (hg : Gl X (Str.ofString f)) (hm : X.mg (Str.ofString f) = some (.ref fa)) (hk : PySem.W.keepIn X.K (.ref fa) = true) (hb : Binds X.K fd ps []) (hn : ms.length = n) (hdb : (Str.ofString f == ("__debug__" : Str)) = false)
    (he : starEach (e :: es) X.env = (false, eval e X.env) :: starEach es X.env) (hpl : (backTo pos (starEach es X.env)).any (·.1) = false) (ha : SA X G ms (e :: es)) :
    SE X G (.call f ms) (.Call (.Name (Str.ofString f) p) (e :: es) [] pos) := fun Wx tk => by
  refine PE.imp (pe_callS F hr hg hm hk hb (fun σ => passAt tk σ) (ha Wx tk) hdb he hpl) ?_
  rintro σ H Q ⟨ρ, st, hR, h⟩
  rw [ev] at h
  refine tA.bindE hR h (fun _ _ x => x) fun rs st1 vs H1 ρ1 e0 s1 r1 n1 h => ?_
  obtain ⟨ds, st2, e, h⟩ := wp_of2 (Wp.bind.mp h)
  obtain ⟨ρ2, s2, _, hv⟩ := toDs_sound s1 r1 n1 e
  have hl : ds.length = n := by rw [toDs_length e, evs_length e0, hn]
  refine ⟨ρ2, st2.h, ds, s2.res.hr, hv, hl, ?_⟩
  cases q : G.call f ds st2.h with
  | bad =>
    rw [q] at h
    exact h.elim
  | ok r h' =>
    rw [q] at h
    intro v H' ρ' hs hrc
    obtain ⟨g1, g2⟩ := hrc.er s2.res hs
    refine h v H' ρ' (s2.trans (hs.step s2.res)) g1 fun x p e1 e2 => New.back s2 (g2 x p e1 e2)
  | ex c h' =>
    rw [q] at h
    intro cls H' ρ' hs hc
    exact h cls H' ρ' (s2.trans (hs.step s2.res)) hc
end

/-! ### what is walked -/
/-- the values that a walked thing leans on -/
def Src (K : PySem.W.Frag) (ρ : List Addr) (H : Hp) (st : St) (σ : L2.St) (v : EV) (us : List V) : Prop := match v with
  | .it _ vs => ERl K ρ H st σ vs us
  | v => ∃ u, us = [u] ∧ ER K ρ H st σ v u
/-- it goes through xs, as things stand -/
structure GoesI (K : PySem.W.Frag) (J : It) (xs : List D) (ρ : List Addr) (H : Hp) : Prop where
  go : ∀ i, i < xs.length → J.go i H
  stop : J.stop xs.length H
  yld : ∀ i x H', i < xs.length → J.yld i H x H' → Same H H' ∧ ∃ d, xs[i]? = some d ∧ VR K ρ H' d x
def tI (X : Cx) (f : St → Out EV) (Wx : WX) : TI := fun σ H R => ∃ ρ st, Res X.K ρ H st σ ∧ Wp (f st) (fun v st1 => ∃ xs, items st1 v = some xs ∧ ∀ J H1 ρ1 us, Step X.K ρ H st σ ρ1 H1 st1 σ → Src X.K ρ1 H1 st1 σ v us →
  (∀ ρ' H' st' σ', Res X.K ρ' H' st' σ' → Src X.K ρ' H' st' σ' v us → items st' v = some xs → GoesI X.K J xs ρ' H') → R J H1) (XQ X ρ H st σ Wx)
def SI (X : Cx) (G : Gam) (m : E) (tg e : Expr) : Prop := ∀ Wx, Takes X Wx → PI X tg e (tI X (ev G m) Wx)
theorem PI.imp {X : Cx} {tg e : Expr} {t t' : TI} (h : PI X tg e t) (f : ∀ σ H Q, t' σ H Q → t σ H Q) : PI X tg e t' := ⟨fun pins s σ H Q I q => h.run pins s σ H Q I (f σ H Q q)⟩
theorem PI.or {X : Cx} {tg e : Expr} {t t' : TI} (h : PI X tg e t) (h' : PI X tg e t') : PI X tg e (fun σ H Q => t σ H Q ∨ t' σ H Q) := ⟨fun pins s σ H Q I q => q.elim (h.run pins s σ H Q I) (h'.run pins s σ H Q I)⟩
section
variable {K : PySem.W.Frag} {ρ : List Addr} {H : Hp} {xs : List D} {vs : List V}
theorem goes_list {a : Addr} (h : SqL K H a vs) (r : VRs K ρ H xs vs) : GoesI K (Itl K a) xs ρ H := by
  have hl := r.length
  have w := walk_list (K := K) (a := a) (xs := vs)
  refine ⟨fun i hi => w.goes i H (by omega) h, by rw [← hl]; exact w.stops H h, fun i x H' hi y => ?_⟩
  obtain ⟨e, q⟩ := w.yields i H x H' (by omega) h y
  subst e
  obtain ⟨d, e1, h1⟩ := r.getV q
  exact ⟨Same.refl _, d, e1, h1⟩
theorem goes_tup {a : Addr} (h : SqT K H a vs) (r : VRs K ρ H xs vs) : GoesI K (Itt K a) xs ρ H := by
  have hl := r.length
  have w := walk_tup (K := K) (a := a) (xs := vs)
  refine ⟨fun i hi => w.goes i H (by omega) h, by rw [← hl]; exact w.stops H h, fun i x H' hi y => ?_⟩
  obtain ⟨e, q⟩ := w.yields i H x H' (by omega) h y
  subst e
  obtain ⟨d, e1, h1⟩ := r.getV q
  exact ⟨Same.refl _, d, e1, h1⟩
theorem goes_str {z : Str} : GoesI K (Its z) (strItems z) ρ H := by
  have hl : (strItems z).length = z.cps.size := by simp [strItems]
  have w := walk_str (z := z)
  refine ⟨fun i hi => w.goes i H (by omega) trivial, by rw [hl]; exact w.stops H trivial, fun i x H' hi y => ?_⟩
  obtain ⟨e, c, e1, e2⟩ := w.yields i H x H' (by omega) trivial y
  subst e
  refine ⟨Same.refl _, .str ⟨#[c]⟩, ?_, e2⟩
  unfold strItems
  rw [List.getElem?_map, Array.getElem?_toList, e1]
  rfl
theorem rangeD_length : ∀ (n : Nat) (lo : Int), (rangeD lo n).length = n
  | 0, _ => rfl
  | n + 1, lo => by simp [rangeD, rangeD_length n]
theorem rangeD_get : ∀ (n : Nat) (lo : Int) (i : Nat), i < n → (rangeD lo n)[i]? = some (.int (lo + i))
  | n + 1, lo, 0, _ => by simp [rangeD]
  | n + 1, lo, i + 1, h => by
    have e : lo + 1 + (i : Int) = lo + ((i + 1 : Nat) : Int) := by omega
    simp only [rangeD, List.getElem?_cons_succ]
    rw [rangeD_get n (lo + 1) i (by omega), e]
theorem goes_range {lo : Int} {n : Nat} : GoesI K (Itr lo n) (rangeD lo n) ρ H := by
  have hl := rangeD_length n lo
  have w := walk_range (lo := lo) (n := n)
  refine ⟨fun i hi => w.goes i H (by omega) trivial, by rw [hl]; exact w.stops H trivial, fun i x H' hi y => ?_⟩
  obtain ⟨e, e1⟩ := w.yields i H x H' (by omega) trivial y
  subst e
  exact ⟨Same.refl _, _, rangeD_get n lo i (by omega), e1⟩
end
section
variable {X : Cx} {G : Gam} {Wx : WX} {tg : Expr}
theorem items_plain {st : St} {v : EV} (h : ∀ k vs, v ≠ .it k vs) : items st v = (rd st v).bind seqW := by
  cases v with
  | it k vs => exact (h k vs rfl).elim
  | _ => simp [items]
theorem src_plain {K : PySem.W.Frag} {ρ : List Addr} {H : Hp} {st : St} {σ : L2.St} {v : EV} {us : List V} (h : ∀ k vs, v ≠ .it k vs) : Src K ρ H st σ v us ↔ ∃ u, us = [u] ∧ ER K ρ H st σ v u := by
  cases v with
  | it k vs => exact (h k vs rfl).elim
  | _ => exact Iff.rfl
/-- an object that is walked is a list -/
theorem lst_of {K : PySem.W.Frag} {ρ : List Addr} {H : Hp} {st : St} {σ : L2.St} {v : EV} {xs : List D} {u : V} (hv : ∀ x, v = .d x → ∃ a, x = .ref a) (hR : Res K ρ H st σ) (hr : ER K ρ H st σ v u) (hi : items st v = some xs) :
    ∃ a vs, u = .ref a ∧ H a = some (.lst vs) ∧ VRs K ρ H xs vs := by
  have key : ∀ y, rd st v = some (.o y) → seqW (.o y) = some xs → ∃ a vs, u = .ref a ∧ H a = some (.lst vs) ∧ VRs K ρ H xs vs := fun y e1 e2 => by
    cases y with
    | lst ds =>
      cases e2
      obtain ⟨a, rfl, vs, h1, h2⟩ := rd_sound hR hr e1
      exact ⟨a, vs, rfl, h1, h2⟩
    | dct kvs => cases e2
    | ins c fs => cases e2
  cases v with
  | d x =>
    obtain ⟨a, rfl⟩ := hv x rfl
    simp only [items, rd, rdD] at hi
    cases q : st.h[a]? with
    | none =>
      rw [q] at hi
      cases hi
    | some y =>
      rw [q] at hi
      exact key y (by simp [rd, rdD, q]) hi
  | o x => exact key x rfl (by simpa [items, rd] using hi)
  | pl i =>
    simp only [items, rd] at hi
    cases q : st.σ[i]? with
    | none =>
      rw [q] at hi
      cases hi
    | some s =>
      rw [q] at hi
      cases s with
      | un => cases hi
      | o x => exact key x (by simp [rd, q]) hi
      | d x =>
        cases x with
        | ref a =>
          simp only at hi
          cases q2 : st.h[a]? with
          | none =>
            rw [q2] at hi
            cases hi
          | some y =>
            rw [q2] at hi
            exact key y (by simp [rd, q, q2]) hi
        | _ => cases hi
  | it k vs => exact hr.elim
/-- a list, a tuple, a text -/
theorem si_plain {m : E} {e : Expr} (he : SE X G m e) : SI X G m tg e := fun Wx tk => by
  refine PI.imp (PI.or (PI.or (pi_list (he Wx tk)) (pi_tup (he Wx tk))) (pi_str (he Wx tk))) ?_
  rintro σ H R ⟨ρ, st, hR, h⟩
  -- which of the three is told by Mini
  cases q : ev G m st with
  | bad =>
    rw [q] at h
    exact h.elim
  | ex c st1 =>
    rw [q] at h
    refine .inl (.inl ⟨ρ, st, hR, ?_⟩)
    rw [q]
    exact h
  | ok v st1 =>
    rw [q] at h
    obtain ⟨xs, hx, k⟩ := h
    have lists : (∀ x, v = .d x → ∃ a, x = .ref a) → (∀ kk vs, v ≠ .it kk vs) → tE X (ev G m) Wx σ H (fun x H1 => ∃ a, x = .ref a ∧ (∃ xs, SqL X.K H1 a xs) ∧ R (Itl X.K a) H1) := fun hd hv' => by
      refine ⟨ρ, st, hR, ?_⟩
      rw [q]
      intro u H1 ρ1 s r n
      obtain ⟨a, vs, rfl, h1, h2⟩ := lst_of hd s.res r hx
      refine ⟨a, rfl, ⟨vs, .of h1⟩, k _ H1 ρ1 [_] s ((src_plain hv').mpr ⟨_, rfl, r⟩) fun ρ' H' st' σ' hR' hsrc hi => ?_⟩
      obtain ⟨u', e1, hr'⟩ := (src_plain hv').mp hsrc
      cases e1
      obtain ⟨a', vs', e2, h3, h4⟩ := lst_of hd hR' hr' hi
      cases e2
      exact goes_list (.of h3) h4
    cases v with
    | it kk vs =>
      refine .inl (.inl ⟨ρ, st, hR, ?_⟩)
      rw [q]
      intro u H1 ρ1 s r n
      exact r.elim
    | o x => exact .inl (.inl (lists (fun x e => nomatch e) (fun kk vs e => nomatch e)))
    | pl i => exact .inl (.inl (lists (fun x e => nomatch e) (fun kk vs e => nomatch e)))
    | d x =>
      have hv' : ∀ kk vs, EV.d x ≠ .it kk vs := fun kk vs e => nomatch e
      cases x with
      | ref a => exact .inl (.inl (lists (fun x e => by cases e; exact ⟨a, rfl⟩) hv'))
      | tup ds =>
        refine .inl (.inr ⟨ρ, st, hR, ?_⟩)
        rw [q]
        intro u H1 ρ1 s r n
        have ex : xs = ds := by
          simp [items, rd, rdD, seqW] at hx
          exact hx.symm
        subst ex
        obtain ⟨a, vs, rfl, hsq, hv1⟩ := r
        refine ⟨a, rfl, ⟨vs, hsq⟩, k _ H1 ρ1 [_] s ((src_plain hv').mpr ⟨_, rfl, ⟨a, vs, rfl, hsq, hv1⟩⟩) fun ρ' H' st' σ' hR' hsrc hi => ?_⟩
        obtain ⟨u', e1, hr'⟩ := (src_plain hv').mp hsrc
        cases e1
        obtain ⟨a', vs', e2, h3, h4⟩ := hr'
        cases e2
        exact goes_tup h3 h4
      | fz ds =>
        refine .inl (.inl ⟨ρ, st, hR, ?_⟩)
        rw [q]
        intro u H1 ρ1 s r n
        have ex : xs = ds := by
          simp [items, rd, rdD, seqW] at hx
          exact hx.symm
        subst ex
        obtain ⟨a, vs, rfl, hsq, hv1⟩ := r
        refine ⟨a, rfl, ⟨vs, hsq.sq⟩, k _ H1 ρ1 [_] s ((src_plain hv').mpr ⟨_, rfl, ⟨a, vs, rfl, hsq, hv1⟩⟩) fun ρ' H' st' σ' hR' hsrc hi => ?_⟩
        obtain ⟨u', e1, hr'⟩ := (src_plain hv').mp hsrc
        cases e1
        obtain ⟨a', vs', e2, h3, h4⟩ := hr'
        cases e2
        exact goes_list h3.sq h4
      | str z =>
        refine .inr ⟨ρ, st, hR, ?_⟩
        rw [q]
        intro u H1 ρ1 s r n
        have ex : xs = strItems z := by
          simp [items, rd, rdD, seqW] at hx
          exact hx.symm
        subst ex
        have r' : u = .str z := r
        subst r'
        exact ⟨z, rfl, k _ H1 ρ1 [_] s ((src_plain hv').mpr ⟨_, rfl, rfl⟩) fun ρ' H' st' σ' _ _ _ => goes_str⟩
      | non => simp [items, rd, rdD, seqW] at hx
      | bl b => simp [items, rd, rdD, seqW] at hx
      | int i => simp [items, rd, rdD, seqW] at hx
      | exn c => simp [items, rd, rdD, seqW] at hx

/-! ### range, enumerate, zip, reversed -/
theorem tA_it {ms : List E} {σ : L2.St} {H : Hp} {ρ : List Addr} {st : St} {k : I} {R : List V → Hp → Prop} {P : EV → St → Prop} (hR : Res X.K ρ H st σ) (h : Wp ((evs G ms st).bind fun vs st1 => .ok (.it k vs) st1) P (XQ X ρ H st σ Wx))
    (q : ∀ rs st1 vs H1 ρ1, rs.length = ms.length → Step X.K ρ H st σ ρ1 H1 st1 σ → ERs X.K ρ1 H1 st1 σ rs vs → P (.it k rs) st1 → R vs H1) : tA X (evs G ms) Wx σ H R :=
  tA.bindE hR h (fun _ _ x => x) fun rs st1 vs H1 ρ1 e s r n h => q rs st1 vs H1 ρ1 (evs_length e) s r h
theorem len1 {α : Type} {xs : List α} {y : β} (h : xs.length = [y].length) : ∃ x, xs = [x] := by
  match xs, h with
  | [x], _ => exact ⟨x, rfl⟩
theorem len2 {α β : Type} {xs : List α} {y z : β} (h : xs.length = [y, z].length) : ∃ x x', xs = [x, x'] := by
  match xs, h with
  | [x, x'], _ => exact ⟨x, x', rfl⟩
theorem len3 {α β : Type} {xs : List α} {y z u : β} (h : xs.length = [y, z, u].length) : ∃ x x' x'', xs = [x, x', x''] := by
  match xs, h with
  | [x, x', x''], _ => exact ⟨x, x', x'', rfl⟩
theorem bind_int {o : Option Wv} {i : Int} (h : o.bind intW = some i) : ∃ w, o = some w ∧ intW w = some i := by
  cases o with
  | none => cases h
  | some w => exact ⟨w, rfl, h⟩
theorem seqL_seq {w : Wv} {xs : List D} (h : seqL w = some xs) : seqW w = some xs ∧ ∀ z, w ≠ .d (.str z) := by
  unfold seqL at h
  split at h
  · cases h
  · rename_i hn
    exact ⟨h, hn⟩
theorem bind_seq {o : Option Wv} {xs : List D} (h : o.bind seqL = some xs) : ∃ w, o = some w ∧ seqW w = some xs ∧ ∀ z, w ≠ .d (.str z) := by
  cases o with
  | none => cases h
  | some w => exact ⟨w, rfl, seqL_seq h⟩
theorem si_range1 {a : E} {ea : Expr} {p pos : Pos} (hg : Gl X "range") (hm : X.mg "range" = none) (hs : starEach [ea] X.env = [(false, eval ea X.env)]) (ha : SA X G [a] [ea]) : SI X G (.it .range [a]) tg (.Call (.Name "range" p) [ea] [] pos) := fun Wx tk => by
  refine PI.imp (pi_range1 hg hm (ha Wx tk) hs) ?_
  rintro σ H R ⟨ρ, st, hR, h⟩
  rw [ev] at h
  refine tA_it hR h fun rs st1 vs H1 ρ1 hlen s r h => ?_
  obtain ⟨xs, hx, k⟩ := h
  obtain ⟨v, rfl⟩ := len1 hlen
  obtain ⟨u, rfl, hu⟩ := r.erl.one
  simp only [items] at hx
  split at hx
  · rename_i n e1
    split at hx
    · rename_i hc
      cases hx
      obtain ⟨w, e2, e3⟩ := bind_int e1
      have eu := intW_of (rd_sound s.res hu e2) e3
      subst eu
      have hl : (lim : Int) = 1000000 := rfl
      exact ⟨n, rfl, by omega, by omega, k _ H1 ρ1 [_] s ⟨_, _, rfl, hu, rfl⟩ fun _ _ _ _ _ _ _ => goes_range⟩
    · cases hx
  · cases hx
theorem si_range2 {a b : E} {ea eb : Expr} {p pos : Pos} (hg : Gl X "range") (hm : X.mg "range" = none) (hs : starEach [ea, eb] X.env = [(false, eval ea X.env), (false, eval eb X.env)]) (hs2 : starEach [eb] X.env = [(false, eval eb X.env)]) (ha : SA X G [a, b] [ea, eb]) :
    SI X G (.it .range [a, b]) tg (.Call (.Name "range" p) [ea, eb] [] pos) := fun Wx tk => by
  refine PI.imp (pi_range2 hg hm (ha Wx tk) hs hs2) ?_
  rintro σ H R ⟨ρ, st, hR, h⟩
  rw [ev] at h
  refine tA_it hR h fun rs st1 vs H1 ρ1 hlen s r h => ?_
  obtain ⟨xs, hx, k⟩ := h
  obtain ⟨v, v', rfl⟩ := len2 hlen
  obtain ⟨u, u', rfl, hu, hu'⟩ := r.erl.two
  simp only [items] at hx
  split at hx
  · rename_i lo hi e1 e1'
    split at hx
    · rename_i hc
      cases hx
      obtain ⟨w, e2, e3⟩ := bind_int e1
      obtain ⟨w', e2', e3'⟩ := bind_int e1'
      have eu := intW_of (rd_sound s.res hu e2) e3
      have eu' := intW_of (rd_sound s.res hu' e2') e3'
      subst eu eu'
      exact ⟨lo, hi, rfl, by omega, k _ H1 ρ1 [_, _] s ⟨_, _, rfl, hu, _, _, rfl, hu', rfl⟩ fun _ _ _ _ _ _ _ => goes_range⟩
    · cases hx
  · cases hx
theorem rangeC_length : ∀ (n : Nat) (lo c : Int), (rangeC lo c n).length = n
  | 0, _, _ => rfl
  | n + 1, lo, c => by simp [rangeC, rangeC_length n]
theorem rangeC_get : ∀ (n : Nat) (lo c : Int) (i : Nat), i < n → (rangeC lo c n)[i]? = some (.int (lo + i * c))
  | n + 1, lo, c, 0, _ => by simp [rangeC]
  | n + 1, lo, c, i + 1, h => by
    have e : lo + c + (i : Int) * c = lo + ((i + 1 : Nat) : Int) * c := by
      push_cast
      rw [Int.add_mul]
      omega
    simp only [rangeC, List.getElem?_cons_succ]
    rw [rangeC_get n (lo + c) c i (by omega), e]
theorem goes_rangeC {K : PySem.W.Frag} {ρ : List Addr} {H : Hp} {lo c : Int} {n : Nat} : GoesI K (Itc lo c n) (rangeC lo c n) ρ H := by
  have hl := rangeC_length n lo c
  have w := walk_rangeC (lo := lo) (c := c) (n := n)
  refine ⟨fun i hi => w.goes i H (by omega) trivial, by rw [hl]; exact w.stops H trivial, fun i x H' hi y => ?_⟩
  obtain ⟨e, e1⟩ := w.yields i H x H' (by omega) trivial y
  subst e
  exact ⟨Same.refl _, _, rangeC_get n lo c i (by omega), e1⟩
theorem si_range3 {a b c : E} {ea eb ec : Expr} {p pos : Pos} (hg : Gl X "range") (hm : X.mg "range" = none) (hs : starEach [ea, eb, ec] X.env = (false, eval ea X.env) :: starEach [eb, ec] X.env) (hpl : (backTo pos (starEach [eb, ec] X.env)).any (·.1) = false) (ha : SA X G [a, b, c] [ea, eb, ec]) :
    SI X G (.it .range [a, b, c]) tg (.Call (.Name "range" p) [ea, eb, ec] [] pos) := fun Wx tk => by
  refine PI.imp (pi_range3 hg hm (ha Wx tk) hs hpl) ?_
  rintro σ H R ⟨ρ, st, hR, h⟩
  rw [ev] at h
  refine tA_it hR h fun rs st1 vs H1 ρ1 hlen s r h => ?_
  obtain ⟨xs, hx, k⟩ := h
  obtain ⟨v, v', v'', rfl⟩ := len3 hlen
  obtain ⟨u, t, rfl, hu, h2⟩ := r.erl
  obtain ⟨u', u'', rfl, hu', hu''⟩ := h2.two
  simp only [items] at hx
  split at hx
  · rename_i lo hi c e1 e1' e1''
    split at hx
    · rename_i hc
      cases hx
      obtain ⟨w, e2, e3⟩ := bind_int e1
      obtain ⟨w', e2', e3'⟩ := bind_int e1'
      obtain ⟨w'', e2'', e3''⟩ := bind_int e1''
      have eu := intW_of (rd_sound s.res hu e2) e3
      have eu' := intW_of (rd_sound s.res hu' e2') e3'
      have eu'' := intW_of (rd_sound s.res hu'' e2'') e3''
      subst eu eu' eu''
      have hc1 : c = -1 := hc.1
      subst hc1
      exact ⟨lo, hi, -1, (lo - hi).toNat, rfl, RgC.neg (by omega) (by omega) (by omega) (by omega), k _ H1 ρ1 [_, _, _] s ⟨_, _, rfl, hu, _, _, rfl, hu', _, _, rfl, hu'', rfl⟩ fun _ _ _ _ _ _ _ => goes_rangeC⟩
    · cases hx
  · cases hx

/-- a list or a tuple that is read -/
theorem WR.sq {K : PySem.W.Frag} {ρ : List Addr} {H : Hp} {w : Wv} {v : V} {ds : List D} (h : WR K ρ H w v) (e : seqW w = some ds) (hz : ∀ z, w ≠ .d (.str z)) : ∃ a vs, v = .ref a ∧ VRs K ρ H ds vs ∧ ((SqL K H a vs ∧ (∀ es, w ≠ .d (.tup es))) ∨ (SqT K H a vs ∧ ∃ es, w = .d (.tup es))) := by
  cases w with
  | d x =>
    cases x with
    | tup es =>
      cases e
      obtain ⟨⟨a, vs, rfl, hs, hv⟩, _⟩ := h
      exact ⟨a, vs, rfl, hv, .inr ⟨hs, _, rfl⟩⟩
    | fz es =>
      cases e
      obtain ⟨⟨a, vs, rfl, hs, hv⟩, _⟩ := h
      exact ⟨a, vs, rfl, hv, .inl ⟨hs.sq, fun es z => nomatch z⟩⟩
    | str x => exact (hz x rfl).elim
    | _ => cases e
  | o x =>
    cases x with
    | lst es =>
      cases e
      obtain ⟨a, rfl, vs, hp, hv⟩ := h
      exact ⟨a, vs, rfl, hv, .inl ⟨.of hp, fun es z => nomatch z⟩⟩
    | dct kvs => cases e
    | ins c fs => cases e
/-- whether a place is a tuple does not change -/
theorem rd_kind {st st' : St} {v : EV} {w w' : Wv} (e : rd st v = some w) (e' : rd st' v = some w') : (∃ es, w = .d (.tup es)) ↔ ∃ es, w' = .d (.tup es) := by
  cases v with
  | d x =>
    cases x with
    | ref a =>
      simp only [rd, rdD, Option.map_eq_some_iff] at e e'
      obtain ⟨y, _, rfl⟩ := e
      obtain ⟨y', _, rfl⟩ := e'
      simp
    | _ =>
      simp only [rd, rdD, Option.some.injEq] at e e'
      rw [← e, ← e']
  | o x =>
    simp only [rd, Option.some.injEq] at e e'
    rw [← e, ← e']
  | pl i =>
    have key : ∀ {s : St} {z : Wv}, rd s (.pl i) = some z → ∃ y, z = .o y := fun {s z} q => by
      simp only [rd] at q
      split at q
      · cases q
        exact ⟨_, rfl⟩
      · simp only [Option.map_eq_some_iff] at q
        obtain ⟨y, _, rfl⟩ := q
        exact ⟨y, rfl⟩
      · cases q
    obtain ⟨y, rfl⟩ := key e
    obtain ⟨y', rfl⟩ := key e'
    simp
  | it k vs => cases e
theorem enumD_length : ∀ (ds : List D) (n : Nat), (enumD n ds).length = ds.length
  | [], _ => rfl
  | d :: ds, n => by simp [enumD, enumD_length ds]
theorem enumD_get : ∀ (ds : List D) (n i : Nat) (d : D), ds[i]? = some d → (enumD n ds)[i]? = some (.tup [.int ((n + i : Nat) : Int), d])
  | [], n, i, d, h => by simp at h
  | x :: ds, n, 0, d, h => by
    simp at h
    subst h
    simp [enumD]
  | x :: ds, n, i + 1, d, h => by
    have e : n + 1 + i = n + (i + 1) := by omega
    simp only [enumD, List.getElem?_cons_succ]
    rw [enumD_get ds (n + 1) i d (by simpa using h), e]
theorem goes_enum {K : PySem.W.Frag} {ρ : List Addr} {H : Hp} {a : Addr} {ds : List D} {vs : List V} (h : SqL K H a vs) (r : VRs K ρ H ds vs) : GoesI K (Ite K a) (enumD 0 ds) ρ H := by
  have hl := r.length
  have hl2 := enumD_length ds 0
  refine ⟨fun i hi => ⟨vs, vs[i]'(by omega), h, by simp [show i < vs.length by omega]⟩, ⟨vs, h, by omega⟩, fun i x H' hi y => ?_⟩
  obtain ⟨T, z, rfl, hT, rfl, q⟩ := y
  obtain ⟨d, e1, h1⟩ := r.getV (q vs h)
  refine ⟨same_new hT, _, enumD_get ds 0 i d e1, T, _, rfl, .of upd_same, .cons ?_ (.cons (h1.mono (Pers.same (same_new hT)) (List.prefix_refl _) d z) .nil)⟩
  show V.int _ = V.int _
  rw [Nat.zero_add]
theorem goes_enumT {K : PySem.W.Frag} {ρ : List Addr} {H : Hp} {a : Addr} {ds : List D} {vs : List V} (h : SqT K H a vs) (r : VRs K ρ H ds vs) : GoesI K (IteT K a) (enumD 0 ds) ρ H := by
  have hl := r.length
  have hl2 := enumD_length ds 0
  refine ⟨fun i hi => ⟨vs, vs[i]'(by omega), h, by simp [show i < vs.length by omega]⟩, ⟨vs, h, by omega⟩, fun i x H' hi y => ?_⟩
  obtain ⟨T, z, rfl, hT, rfl, q⟩ := y
  obtain ⟨d, e1, h1⟩ := r.getV (q vs h)
  refine ⟨same_new hT, _, enumD_get ds 0 i d e1, T, _, rfl, .of upd_same, .cons ?_ (.cons (h1.mono (Pers.same (same_new hT)) (List.prefix_refl _) d z) .nil)⟩
  show V.int _ = V.int _
  rw [Nat.zero_add]
theorem isTup_no {w : Wv} (h : ∀ es, w ≠ .d (.tup es)) : w.isTup = false := by
  cases w with
  | d x =>
    cases x with
    | tup es => exact (h es rfl).elim
    | _ => rfl
  | o x => rfl
/-- a walked place, now and later -/
theorem later_sq {K : PySem.W.Frag} {ρ ρ' : List Addr} {H H' : Hp} {st st' : St} {σ σ' : L2.St} {v : EV} {u : V} {ds : List D} (hR : Res K ρ H st σ) (hu : ER K ρ H st σ v u) (e : (rd st v).bind seqL = some ds) :
    ∃ a vs, u = .ref a ∧ VRs K ρ H ds vs ∧ ((SqL K H a vs ∧ (rd st v).map Wv.isTup = some false ∧ ∀ {ρ' H' st' σ' ds'}, Res K ρ' H' st' σ' → ER K ρ' H' st' σ' v u → (rd st' v).bind seqL = some ds' → ∃ vs', SqL K H' a vs' ∧ VRs K ρ' H' ds' vs') ∨
      (SqT K H a vs ∧ (rd st v).map Wv.isTup = some true ∧ ∀ {ρ' H' st' σ' ds'}, Res K ρ' H' st' σ' → ER K ρ' H' st' σ' v u → (rd st' v).bind seqL = some ds' → ∃ vs', SqT K H' a vs' ∧ VRs K ρ' H' ds' vs')) := by
  obtain ⟨w, e2, e3, e4⟩ := bind_seq e
  obtain ⟨a, vs, rfl, hv, hh⟩ := (rd_sound hR hu e2).sq e3 e4
  rcases hh with ⟨hq, hn⟩ | ⟨hq, hn⟩
  · refine ⟨a, vs, rfl, hv, .inl ⟨hq, by rw [e2]; exact congrArg some (isTup_no hn), fun {ρ' H' st' σ' ds'} hR' hu' f => ?_⟩⟩
    obtain ⟨w', f2, f3, f4⟩ := bind_seq f
    obtain ⟨a', vs', e', hv', hh'⟩ := (rd_sound hR' hu' f2).sq f3 f4
    cases e'
    rcases hh' with ⟨g1, g2⟩ | ⟨g1, g2⟩
    · exact ⟨vs', g1, hv'⟩
    · obtain ⟨es, z⟩ := (rd_kind e2 f2).mpr g2
      exact (hn es z).elim
  · refine ⟨a, vs, rfl, hv, .inr ⟨hq, by rw [e2]; obtain ⟨es, z⟩ := hn; rw [z]; rfl, fun {ρ' H' st' σ' ds'} hR' hu' f => ?_⟩⟩
    obtain ⟨w', f2, f3, f4⟩ := bind_seq f
    obtain ⟨a', vs', e', hv', hh'⟩ := (rd_sound hR' hu' f2).sq f3 f4
    cases e'
    rcases hh' with ⟨g1, g2⟩ | ⟨g1, g2⟩
    · obtain ⟨es, z⟩ := (rd_kind e2 f2).mp hn
      exact (g2 es z).elim
    · exact ⟨vs', g1, hv'⟩
theorem si_enum {a : E} {ea : Expr} {p pos tpos : Pos} {elts : List Expr} {kk : Nat} (hg : Gl X "enumerate") (hm : X.mg "enumerate" = none) (hs : starEach [ea] X.env = [(false, eval ea X.env)]) (ha : SA X G [a] [ea]) :
    SI X G (.it .enumerate [a]) (.Tuple elts kk tpos) (.Call (.Name "enumerate" p) [ea] [] pos) := fun Wx tk => by
  refine PI.imp (pi_enumA hg hm (ha Wx tk) hs) ?_
  rintro σ H R ⟨ρ, st, hR, h⟩
  rw [ev] at h
  refine tA_it hR h fun rs st1 vs H1 ρ1 hlen s r h => ?_
  obtain ⟨xs, hx, k⟩ := h
  obtain ⟨v, rfl⟩ := len1 hlen
  obtain ⟨u, rfl, hu⟩ := r.erl.one
  simp only [items, Option.map_eq_some_iff] at hx
  obtain ⟨ds, e1, rfl⟩ := hx
  obtain ⟨a', vs, rfl, hv, hh⟩ := later_sq (ρ' := ρ1) (H' := H1) (st' := st1) (σ' := σ) s.res hu e1
  rcases hh with ⟨hq, _, later⟩ | ⟨hq, _, later⟩
  · refine ⟨a', vs, rfl, .inl ⟨hq, k _ H1 ρ1 [_] s ⟨_, _, rfl, hu, rfl⟩ fun ρ' H' st' σ' hR' hsrc hi => ?_⟩⟩
    obtain ⟨u', e5, hu'⟩ := ERl.one hsrc
    cases e5
    simp only [items, Option.map_eq_some_iff] at hi
    obtain ⟨ds', f1, f2⟩ := hi
    obtain ⟨vs', g1, g2⟩ := later hR' hu' f1
    rw [← f2]
    exact goes_enum g1 g2
  · refine ⟨a', vs, rfl, .inr ⟨hq, k _ H1 ρ1 [_] s ⟨_, _, rfl, hu, rfl⟩ fun ρ' H' st' σ' hR' hsrc hi => ?_⟩⟩
    obtain ⟨u', e5, hu'⟩ := ERl.one hsrc
    cases e5
    simp only [items, Option.map_eq_some_iff] at hi
    obtain ⟨ds', f1, f2⟩ := hi
    obtain ⟨vs', g1, g2⟩ := later hR' hu' f1
    rw [← f2]
    exact goes_enumT g1 g2
/-! zip -/
theorem zip_get {α β γ : Type} (f : α → β → γ) : ∀ (xs : List α) (ys : List β) (i : Nat) (x : α) (y : β), xs[i]? = some x → ys[i]? = some y → (List.zipWith f xs ys)[i]? = some (f x y)
  | [], ys, i, x, y, h, _ => by simp at h
  | a :: xs, [], i, x, y, _, h => by simp at h
  | a :: xs, b :: ys, 0, x, y, h, g => by
    simp at h g
    subst h g
    rfl
  | a :: xs, b :: ys, i + 1, x, y, h, g => by
    simp only [List.zipWith_cons_cons, List.getElem?_cons_succ]
    exact zip_get f xs ys i x y (by simpa using h) (by simpa using g)
theorem goes_zip {K : PySem.W.Frag} {ρ : List Addr} {H : Hp} {a b : Addr} {ds es : List D} {vs ws : List V} (h : SqL K H a vs) (h' : SqL K H b ws) (r : VRs K ρ H ds vs) (r' : VRs K ρ H es ws) :
    GoesI K (Itz K a b) (List.zipWith (fun x y => .tup [x, y]) ds es) ρ H := by
  have hl := r.length
  have hl' := r'.length
  have hz : (List.zipWith (fun x y => D.tup [x, y]) ds es).length = min ds.length es.length := by simp
  refine ⟨fun i hi => ⟨vs, ws, vs[i]'(by omega), ws[i]'(by omega), h, h', by simp [show i < vs.length by omega], by simp [show i < ws.length by omega]⟩, ⟨vs, ws, h, h', by omega⟩, fun i x H' hi y => ?_⟩
  obtain ⟨T, z, z', rfl, hT, rfl, q, q'⟩ := y
  obtain ⟨d, e1, h1⟩ := r.getV (q vs h)
  obtain ⟨d', e1', h1'⟩ := r'.getV (q' ws h')
  have ps := Pers.same (same_new (o := .tup [z, z']) hT)
  exact ⟨same_new hT, _, zip_get _ ds es i d d' e1 e1', T, _, rfl, .of upd_same, .cons (h1.mono ps (List.prefix_refl _) d z) (.cons (h1'.mono ps (List.prefix_refl _) d' z') .nil)⟩
theorem goes_zipT {K : PySem.W.Frag} {ρ : List Addr} {H : Hp} {a b : Addr} {ds es : List D} {vs ws : List V} (h : SqT K H a vs) (h' : SqT K H b ws) (r : VRs K ρ H ds vs) (r' : VRs K ρ H es ws) :
    GoesI K (ItzT K a b) (List.zipWith (fun x y => .tup [x, y]) ds es) ρ H := by
  have hl := r.length
  have hl' := r'.length
  have hz : (List.zipWith (fun x y => D.tup [x, y]) ds es).length = min ds.length es.length := by simp
  refine ⟨fun i hi => ⟨vs, ws, vs[i]'(by omega), ws[i]'(by omega), h, h', by simp [show i < vs.length by omega], by simp [show i < ws.length by omega]⟩, ⟨vs, ws, h, h', by omega⟩, fun i x H' hi y => ?_⟩
  obtain ⟨T, z, z', rfl, hT, rfl, q, q'⟩ := y
  obtain ⟨d, e1, h1⟩ := r.getV (q vs h)
  obtain ⟨d', e1', h1'⟩ := r'.getV (q' ws h')
  have ps := Pers.same (same_new (o := .tup [z, z']) hT)
  exact ⟨same_new hT, _, zip_get _ ds es i d d' e1 e1', T, _, rfl, .of upd_same, .cons (h1.mono ps (List.prefix_refl _) d z) (.cons (h1'.mono ps (List.prefix_refl _) d' z') .nil)⟩
theorem si_zip {a b : E} {ea eb : Expr} {p pos tpos : Pos} {elts : List Expr} {kk : Nat} (hg : Gl X "zip") (hm : X.mg "zip" = none) (hs : starEach [ea, eb] X.env = (false, eval ea X.env) :: starEach [eb] X.env) (hpl : (backTo pos (starEach [eb] X.env)).any (·.1) = false) (ha : SA X G [a, b] [ea, eb]) :
    SI X G (.it .zip [a, b]) (.Tuple elts kk tpos) (.Call (.Name "zip" p) [ea, eb] [] pos) := fun Wx tk => by
  refine PI.imp (pi_zipA hg hm (ha Wx tk) hs hpl) ?_
  rintro σ H R ⟨ρ, st, hR, h⟩
  rw [ev] at h
  refine tA_it hR h fun rs st1 vs H1 ρ1 hlen s r h => ?_
  obtain ⟨xs, hx, k⟩ := h
  obtain ⟨v, v', rfl⟩ := len2 hlen
  obtain ⟨u, u', rfl, hu, hu'⟩ := r.erl.two
  have key : ∀ {st' : St} {zs : List D}, items st' (.it .zip [v, v']) = some zs → ∃ ds es, (rd st' v).bind seqL = some ds ∧ (rd st' v').bind seqL = some es ∧ zs = List.zipWith (fun x y => .tup [x, y]) ds es := fun {st' zs} q => by
    simp only [items] at q
    split at q
    · rename_i ds es e1 e2
      split at q
      · cases q
        exact ⟨ds, es, e1, e2, rfl⟩
      · cases q
    · cases q
  have same : ((rd st1 v).map Wv.isTup == (rd st1 v').map Wv.isTup) = true := by
    simp only [items] at hx
    split at hx
    · split at hx
      · rename_i hc
        exact hc
      · cases hx
    · cases hx
  obtain ⟨ds, es, e1, e2, rfl⟩ := key hx
  obtain ⟨a1, vs, rfl, hv, hh⟩ := later_sq (ρ' := ρ1) (H' := H1) (st' := st1) (σ' := σ) s.res hu e1
  obtain ⟨b1, ws, rfl, hv', hh'⟩ := later_sq (ρ' := ρ1) (H' := H1) (st' := st1) (σ' := σ) s.res hu' e2
  rcases hh with ⟨hq, t1, l1⟩ | ⟨hq, t1, l1⟩
  · rcases hh' with ⟨hq', t2, l2⟩ | ⟨hq', t2, l2⟩
    · refine ⟨a1, b1, vs, ws, rfl, .inl ⟨hq, hq', k _ H1 ρ1 [_, _] s ⟨_, _, rfl, hu, _, _, rfl, hu', rfl⟩ fun ρ' H' st' σ' hR' hsrc hi => ?_⟩⟩
      obtain ⟨u1, u2, e5, g1, g2⟩ := ERl.two hsrc
      cases e5
      obtain ⟨ds', es', f1, f2, f3⟩ := key hi
      obtain ⟨vs', m1, m2⟩ := l1 hR' g1 f1
      obtain ⟨ws', m3, m4⟩ := l2 hR' g2 f2
      rw [f3]
      exact goes_zip m1 m3 m2 m4
    · rw [t1, t2] at same
      cases same
  · rcases hh' with ⟨hq', t2, l2⟩ | ⟨hq', t2, l2⟩
    · rw [t1, t2] at same
      cases same
    · refine ⟨a1, b1, vs, ws, rfl, .inr ⟨hq, hq', k _ H1 ρ1 [_, _] s ⟨_, _, rfl, hu, _, _, rfl, hu', rfl⟩ fun ρ' H' st' σ' hR' hsrc hi => ?_⟩⟩
      obtain ⟨u1, u2, e5, g1, g2⟩ := ERl.two hsrc
      cases e5
      obtain ⟨ds', es', f1, f2, f3⟩ := key hi
      obtain ⟨vs', m1, m2⟩ := l1 hR' g1 f1
      obtain ⟨ws', m3, m4⟩ := l2 hR' g2 f2
      rw [f3]
      exact goes_zipT m1 m3 m2 m4
/-! reversed -/
theorem rev_get {α : Type} {xs : List α} {i : Nat} {x : α} (hi : i < xs.length) (h : xs[xs.length - 1 - i]? = some x) : xs.reverse[i]? = some x := by
  rw [List.getElem?_reverse hi]
  exact h
theorem goes_rev {K : PySem.W.Frag} {ρ : List Addr} {H : Hp} {a : Addr} {ds : List D} {vs : List V} (h : SqL K H a vs) (r : VRs K ρ H ds vs) : GoesI K (Itv K a ds.length) ds.reverse ρ H := by
  have hl := r.length
  have w := walk_rev (K := K) (a := a) (xs := vs)
  rw [hl] at w
  refine ⟨fun i hi => w.goes i H (by simpa using hi) h, by simpa using w.stops H h, fun i x H' hi y => ?_⟩
  have hi' : i < ds.length := by simpa using hi
  obtain ⟨e, q⟩ := w.yields i H x H' hi' h y
  subst e
  obtain ⟨d, e1, h1⟩ := r.getV q
  exact ⟨Same.refl _, d, rev_get hi' e1, h1⟩
theorem goes_revT {K : PySem.W.Frag} {ρ : List Addr} {H : Hp} {a : Addr} {ds : List D} {vs : List V} (h : SqT K H a vs) (r : VRs K ρ H ds vs) : GoesI K (ItvT K a ds.length) ds.reverse ρ H := by
  have hl := r.length
  refine ⟨fun i hi => ?_, ?_, fun i x H' hi y => ?_⟩
  · have hi' : i < ds.length := by simpa using hi
    exact ⟨hi', vs, vs[ds.length - 1 - i]'(by omega), h, by simp [show ds.length - 1 - i < vs.length by omega]⟩
  · show ds.length ≤ ds.reverse.length
    simp
  · have hi' : i < ds.length := by simpa using hi
    obtain ⟨e, q⟩ := y
    subst e
    obtain ⟨d, e1, h1⟩ := r.getV (q vs h)
    exact ⟨Same.refl _, d, rev_get hi' e1, h1⟩
theorem si_rev {a : E} {ea : Expr} {p pos : Pos} (hg : Gl X "reversed") (hm : X.mg "reversed" = none) (hs : starEach [ea] X.env = (false, eval ea X.env) :: starEach [] X.env) (ha : SE X G a ea) : SI X G (.it .reversed [a]) tg (.Call (.Name "reversed" p) [ea] [] pos) := fun Wx tk => by
  refine PI.imp (pi_revA hg hm (ha Wx tk) hs) ?_
  rintro σ H R ⟨ρ, st, hR, h⟩
  rw [ev] at h
  simp only [evs] at h
  have h := Wp.bind.mp h
  refine tE.bind hR h (fun _ _ x => x) fun v st1 u H1 ρ1 s hu n h => ?_
  simp only [Out.bind_ok] at h
  obtain ⟨xs, hx, k⟩ := h
  have key : ∀ {st' : St} {zs : List D}, items st' (.it .reversed [v]) = some zs → ∃ ds, (rd st' v).bind seqL = some ds ∧ zs = ds.reverse := fun {st' zs} q => by
    simp only [items] at q
    split at q
    · rename_i ds e1
      cases q
      exact ⟨ds, by rw [e1]; rfl, rfl⟩
    · rename_i ds e1
      cases q
      exact ⟨ds, by rw [e1]; rfl, rfl⟩
    · cases q
  obtain ⟨ds, e1, rfl⟩ := key hx
  obtain ⟨a', vs, rfl, hv, hh⟩ := later_sq (ρ' := ρ1) (H' := H1) (st' := st1) (σ' := σ) s.res hu e1
  have hl := hv.length
  rcases hh with ⟨hq, _, later⟩ | ⟨hq, _, later⟩
  · refine ⟨a', vs, rfl, .inl ⟨hq, k _ H1 ρ1 [_] s ⟨_, _, rfl, hu, rfl⟩ fun ρ' H' st' σ' hR' hsrc hi => ?_⟩⟩
    obtain ⟨u', e5, hu'⟩ := ERl.one hsrc
    cases e5
    obtain ⟨ds', f1, f2⟩ := key hi
    obtain ⟨vs', g1, g2⟩ := later hR' hu' f1
    have e6 := List.reverse_inj.mp f2
    subst e6
    rw [hl]
    exact goes_rev g1 g2
  · refine ⟨a', vs, rfl, .inr ⟨hq, k _ H1 ρ1 [_] s ⟨_, _, rfl, hu, rfl⟩ fun ρ' H' st' σ' hR' hsrc hi => ?_⟩⟩
    obtain ⟨u', e5, hu'⟩ := ERl.one hsrc
    cases e5
    obtain ⟨ds', f1, f2⟩ := key hi
    obtain ⟨vs', g1, g2⟩ := later hR' hu' f1
    have e6 := List.reverse_inj.mp f2
    subst e6
    rw [hl]
    exact goes_revT g1 g2
end
end EW

-- part: Sound8
set_option maxHeartbeats 1000000
/-! targets -/
namespace EW
open PySem PySem.Spec PyProof.Rows L2
mutual
def gTg (K : PySem.W.Frag) : Tg → TG
  | .v i => gName i
  | .tup ts => gTup K ts.length (gTgs K ts)
def gTgs (K : PySem.W.Frag) : List Tg → TGs
  | [] => gNil
  | t :: ts => gCons (gTg K t) (gTgs K ts)
end
section
variable {K : PySem.W.Frag} {ρ ρ' : List Addr} {H H' : Hp} {st st' : St} {σ : L2.St}
theorem Res.setD {i : Nat} {d : D} {v : V} (hR : Res K ρ H st σ) (hv : VR K ρ H d v) : Res K ρ H (st.set i (.d d)) (σ.set i (some v)) ∧ ∀ a, Dom (st.set i (.d d)) (σ.set i (some v)) ρ a → Dom st σ ρ a := by
  have old : ∀ {j : Nat} {x : O}, (st.set i (.d d)).σ[j]? = some (.o x) → j ≠ i ∧ st.σ[j]? = some (.o x) := fun {j x} h => by
    by_cases hj : j = i
    · subst hj
      by_cases hl : j < st.σ.length
      · simp [St.set, List.getElem?_set_self hl] at h
      · have e : (st.σ.set j (Sl.d d))[j]? = none := List.getElem?_eq_none (by simpa using hl)
        simp only [St.set] at h
        rw [e] at h
        cases h
    · simp only [St.set] at h
      rw [List.getElem?_set_ne (Ne.symm hj)] at h
      exact ⟨hj, h⟩
  refine ⟨⟨hR.hr, by simp [St.set, hR.len], fun j s h => ?_, fun j k x y p hjk h1 h2 h3 h4 => ?_⟩, fun a h => ?_⟩
  · by_cases hj : j = i
    · subst hj
      by_cases hl : j < st.σ.length
      · simp only [St.set] at h
        rw [List.getElem?_set_self hl] at h
        cases h
        exact ⟨v, by rw [List.getElem?_set_self (by rw [hR.len]; exact hl)], hv⟩
      · have e : (st.σ.set j (Sl.d d))[j]? = none := List.getElem?_eq_none (by simpa using hl)
        simp only [St.set] at h
        rw [e] at h
        cases h
    · simp only [St.set] at h
      rw [List.getElem?_set_ne (Ne.symm hj)] at h
      have z := hR.sl j s h
      have e : (σ.set i (some v))[j]? = σ[j]? := List.getElem?_set_ne (Ne.symm hj)
      cases s with
      | un => trivial
      | d x =>
        obtain ⟨w, e1, h1⟩ := z
        exact ⟨w, by rw [e]; exact e1, h1⟩
      | o x =>
        obtain ⟨p, e1, h1, n⟩ := z
        exact ⟨p, by rw [e]; exact e1, h1, n⟩
  · obtain ⟨g1, g2⟩ := old h1
    obtain ⟨g3, g4⟩ := old h2
    rw [List.getElem?_set_ne (Ne.symm g1)] at h3
    rw [List.getElem?_set_ne (Ne.symm g3)] at h4
    exact hR.sep j k x y p hjk g2 g4 h3 h4
  · rcases h with h | ⟨j, x, h1, h2⟩
    · exact .inl h
    · obtain ⟨g1, g2⟩ := old h1
      rw [List.getElem?_set_ne (Ne.symm g1)] at h2
      exact .inr ⟨j, x, g2, h2⟩
/-- a new own object -/
theorem Res.setO {i : Nat} {x : O} {p : Addr} (hR : Res K ρ H st σ) (hx : OR K ρ H p x) (hn : ¬ Dom st σ ρ p) : Res K ρ H (st.set i (.o x)) (σ.set i (some (.ref p))) ∧ ∀ a, Dom (st.set i (.o x)) (σ.set i (some (.ref p))) ρ a → Dom st σ ρ a ∨ a = p := by
  have old : ∀ {j : Nat} {y : O}, j ≠ i → (st.set i (.o x)).σ[j]? = some (.o y) → st.σ[j]? = some (.o y) := fun {j y} hj h => by
    simp only [St.set] at h
    rw [List.getElem?_set_ne (Ne.symm hj)] at h
    exact h
  have at_ : ∀ {j : Nat} {y : O} {q : Addr}, j = i → (st.set i (.o x)).σ[j]? = some (.o y) → (σ.set i (some (V.ref p)))[j]? = some (some (.ref q)) → q = p := fun {j y q} hj h h2 => by
    subst hj
    by_cases hl : j < σ.length
    · rw [List.getElem?_set_self hl] at h2
      cases h2
      rfl
    · have e : (σ.set j (some (V.ref p)))[j]? = none := List.getElem?_eq_none (by simpa using hl)
      rw [e] at h2
      cases h2
  refine ⟨⟨hR.hr, by simp [St.set, hR.len], fun j s h => ?_, fun j k y z q hjk h1 h2 h3 h4 => ?_⟩, fun a h => ?_⟩
  · by_cases hj : j = i
    · subst hj
      by_cases hl : j < st.σ.length
      · simp only [St.set] at h
        rw [List.getElem?_set_self hl] at h
        cases h
        exact ⟨p, by rw [List.getElem?_set_self (by rw [hR.len]; exact hl)], hx, fun z => hn (.inl z)⟩
      · have e : (st.σ.set j (Sl.o x))[j]? = none := List.getElem?_eq_none (by simpa using hl)
        simp only [St.set] at h
        rw [e] at h
        cases h
    · simp only [St.set] at h
      rw [List.getElem?_set_ne (Ne.symm hj)] at h
      have z := hR.sl j s h
      have e : (σ.set i (some (V.ref p)))[j]? = σ[j]? := List.getElem?_set_ne (Ne.symm hj)
      cases s with
      | un => trivial
      | d x =>
        obtain ⟨w, e1, h1⟩ := z
        exact ⟨w, by rw [e]; exact e1, h1⟩
      | o x =>
        obtain ⟨p', e1, h1, n⟩ := z
        exact ⟨p', by rw [e]; exact e1, h1, n⟩
  · have one : ∀ {j : Nat} {y : O}, j ≠ i → (st.set i (.o x)).σ[j]? = some (.o y) → (σ.set i (some (V.ref p)))[j]? = some (some (.ref p)) → False := fun {j y} hj g1 g2 => by
      rw [List.getElem?_set_ne (Ne.symm hj)] at g2
      exact hn (.inr ⟨j, y, old hj g1, g2⟩)
    by_cases hj : j = i
    · have e := at_ hj h1 h3
      subst e
      exact one (fun z => hjk (hj.trans z.symm)) h2 h4
    · by_cases hk : k = i
      · have e := at_ hk h2 h4
        subst e
        exact one hj h1 h3
      · rw [List.getElem?_set_ne (Ne.symm hj)] at h3
        rw [List.getElem?_set_ne (Ne.symm hk)] at h4
        exact hR.sep j k y z q hjk (old hj h1) (old hk h2) h3 h4
  · rcases h with h | ⟨j, y, h1, h2⟩
    · exact .inl (.inl h)
    · by_cases hj : j = i
      · exact .inr (at_ hj h1 h2)
      · rw [List.getElem?_set_ne (Ne.symm hj)] at h2
        exact .inl (.inr ⟨j, y, old hj h1, h2⟩)
mutual
theorem gTg_sound {v : V} : ∀ (tg : Tg) (d : D) (v : V) (st st' : St) (σ : L2.St) (Q : L2.St → Hp → Prop), Res K ρ H st σ → VR K ρ H d v → bindD tg d st = some st' →
    (∀ σ', Res K ρ H st' σ' → (∀ j, j ∉ tg.vars → σ'[j]? = σ[j]?) → σ'.length = σ.length → (∀ a, Dom st' σ' ρ a → Dom st σ ρ a) → Q σ' H) → gTg K tg v σ H Q
  | .v i, d, v, st, st', σ, Q, hR, hv, e, k => by
    simp only [bindD, Option.some.injEq] at e
    subst e
    obtain ⟨g1, g2⟩ := Res.setD (i := i) hR hv
    refine k _ g1 (fun j hj => ?_) (by simp) g2
    have hj' : j ≠ i := by simpa [Tg.vars] using hj
    exact List.getElem?_set_ne (Ne.symm hj')
  | .tup ts, d, v, st, st', σ, Q, hR, hv, e, k => by
    cases d with
    | tup ds =>
      obtain ⟨a, vs, rfl, hs, hr⟩ := hv
      simp only [bindD] at e
      refine ⟨a, vs, rfl, hs, ?_, gTgs_sound (v := .non) ts ds vs st st' σ Q hR hr e (by simpa [Tg.vars] using k)⟩
      rw [hr.length]
      exact bindDs_len ts ds st st' e
    | _ => simp [bindD] at e
theorem gTgs_sound {v : V} : ∀ (ts : List Tg) (ds : List D) (vs : List V) (st st' : St) (σ : L2.St) (Q : L2.St → Hp → Prop), Res K ρ H st σ → VRs K ρ H ds vs → bindDs ts ds st = some st' →
    (∀ σ', Res K ρ H st' σ' → (∀ j, j ∉ Tg.varss ts → σ'[j]? = σ[j]?) → σ'.length = σ.length → (∀ a, Dom st' σ' ρ a → Dom st σ ρ a) → Q σ' H) → gTgs K ts vs σ H Q
  | [], ds, vs, st, st', σ, Q, hR, hv, e, k => by
    cases ds with
    | nil =>
      simp only [bindDs, Option.some.injEq] at e
      subst e
      exact ⟨hv, k σ hR (fun _ _ => rfl) rfl (fun _ h => h)⟩
    | cons d ds => simp [bindDs] at e
  | t :: ts, ds, vs, st, st', σ, Q, hR, hv, e, k => by
    cases ds with
    | nil => simp [bindDs] at e
    | cons d ds =>
      obtain ⟨v1, r, rfl, h1, h2⟩ := hv
      simp only [bindDs] at e
      cases q : bindD t d st with
      | none =>
        rw [q] at e
        cases e
      | some st1 =>
        rw [q] at e
        refine ⟨v1, r, rfl, gTg_sound (v := .non) t d v1 st st1 σ _ hR h1 q fun σ1 g1 g2 g3 g4 => ?_⟩
        refine gTgs_sound (v := .non) ts ds r st1 st' σ1 Q g1 h2 e fun σ2 g5 g6 g7 g8 => k σ2 g5 (fun j hj => ?_) (g7.trans g3) fun a h => g4 a (g8 a h)
        have hj' : j ∉ t.vars ∧ j ∉ Tg.varss ts := by simpa [Tg.varss] using hj
        exact (g6 j hj'.2).trans (g2 j hj'.1)
theorem bindDs_len : ∀ (ts : List Tg) (ds : List D) (st st' : St), bindDs ts ds st = some st' → ds.length = ts.length
  | [], ds, st, st', e => by
    cases ds with
    | nil => rfl
    | cons d ds => simp [bindDs] at e
  | t :: ts, ds, st, st', e => by
    cases ds with
    | nil => simp [bindDs] at e
    | cons d ds =>
      simp only [bindDs] at e
      cases q : bindD t d st with
      | none =>
        rw [q] at e
        cases e
      | some st1 =>
        rw [q] at e
        rw [List.length_cons, List.length_cons, bindDs_len ts ds st1 st' e]
end
end
end EW

-- part: Sound9
set_option maxHeartbeats 1000000
/-! comprehensions -/
namespace EW
open PySem PySem.Spec PyProof.Rows L2 RZ RT
/-! ### wiped slots -/
theorem wipeS_get {σ : List Sl} {j : Nat} : ∀ {vs : List Nat}, (wipeS σ vs)[j]? = if j ∈ vs then (σ[j]?).map fun _ => Sl.un else σ[j]?
  | [] => by simp [wipeS]
  | v :: vs => by
    have ih := @wipeS_get σ j vs
    unfold wipeS
    rw [List.getElem?_set]
    by_cases hv : v = j
    · subst hv
      rw [if_pos rfl]
      have hl : v < (wipeS σ vs).length ↔ v < σ.length := by
        have : ∀ us : List Nat, (wipeS σ us).length = σ.length := fun us => by
          induction us with
          | nil => rfl
          | cons u us ih => unfold wipeS; rw [List.length_set, ih]
        rw [this]
      by_cases h : v < σ.length
      · rw [if_pos (hl.mpr h), if_pos (by simp), List.getElem?_eq_getElem h]
        rfl
      · rw [if_neg (fun z => h (hl.mp z)), if_pos (by simp), List.getElem?_eq_none (by omega)]
        rfl
    · rw [if_neg hv, ih]
      have e : (j ∈ v :: vs) ↔ j ∈ vs := by simp [Ne.symm hv]
      simp only [e]
theorem wipeS_length {σ : List Sl} : ∀ {vs : List Nat}, (wipeS σ vs).length = σ.length
  | [] => rfl
  | v :: vs => by
    unfold wipeS
    rw [List.length_set, wipeS_length]
theorem wipe_get {σ : L2.St} {j : Nat} : ∀ {vs : List Nat}, (wipe σ vs)[j]? = if j ∈ vs then (σ[j]?).map fun _ => Option.none else σ[j]?
  | [] => by simp [wipe]
  | v :: vs => by
    have ih := @wipe_get σ j vs
    unfold wipe
    rw [List.getElem?_set]
    by_cases hv : v = j
    · subst hv
      rw [if_pos rfl, wipe_length]
      by_cases h : v < σ.length
      · rw [if_pos h, if_pos (by simp), List.getElem?_eq_getElem h]
        rfl
      · rw [if_neg h, if_pos (by simp), List.getElem?_eq_none (by omega)]
        rfl
    · rw [if_neg hv, ih]
      have e : (j ∈ v :: vs) ↔ j ∈ vs := by simp [Ne.symm hv]
      simp only [e]
theorem backS_get {σ σ0 : List Sl} {j : Nat} (hl : σ.length = σ0.length) : ∀ {vs : List Nat}, (backS σ σ0 vs)[j]? = if j ∈ vs then σ0[j]? else σ[j]?
  | [] => by simp [backS]
  | v :: vs => by
    have ih := @backS_get σ σ0 j hl vs
    have len : ∀ us : List Nat, (backS σ σ0 us).length = σ.length := fun us => by
      induction us with
      | nil => rfl
      | cons u us ih => unfold backS; rw [List.length_set, ih]
    unfold backS
    rw [List.getElem?_set]
    by_cases hv : v = j
    · subst hv
      rw [if_pos rfl, len]
      by_cases h : v < σ.length
      · rw [if_pos h, if_pos (by simp), List.getD_eq_getElem?_getD, List.getElem?_eq_getElem (by omega)]
        rfl
      · rw [if_neg h, if_pos (by simp), List.getElem?_eq_none (by omega)]
    · rw [if_neg hv, ih]
      have e : (j ∈ v :: vs) ↔ j ∈ vs := by simp [Ne.symm hv]
      simp only [e]
theorem backS_length {σ σ0 : List Sl} : ∀ {vs : List Nat}, (backS σ σ0 vs).length = σ.length
  | [] => rfl
  | v :: vs => by
    unfold backS
    rw [List.length_set, backS_length]
theorem wipe_of {σ2 σ : L2.St} {vs : List Nat} (hl : σ2.length = (wipe σ vs).length) (h : ∀ j, j ∉ vs → σ2[j]? = (wipe σ vs)[j]?) : wipe σ2 vs = wipe σ vs := by
  apply List.ext_getElem?
  intro j
  rw [wipe_get]
  by_cases hj : j ∈ vs
  · rw [if_pos hj, wipe_get, if_pos hj]
    rw [wipe_length] at hl
    by_cases g : j < σ.length
    · rw [List.getElem?_eq_getElem g, List.getElem?_eq_getElem (by omega)]
      rfl
    · rw [List.getElem?_eq_none (by omega), List.getElem?_eq_none (by omega)]
  · rw [if_neg hj]
    exact h j hj
/-- the state with these slots forgotten -/
def wst (st : St) (vs : List Nat) : St := { st with σ := wipeS st.σ vs }
section
variable {K : PySem.W.Frag} {ρ ρ1 ρ' : List Addr} {H H1 H' : Hp} {st st1 st' : St} {σ σ1 σ2 σ' : L2.St}
theorem wst_o {vs : List Nat} {i : Nat} {x : O} (h : (wst st vs).σ[i]? = some (.o x)) : i ∉ vs ∧ st.σ[i]? = some (.o x) := by
  have h : (wipeS st.σ vs)[i]? = _ := h
  rw [wipeS_get] at h
  by_cases hi : i ∈ vs
  · rw [if_pos hi] at h
    cases q : st.σ[i]? with
    | none =>
      rw [q] at h
      cases h
    | some y =>
      rw [q] at h
      cases h
  · rw [if_neg hi] at h
    exact ⟨hi, h⟩
theorem Step.of_res (r : Res K ρ H st' σ') (h : ∀ a, Dom st' σ' ρ a → Dom st σ ρ a) : Step K ρ H st σ ρ H st' σ' := ⟨r, List.prefix_refl _, fun _ _ e _ => e, fun a d => .inl (h a d)⟩
theorem Res.wiped (r : Res K ρ H st σ) (vs : List Nat) : Step K ρ H st σ ρ H (wst st vs) (wipe σ vs) := by
  refine Step.of_res ⟨r.hr, ?_, fun i s h => ?_, fun i j x y p hij h1 h2 h3 h4 => ?_⟩ fun a h => ?_
  · show (wipe σ vs).length = (wipeS st.σ vs).length
    rw [wipe_length, wipeS_length]
    exact r.len
  · have h' : (wipeS st.σ vs)[i]? = some s := h
    rw [wipeS_get] at h'
    by_cases hi : i ∈ vs
    · rw [if_pos hi] at h'
      cases q : st.σ[i]? with
      | none =>
        rw [q] at h'
        cases h'
      | some y =>
        rw [q] at h'
        cases h'
        trivial
    · rw [if_neg hi] at h'
      have z := r.sl i s h'
      have e : (wipe σ vs)[i]? = σ[i]? := by rw [wipe_get, if_neg hi]
      cases s with
      | un => trivial
      | d x =>
        obtain ⟨v, e1, h1⟩ := z
        exact ⟨v, e.trans e1, h1⟩
      | o x =>
        obtain ⟨p, e1, h1, n⟩ := z
        exact ⟨p, e.trans e1, h1, n⟩
  · obtain ⟨g1, g2⟩ := wst_o h1
    obtain ⟨g3, g4⟩ := wst_o h2
    rw [wipe_get, if_neg g1] at h3
    rw [wipe_get, if_neg g3] at h4
    exact r.sep i j x y p hij g2 g4 h3 h4
  · rcases h with h | ⟨i, x, h1, h2⟩
    · exact .inl h
    · obtain ⟨g1, g2⟩ := wst_o h1
      rw [wipe_get, if_neg g1] at h2
      exact .inr ⟨i, x, g2, h2⟩
/-- an object that Mini has not stays -/
theorem Step.off (s : Step K ρ H st σ ρ' H' st' σ') {a : Addr} {o : HO} (e : H a = some o) (n : ¬ Dom st σ ρ a) : H' a = some o ∧ ¬ Dom st' σ' ρ' a := by
  refine ⟨s.frame a o e n, fun d => ?_⟩
  rcases s.grow a d with q | q
  · exact n q
  · rw [e] at q
    cases q
/-- a list that Mini has not yet may change -/
theorem Step.updL (s : Step K ρ H st σ ρ' H' st' σ') {a : Addr} (e : H a = none) (e' : H' a = none ∨ ∃ xs, H' a = some (.lst xs)) (n : ¬ Dom st' σ' ρ' a) (xs : List V) : Step K ρ H st σ ρ' (upd H' a (.lst xs)) st' σ' ∧ Pers H' (upd H' a (.lst xs)) := by
  have ps : Pers H' (upd H' a (.lst xs)) := by
    refine ⟨fun b ys h => ?_, fun b o u h => ?_⟩
    · have hb : b ≠ a := fun z => by
        subst z
        rcases e' with z | ⟨_, z⟩ <;> (rw [h] at z; cases z)
      rw [upd_ne hb]
      exact h
    · have hb : b ≠ a := fun z => by
        subst z
        rcases e' with z | ⟨_, z⟩ <;> (rw [h] at z; cases z)
      rw [upd_ne hb]
      exact h
  have keep : ∀ {p : Addr} {x : O}, Dom st' σ' ρ' p → OR K ρ' H' p x → OR K ρ' (upd H' a (.lst xs)) p x := fun {p x} d h =>
    OR.mono (upd_ne fun z => n (z ▸ d)) ps (List.prefix_refl _) h
  refine ⟨⟨⟨⟨s.res.hr.len, s.res.hr.nd, fun i p x h1 h2 => keep (.inl (List.mem_of_getElem? h1)) (s.res.hr.obj i p x h1 h2)⟩, s.res.len, fun i sl h => ?_, s.res.sep⟩, s.pre, fun b o h nd => ?_, s.grow⟩, ps⟩
  · have z := s.res.sl i sl h
    cases sl with
    | un => trivial
    | d x =>
      obtain ⟨v, e1, h1⟩ := z
      exact ⟨v, e1, h1.mono ps (List.prefix_refl _) x v⟩
    | o x =>
      obtain ⟨p, e1, h1, n1⟩ := z
      exact ⟨p, e1, keep (.inr ⟨i, x, h, e1⟩) h1, n1⟩
  · have hb : b ≠ a := fun z => by
      subst z
      rw [e] at h
      cases h
    rw [upd_ne hb]
    exact s.frame b o h nd
theorem ER.later {r : EV} {v : V} {vs : List Nat} (s : Step K ρ H st σ ρ' H' st' σ') (ps : Pers H H') (hp : ∀ i ∈ r.pls, σ'[i]? = σ[i]?) (h : ER K ρ H st σ r v) : ER K ρ' H' st' σ' r v := by
  cases r with
  | d x => exact VR.mono ps s.pre x v h
  | o x =>
    obtain ⟨p, e, h1, n⟩ := h
    obtain ⟨o, e1, _⟩ := h1.there
    obtain ⟨g1, g2⟩ := s.off e1 n
    exact ⟨p, e, h1.mono (by rw [e1, g1]) ps s.pre, g2⟩
  | pl i => exact (hp i (by simp [EV.pls])).trans h
  | it k vs => exact h
theorem ERl.later (s : Step K ρ H st σ ρ' H' st' σ') (ps : Pers H H') : ∀ {rs : List EV} {us : List V}, (∀ r ∈ rs, ∀ i, r = .pl i → σ'[i]? = σ[i]?) → ERl K ρ H st σ rs us → ERl K ρ' H' st' σ' rs us
  | [], us, hp, h => h
  | r :: rs, us, hp, h => by
    obtain ⟨v, t, rfl, h1, h2⟩ := h
    refine ⟨v, t, rfl, ER.later (vs := []) s ps (fun i hi => ?_) h1, ERl.later s ps (fun r hr => hp r (List.mem_cons_of_mem _ hr)) h2⟩
    cases r with
    | pl j =>
      have e : i = j := by simpa [EV.pls] using hi
      subst e
      exact hp _ (by simp) _ rfl
    | d x => simp [EV.pls] at hi
    | o x => simp [EV.pls] at hi
    | it k vs => exact h1.elim
theorem Src.later {r : EV} {us : List V} (s : Step K ρ H st σ ρ' H' st' σ') (ps : Pers H H') (hp : ∀ i ∈ r.pls, σ'[i]? = σ[i]?) (h : Src K ρ H st σ r us) : Src K ρ' H' st' σ' r us := by
  cases r with
  | it k vs =>
    refine ERl.later s ps (fun r hr i e => hp i ?_) h
    subst e
    simp only [EV.pls, List.mem_flatMap]
    exact ⟨_, hr, by simp⟩
  | d x =>
    obtain ⟨u, e, h⟩ := h
    exact ⟨u, e, ER.later (vs := []) s ps hp h⟩
  | o x =>
    obtain ⟨u, e, h⟩ := h
    exact ⟨u, e, ER.later (vs := []) s ps hp h⟩
  | pl i =>
    obtain ⟨u, e, h⟩ := h
    exact ⟨u, e, ER.later (vs := []) s ps hp h⟩
end
theorem rd_wst {st : St} {vs : List Nat} {v : EV} (h : ∀ i ∈ v.pls, i ∉ vs) : rd (wst st vs) v = rd st v := by
  cases v with
  | d x => cases x <;> rfl
  | o x => rfl
  | it k vs => rfl
  | pl i =>
    have e : (wst st vs).σ[i]? = st.σ[i]? := by
      show (wipeS st.σ vs)[i]? = _
      rw [wipeS_get, if_neg (h i (by simp [EV.pls]))]
    simp only [rd, e]
    rfl
theorem rd_it {st st' : St} {k : I} {us : List EV} : rd st (.it k us) = rd st' (.it k us) := rfl
theorem items_wst {st : St} {vs : List Nat} {v : EV} (h : ∀ i ∈ v.pls, i ∉ vs) : items (wst st vs) v = items st v := by
  cases v with
  | d x => simp only [items, rd_wst h]
  | o x => simp only [items, rd_wst h]
  | pl i => simp only [items, rd_wst h]
  | it k us =>
    have hr : ∀ a, a ∈ us → rd (wst st vs) a = rd st a := fun a ha => by
      cases a with
      | pl i => exact rd_wst fun j hj => h j (by
          have e : j = i := by simpa [EV.pls] using hj
          subst e
          simp only [EV.pls, List.mem_flatMap]
          exact ⟨_, ha, by simp⟩)
      | d x => exact rd_wst fun j hj => by simp [EV.pls] at hj
      | o x => exact rd_wst fun j hj => by simp [EV.pls] at hj
      | it k' us' => rfl
    unfold items
    split <;> (try simp only [EV.it.injEq, reduceCtorEq] at *) <;> (try rfl) <;> simp_all
section
variable {X : Cx} {G : Gam} {Wx : WX}
/-- nothing is let out of a comprehension's block -/
def W0 : WX := fun _ _ _ _ => False
theorem takes_blk {X : Cx} : Takes X W0 := fun u s' ⟨a, B, sI, pins, σ, H, cls, d, e, I, nb, up, sky, na, os, ag, w⟩ => w.elim
theorem PTs.imp {X : Cx} {ifs : List Expr} {t t' : TT} (h : PTs X ifs t) (f : ∀ σ H Q, t' σ H Q → t σ H Q) : PTs X ifs t' := ⟨fun pins s σ H Q I q => h.run pins s σ H Q I (f σ H Q q)⟩
noncomputable def lcTest (G : Gam) (cond : E) : St → Out Bool := fun s => match cond with | .no => .ok true s | c => tst G c s
theorem Wp.tame {α : Type} {o : Out α} {P : α → St → Prop} {F : String → St → Prop} (h : Wp o.tame P F) : Wp o P (fun _ _ => False) := by
  cases o with
  | ok a st => exact h
  | ex c st => exact h.elim
  | bad => exact h
open Classical in
/-- the loop, as HandS wants it -/
theorem lc_turns {J : It} {D : Addr} {tg : Tg} {test : St → Out Bool} {elt : St → Out EV} {v : EV} {us : List V} {xs : List EW.D} {ρ1 : List Addr} {H1 : Hp} {st1 : St} {σ : L2.St} {Q : VK} {P : List EW.D → St → Prop}
    (hR : Res X.K ρ1 H1 st1 σ) (hD : H1 D = none) (hlim : xs.length ≤ lim) (hpl : ∀ i ∈ v.pls, i ∉ tg.vars) (hs : Src X.K ρ1 H1 st1 σ v us)
    (goes : ∀ ρ' H' st' σ', Res X.K ρ' H' st' σ' → Src X.K ρ' H' st' σ' v us → items st' v = some xs → GoesI X.K J xs ρ' H')
    (h : Wp (lcL (fun s => items s v = some xs) tg test elt xs [] st1) P (fun _ _ => False))
    (k : ∀ ρ' H' st' acc accV, Step X.K ρ1 H1 (wst st1 tg.vars) (wipe σ tg.vars) ρ' H' (wst st' tg.vars) (wipe σ tg.vars) → st'.σ.length = st1.σ.length → H' D = some (.lst accV) → VRs X.K ρ' H' acc accV → ¬ Dom (wst st' tg.vars) (wipe σ tg.vars) ρ' D → P acc st' → Q (.ref D) H') :
    ∃ W : Nat → Nat → Hp → Prop, (∃ m, W 0 m (upd H1 D (.lst []))) ∧ ∀ i m H, W i m H →
      (J.stop i H ∧ Q (.ref D) H) ∨ (J.go i H ∧ ∃ Nx : Hp → Prop, (∀ H', Nx H' → ∃ m', m' < m ∧ W (i + 1) m' H') ∧ ∀ x H', J.yld i H x H' → gTg X.K tg x (wipe σ tg.vars) H' fun σ2 H2 => wipe σ2 tg.vars = wipe σ tg.vars ∧ tB X test W0 σ2 H2 fun b H3 =>
        if b = true then tE X elt W0 σ2 H3 fun y H4 => ∃ acc, H4 D = some (.lst acc) ∧ acc.length < sizeLine ∧ Nx (upd H4 D (.lst (acc ++ [y]))) else Nx H3) := by
  let Pv : Nat → Hp → Prop := fun i H => ∃ ρi sti acc accV, Step X.K ρ1 H1 (wst st1 tg.vars) (wipe σ tg.vars) ρi H (wst sti tg.vars) (wipe σ tg.vars) ∧ sti.σ.length = st1.σ.length ∧ H D = some (.lst accV) ∧ VRs X.K ρi H acc accV ∧ ¬ Dom (wst sti tg.vars) (wipe σ tg.vars) ρi D ∧ acc.length ≤ i ∧
    Wp (lcL (fun s => items s v = some xs) tg test elt (xs.drop i) acc sti) P (fun _ _ => False)
  have s0 := hR.wiped tg.vars
  refine ⟨fun i m H => i ≤ xs.length ∧ m = xs.length - i ∧ Pv i H, ⟨_, Nat.zero_le _, rfl, ?_⟩, fun i m H => ?_⟩
  · obtain ⟨g1, g2⟩ := (Step.refl s0.res).updL hD (.inl hD) (s0.res.notDom hD) []
    exact ⟨ρ1, st1, [], [], g1, rfl, by simp [upd], rfl, s0.res.notDom hD, Nat.le_refl _, h⟩
  · rintro ⟨hi, rfl, ρi, sti, acc, accV, s1, hl, hDi, hacc, hnd, hal, hw⟩
    have hln := lim_line
    have hst : items sti v = some xs := by
      cases q : xs.drop i with
      | nil =>
        rw [q] at hw
        unfold lcL at hw
        split at hw
        · assumption
        · exact hw.elim
      | cons x r =>
        rw [q] at hw
        unfold lcL at hw
        split at hw
        · assumption
        · exact hw.elim
    have hsrc : Src X.K ρi H (wst sti tg.vars) (wipe σ tg.vars) v us :=
      Src.later (s0.trans s1) (Step.pers s0.res s1) (fun j hj => by rw [wipe_get, if_neg (hpl j hj)]) hs
    have g := goes ρi H (wst sti tg.vars) _ s1.res hsrc ((items_wst hpl).trans hst)
    by_cases hlt : i < xs.length
    · refine .inr ⟨g.go i hlt, Pv (i + 1), fun H' p' => ⟨xs.length - (i + 1), by omega, by omega, rfl, p'⟩, fun x H' hy => ?_⟩
      obtain ⟨same, d, hd, hv⟩ := g.yld i x H' hlt hy
      have e : xs.drop i = d :: xs.drop (i + 1) := by
        rw [List.drop_eq_getElem_cons hlt]
        rw [List.getElem?_eq_getElem hlt] at hd
        cases hd
        rfl
      rw [e] at hw
      unfold lcL at hw
      rw [if_pos hst] at hw
      have s2 := s1.trans (Step.ext s1.res same)
      cases q : bindD tg d { sti with σ := wipeS sti.σ tg.vars } with
      | none =>
        rw [q] at hw
        exact hw.elim
      | some st2 =>
        rw [q] at hw
        refine gTg_sound (v := x) tg d x (wst sti tg.vars) st2 (wipe σ tg.vars) _ s2.res hv q fun σ2 r2 g1 g2 g3 => ?_
        have ew : wipe σ2 tg.vars = wipe σ tg.vars := wipe_of g2 g1
        refine ⟨ew, ρi, st2, r2, (Wp.bind.mp hw).mono (fun b st3 hb H3 ρ3 s3 => ?_) (fun c st' z => z.elim)⟩
        have s4 : Step X.K ρ1 H1 (wst st1 tg.vars) (wipe σ tg.vars) ρ3 H3 st3 σ2 := (s2.trans (Step.of_res r2 g3)).trans s3
        obtain ⟨hD', hn'⟩ := (Step.ext s1.res same).off hDi hnd
        obtain ⟨hD3, hn3⟩ := ((Step.of_res r2 g3).trans s3).off hD' hn'
        have acc3 := (hacc.mono (Step.pers s1.res (Step.ext s1.res same)) (List.prefix_refl _) acc accV).mono (Step.pers (Step.ext s1.res same).res ((Step.of_res r2 g3).trans s3)) s3.pre acc accV
        have l3 : st3.σ.length = st1.σ.length := by
          have a1 := s3.res.len
          have a2 := g2
          rw [wipe_length] at a2
          have a3 := hR.len
          omega
        by_cases hb1 : b = true
        · subst hb1
          simp only [if_true] at hb ⊢
          refine ⟨ρ3, st3, s3.res, (Wp.bind.mp hb).mono (fun r4 st4 hy y H4 ρ4 s5 hr hn => ?_) (fun c st' z => z.elim)⟩
          obtain ⟨y', st5, e5, hy⟩ := wp_of2 (Wp.bind.mp hy)
          obtain ⟨ρ5, s6, hp6, hv6, hd6⟩ := toD_sound s5 hr hn e5
          obtain ⟨hD4, hn4⟩ := s5.off hD3 hn3
          obtain ⟨_, hn5⟩ := s6.off hD3 hn3
          have acc4 := (acc3.mono (Step.pers s3.res s6) s6.pre acc accV).append (VRs.cons hv6 .nil)
          have al := acc3.length
          have s7 := s4.trans s6
          have s8 := s7.trans (s7.res.wiped tg.vars)
          rw [ew] at s8
          have hn8 : ¬ Dom (wst st5 tg.vars) (wipe σ tg.vars) ρ5 D := fun z => by
            have w5 := s7.res.wiped tg.vars
            rw [ew] at w5
            rcases w5.grow D z with z | z
            · exact hn5 z
            · rw [hD4] at z
              cases z
          obtain ⟨s9, ps9⟩ := s8.updL hD (.inr ⟨_, hD4⟩) hn8 (accV ++ [y])
          refine ⟨accV, hD4, by omega, ρ5, st5, acc ++ [y'], accV ++ [y], s9, ?_, by simp [upd], acc4.mono ps9 (List.prefix_refl _) _ _, hn8, by simp; omega, hy⟩
          have a1 := s6.res.len
          have a2 := s3.res.len
          omega
        · have e1 : b = false := by simpa using hb1
          subst e1
          simp only [Bool.false_eq_true, if_false] at hb ⊢
          have w3 := s3.res.wiped tg.vars
          have s8 := s4.trans w3
          rw [ew] at s8 w3
          exact ⟨ρ3, st3, acc, accV, s8, l3, hD3, acc3, (w3.off hD3 hn3).2, by omega, hb⟩
    · have e : i = xs.length := by omega
      subst e
      refine .inl ⟨g.stop, ?_⟩
      rw [List.drop_length] at hw
      unfold lcL at hw
      rw [if_pos hst] at hw
      exact k ρi H sti acc accV s1 hl hDi hacc hnd hw
end
section
variable {K : PySem.W.Frag} {ρ ρ1 ρ' : List Addr} {H H1 H' : Hp} {st st1 st' : St} {σ σ1 σ2 σ' : L2.St}
theorem Step.restore {vs : List Nat} (hR : Res K ρ1 H1 st1 σ) (s : Step K ρ1 H1 (wst st1 vs) (wipe σ vs) ρ' H' (wst st' vs) (wipe σ vs)) (l : st'.σ.length = st1.σ.length) :
    Step K ρ1 H1 st1 σ ρ' H' { st' with σ := backS st'.σ st1.σ vs } σ ∧ ∀ a, Dom { st' with σ := backS st'.σ st1.σ vs } σ ρ' a → Dom (wst st' vs) (wipe σ vs) ρ' a ∨ ∃ i x, i ∈ vs ∧ st1.σ[i]? = some (.o x) ∧ σ[i]? = some (some (.ref a)) := by
  have w := hR.wiped vs
  have ps := Step.pers w.res s
  have key : ∀ {i : Nat} {x : O}, (backS st'.σ st1.σ vs)[i]? = some (.o x) → (i ∉ vs ∧ (wst st' vs).σ[i]? = some (.o x) ∧ (wipe σ vs)[i]? = σ[i]?) ∨ (i ∈ vs ∧ st1.σ[i]? = some (.o x)) := fun {i x} h => by
    rw [backS_get l] at h
    by_cases hi : i ∈ vs
    · rw [if_pos hi] at h
      exact .inr ⟨hi, h⟩
    · rw [if_neg hi] at h
      refine .inl ⟨hi, ?_, by rw [wipe_get, if_neg hi]⟩
      show (wipeS st'.σ vs)[i]? = _
      rw [wipeS_get, if_neg hi]
      exact h
  -- what a wiped slot alone has
  have own : ∀ {i : Nat} {x : O} {p : Addr}, i ∈ vs → st1.σ[i]? = some (.o x) → σ[i]? = some (some (.ref p)) → OR K ρ1 H1 p x ∧ ¬ Dom (wst st1 vs) (wipe σ vs) ρ1 p := fun {i x p} hi h e => by
    obtain ⟨p', e1, h1, n1⟩ := hR.sl i _ h
    rw [e] at e1
    cases e1
    refine ⟨h1, fun d => ?_⟩
    rcases d with d | ⟨j, y, g1, g2⟩
    · exact n1 d
    · obtain ⟨g3, g4⟩ := wst_o g1
      rw [wipe_get, if_neg g3] at g2
      exact hR.sep i j x y p (fun z => g3 (z ▸ hi)) h g4 e g2
  have domS : ∀ a, Dom { st' with σ := backS st'.σ st1.σ vs } σ ρ' a → Dom (wst st' vs) (wipe σ vs) ρ' a ∨ ∃ i x, i ∈ vs ∧ st1.σ[i]? = some (.o x) ∧ σ[i]? = some (some (.ref a)) := fun a d => by
    rcases d with d | ⟨i, x, h1, h2⟩
    · exact .inl (.inl d)
    · rcases key h1 with ⟨g1, g2, g3⟩ | ⟨g1, g2⟩
      · exact .inl (.inr ⟨i, x, g2, g3.trans h2⟩)
      · exact .inr ⟨i, x, g1, g2, h2⟩
  refine ⟨⟨⟨s.res.hr, ?_, fun i sl h => ?_, fun i j x y p hij h1 h2 h3 h4 => ?_⟩, s.pre, fun a o e n => s.frame a o e fun d => ?_, fun a d => ?_⟩, domS⟩
  · show σ.length = (backS st'.σ st1.σ vs).length
    rw [backS_length, l]
    exact hR.len
  · have h : (backS st'.σ st1.σ vs)[i]? = some sl := h
    rw [backS_get l] at h
    by_cases hi : i ∈ vs
    · rw [if_pos hi] at h
      have z := hR.sl i sl h
      cases sl with
      | un => trivial
      | d x =>
        obtain ⟨v, e1, h1⟩ := z
        exact ⟨v, e1, h1.mono ps s.pre x v⟩
      | o x =>
        obtain ⟨p, e1, h1, n1⟩ := z
        obtain ⟨h2, n2⟩ := own hi h e1
        obtain ⟨o, e2, _⟩ := h2.there
        obtain ⟨g1, g2⟩ := s.off e2 n2
        exact ⟨p, e1, h2.mono (by rw [e2, g1]) ps s.pre, fun z => g2 (.inl z)⟩
    · rw [if_neg hi] at h
      have h' : (wst st' vs).σ[i]? = some sl := by
        show (wipeS st'.σ vs)[i]? = _
        rw [wipeS_get, if_neg hi]
        exact h
      have z := s.res.sl i sl h'
      have e : (wipe σ vs)[i]? = σ[i]? := by rw [wipe_get, if_neg hi]
      cases sl with
      | un => trivial
      | d x =>
        obtain ⟨v, e1, h1⟩ := z
        exact ⟨v, e.symm.trans e1, h1⟩
      | o x =>
        obtain ⟨p, e1, h1, n1⟩ := z
        exact ⟨p, e.symm.trans e1, h1, n1⟩
  · have cross : ∀ {i j : Nat} {x y : O}, (i ∈ vs ∧ st1.σ[i]? = some (.o x)) → (j ∉ vs ∧ (wst st' vs).σ[j]? = some (.o y) ∧ (wipe σ vs)[j]? = σ[j]?) → σ[i]? = some (some (.ref p)) → σ[j]? = some (some (.ref p)) → False := fun {i j x y} a b e e' => by
      obtain ⟨h2, n2⟩ := own a.1 a.2 e
      obtain ⟨o, e2, _⟩ := h2.there
      exact (s.off e2 n2).2 (.inr ⟨j, y, b.2.1, b.2.2.trans e'⟩)
    rcases key h1 with a | a <;> rcases key h2 with b | b
    · exact s.res.sep i j x y p hij a.2.1 b.2.1 (a.2.2.trans h3) (b.2.2.trans h4)
    · exact cross b a h4 h3
    · exact cross a b h3 h4
    · exact hR.sep i j x y p hij a.2 b.2 h3 h4
  · rcases w.grow a d with z | z
    · exact n z
    · rw [e] at z
      cases z
  · rcases domS a d with d | ⟨i, x, h1, h2, h3⟩
    · rcases s.grow a d with z | z
      · rcases w.grow a z with z | z
        · exact .inl z
        · exact .inr z
      · exact .inr z
    · exact .inl (.inr ⟨i, x, h2, h3⟩)
end
section
variable {X : Cx} {G : Gam} {Wx : WX}
theorem tE_lc {elt cond src : E} {tg : Tg} {σ : L2.St} {H : Hp} {Q : VK} (h : tE X (ev G (.lc elt tg src cond)) Wx σ H Q) :
    tLc (tI X (ev G src) Wx) (gTg X.K tg) (tB X (lcTest G cond) W0) (tE X (ev G elt) W0) tg.vars σ H Q := by
  obtain ⟨ρ, st, hR, h⟩ := h
  rw [ev] at h
  refine ⟨ρ, st, hR, (Wp.bind.mp h).mono (fun v st1 h => ?_) (fun _ _ x => x)⟩
  cases q : items st1 v with
  | none =>
    rw [q] at h
    exact h.elim
  | some xs =>
    rw [q] at h
    simp only at h
    split at h
    · rename_i hc
      simp only [Bool.and_eq_true, decide_eq_true_eq, List.all_eq_true, Bool.not_eq_true', List.contains_eq_mem, decide_eq_false_iff_not] at hc
      refine ⟨xs, rfl, fun J H1 ρ1 us s1 hs goes D hD => ?_⟩
      refine lc_turns s1.res hD hc.1 hc.2 hs goes (Wp.tame (Wp.bind.mp h)) fun ρ' H' st' acc accV s2 l hDa hacc hnd h => ?_
      obtain ⟨s3, hdom⟩ := Step.restore s1.res s2 l
      refine h (.ref D) H' ρ' (s1.trans s3) ⟨D, rfl, ⟨accV, hDa, hacc⟩, fun d => ?_⟩ fun x p e1 e2 => ?_
      · rcases hdom D d with d | ⟨i, x, _, h1, h2⟩
        · exact hnd d
        · exact s1.res.notDom hD (.inr ⟨i, x, h1, h2⟩)
      · cases e2
        by_cases n : Dom st σ ρ D
        · exact .inr n
        · left
          cases e : H D with
          | none => rfl
          | some o =>
            rw [s1.frame D o e n] at hD
            cases hD
    · exact h.elim
theorem se_lc {elt cond src : E} {tg : Tg} {eelt etg eiter : Expr} {ifs : List Expr} {scope : Scope} {own : List (Str × Nat)} {pos : Pos} (hc : X.calm = true) (hN : X.N.Nodup) (hi : SI X G src etg eiter) (ok : BlkOk X.N X.env.scope scope own) (hv : own.map (·.2) = tg.vars)
    (hg : ∀ (s : Shared) (H : Hp) (C : Addr) (cl : List (Str × Addr)) (fp : List Addr), PG (X.blk s H scope (compEnvC scope cl C X.env) fp) etg (gTg X.K tg))
    (ht : ∀ (s : Shared) (H : Hp) (C : Addr) (cl : List (Str × Addr)) (fp : List Addr), (cond = .no ∧ ifs = []) ∨ (cond ≠ .no ∧ ∃ c, ifs = [c] ∧ ST (X.blk s H scope (compEnvC scope cl C X.env) fp) G cond c))
    (he : ∀ (s : Shared) (H : Hp) (C : Addr) (cl : List (Str × Addr)) (fp : List Addr), SE (X.blk s H scope (compEnvC scope cl C X.env) fp) G elt eelt) (hs : ∀ x, foldedSetIterable eiter X.env x = pure x) :
    SE X G (.lc elt tg src cond) (.ListComp eelt [⟨etg, eiter, ifs, 0⟩] scope pos) := fun Wx tk => by
  refine PE.imp (pe_lc hc hN (hi Wx tk) ok hg (tt := tB X (lcTest G cond) W0) (te := tE X (ev G elt) W0) (fun s H C cl fp => ?_) (fun s H C cl fp => he s H C cl fp W0 takes_blk) hs) ?_
  · rcases ht s H C cl fp with ⟨rfl, rfl⟩ | ⟨hn, c, rfl, h⟩
    · refine PTs.imp pts_nil ?_
      rintro σ H Q ⟨ρ, st, hR, h⟩
      exact h H ρ (Step.refl hR)
    · have e : lcTest G cond = tst G cond := by
        funext s
        cases cond <;> first | rfl | exact absurd rfl hn
      rw [e]
      exact pts_one (h W0 takes_blk)
  · rw [hv]
    exact fun σ H Q => tE_lc
end
end EW

-- part: Sound10
set_option maxHeartbeats 1000000
/-! targets as they are written; isinstance; methods that change a list -/
namespace EW
open PySem PySem.Spec PyProof.Rows L2
/-! ### no stars -/
def noStar : Expr → Bool
  | .Starred _ _ => false
  | _ => true
theorem star_cons {e : Expr} {es : List Expr} {env : Env} (h : noStar e = true) : starEach (e :: es) env = (false, eval e env) :: starEach es env := by
  cases e <;> first | rfl | cases h
theorem star_nil {env : Env} : starEach [] env = [] := rfl
theorem star_plain {pos : Pos} {env : Env} : ∀ {es : List Expr}, es.all noStar = true → (backTo pos (starEach es env)).any (·.1) = false
  | [], _ => rfl
  | e :: es, h => by
    simp only [List.all_cons, Bool.and_eq_true] at h
    rw [star_cons h.1]
    have ih := star_plain (pos := pos) (env := env) h.2
    show (false || (backTo pos (starEach es env)).any (·.1)) = false
    rw [ih]
    rfl
theorem star_few {pos : Pos} {env : Env} : ∀ {es : List Expr}, es.all noStar = true → (backTo pos (starEach es env)).all (fun x => !x.1) = true
  | [], _ => rfl
  | e :: es, h => by
    simp only [List.all_cons, Bool.and_eq_true] at h
    rw [star_cons h.1]
    have ih := star_few (pos := pos) (env := env) h.2
    show (!false && (backTo pos (starEach es env)).all (fun x => !x.1)) = true
    rw [ih]
    rfl
theorem asg_cons {e : Expr} {es : List Expr} {env : Env} (h : noStar e = true) : assignEach (e :: es) env = (false, assign e env) :: assignEach es env := by
  cases e <;> first | rfl | cases h
theorem asg_len {env : Env} : ∀ {es : List Expr}, es.all noStar = true → (assignEach es env).length = es.length
  | [], _ => rfl
  | e :: es, h => by
    simp only [List.all_cons, Bool.and_eq_true] at h
    rw [asg_cons h.1, List.length_cons, List.length_cons, asg_len h.2]
theorem asg_idx {env : Env} : ∀ {es : List Expr}, es.all noStar = true → (assignEach es env).findIdx? (·.1) = none
  | [], _ => rfl
  | e :: es, h => by
    simp only [List.all_cons, Bool.and_eq_true] at h
    rw [asg_cons h.1, List.findIdx?_cons]
    have ih := asg_idx (env := env) h.2
    simp [ih]

/-! ### the check's surroundings -/
structure Gt where
  cs : List (String × D)
  fns : List (String × Nat)
structure Ck where
  N : List Str
  sc : Scope
  fnc : Str → Bool
  calm : Bool
  gt : Gt
def Ck.loc (c : Ck) (x : Str) : Bool := c.sc.names.lookup x == some .local || (c.sc.names.lookup x == some .cell && c.fnc x)
def Ck.vis (c : Ck) (x : Str) : Bool := c.sc.names.lookup x == some .local || c.sc.names.lookup x == some .cell || c.sc.names.lookup x == some .free
def Ck.glo (c : Ck) (x : Str) : Bool := c.sc.names.lookup x == some .globalImplicit
mutual
def chkT (c : Ck) : Tg → Expr → Bool
  | .v i, .Name x _ => (c.N[i]? == some x) && c.loc x
  | .tup ts, .Tuple es _ _ => chkTs c ts es
  | _, _ => false
def chkTs (c : Ck) : List Tg → List Expr → Bool
  | [], [] => true
  | t :: ts, e :: es => noStar e && chkT c t e && chkTs c ts es
  | _, _ => false
end
structure CtOk (X : Cx) (c : Ck) : Prop where
  N : X.N = c.N
  nd : X.N.Nodup
  sc : X.env.scope = c.sc
  fnc : ∀ x, c.fnc x = true → X.fn x = true
  calm : c.calm = true → X.calm = true
section
variable {X : Cx} {c : Ck}
theorem CtOk.ix (h : CtOk X c) {i : Nat} {x : Str} (e : (c.N[i]? == some x) = true) : X.N[i]? = some x := by
  rw [h.N]
  exact eq_of_beq e
theorem CtOk.glo (h : CtOk X c) {x : Str} (e : c.glo x = true) : Gl X x := by
  show X.env.scope.names.lookup x = _
  rw [h.sc]
  exact eq_of_beq e
theorem CtOk.vis (h : CtOk X c) {x : Str} (e : c.vis x = true) : Vis X.env.scope x := by
  unfold Ck.vis at e
  rw [← h.sc] at e
  simp only [Bool.or_eq_true, beq_iff_eq] at e
  rcases e with (e | e) | e
  · exact .inl e
  · exact .inr (.inl e)
  · exact .inr (.inr e)
theorem CtOk.loc (h : CtOk X c) {x : Str} (e : c.loc x = true) : Loc X.env.scope x ∧ (X.fn x = true ∨ X.env.scope.names.lookup x = some .local) := by
  unfold Ck.loc at e
  rw [← h.sc] at e
  simp only [Bool.or_eq_true, Bool.and_eq_true, beq_iff_eq] at e
  rcases e with e | ⟨e, f⟩
  · exact ⟨.inl e, .inr e⟩
  · exact ⟨.inr e, .inl (h.fnc x f)⟩
mutual
theorem chkT_ok (h : CtOk X c) (hc : X.calm = true) : ∀ (t : Tg) (e : Expr), chkT c t e = true → PG X e (gTg X.K t)
  | .v i, e, q => by
    unfold chkT at q
    split at q
    · rename_i i' x p e1
      cases e1
      simp only [Bool.and_eq_true] at q
      obtain ⟨g1, g2⟩ := h.loc q.2
      exact pg_name h.nd (h.ix q.1) g1 g2
    · rename_i e1
      cases e1
    · cases q
  | .tup ts, e, q => by
    unfold chkT at q
    split at q
    · rename_i e1
      cases e1
    · rename_i ts' es k p e1
      cases e1
      obtain ⟨g1, g2, g3⟩ := chkTs_ok h hc ts es q
      exact pg_tup hc g1 ((asg_len g2).trans g3) (asg_idx g2)
    · cases q
theorem chkTs_ok (h : CtOk X c) (hc : X.calm = true) : ∀ (ts : List Tg) (es : List Expr), chkTs c ts es = true → PGs X es (gTgs X.K ts) ∧ es.all noStar = true ∧ es.length = ts.length
  | [], es, q => by
    unfold chkTs at q
    split at q
    · exact ⟨pgs_nil, rfl, rfl⟩
    · rename_i e1
      cases e1
    · cases q
  | t :: ts, es, q => by
    unfold chkTs at q
    split at q
    · rename_i e1
      cases e1
    · rename_i t' ts' e es' e1
      cases e1
      simp only [Bool.and_eq_true] at q
      obtain ⟨g1, g2, g3⟩ := chkTs_ok h hc ts es' q.2
      have g4 := chkT_ok h hc t e q.1.2
      refine ⟨pgs_cons g4 g1 ?_, ?_, ?_⟩
      · rw [asg_cons q.1.1]
        rfl
      · simp [q.1.1, g2]
      · simp [g3]
    · cases q
end
end

/-! ### isinstance -/
def tyW (mg : Str → Option Value) : Wv → Value → Prop
  | .d .non, t => t = .type "NoneType"
  | .d (.bl _), t => t = .type "bool"
  | .d (.int _), t => t = .type "int"
  | .d (.str _), t => t = .type "str"
  | .d (.tup _), t => t = .type "tuple"
  | .d (.fz _), t => t = .type "list"
  | .o (.lst _), t => t = .type "list"
  | .o (.dct _), t => t = .type "dict"
  | .o (.ins c _), t => False
  | .d (.exn c), t => False
  | .d (.ref _), _ => False
theorem wr_ty {K : PySem.W.Frag} {mg : Str → Option Value} {ρ : List Addr} {H : Hp} {w : Wv} {x : V} (h : WR K ρ H w x) : ∃ t, tyW mg w t ∧ TyX K H x t := by
  cases w with
  | d d =>
    obtain ⟨h, n⟩ := h
    cases d with
    | non =>
      cases h
      exact ⟨_, rfl, .base .non⟩
    | bl b =>
      cases h
      exact ⟨_, rfl, .base (.bl b)⟩
    | int i =>
      cases h
      exact ⟨_, rfl, .base (.int i)⟩
    | str z =>
      cases h
      exact ⟨_, rfl, .base (.str z)⟩
    | tup ds =>
      obtain ⟨a, vs, rfl, hs, hv⟩ := h
      rcases hs with (h | ⟨o, h⟩) | ⟨o, its, n, h, hc, _⟩
      · exact ⟨_, rfl, .base (.tup h)⟩
      · exact ⟨_, rfl, .fTuple h⟩
      · exact ⟨_, rfl, .kTuple h hc⟩
    | ref a => exact (n a rfl).elim
    | fz ds =>
      obtain ⟨a, vs, rfl, hs, hv⟩ := h
      rcases hs with ⟨o, hs⟩ | ⟨o, its, n, h, hc, _⟩
      · exact ⟨_, rfl, .base (.frz hs)⟩
      · exact ⟨_, rfl, .kList h hc⟩
    | exn c => exact h.elim
  | o o =>
    obtain ⟨p, rfl, h⟩ := h
    cases o with
    | lst ds =>
      obtain ⟨vs, h1, h2⟩ := h
      exact ⟨_, rfl, .base (.lst h1)⟩
    | dct kvs => exact h.elim
    | ins c fs => exact h.elim
/-- a class's name, as it is asked for by isinstance -/
def TyOk (X : Cx) (G : Gam) (t : String) : Prop := ∃ (v : V) (u : Value), (∀ pos, PE X (.Name (Str.ofString t) pos) (tC v)) ∧ ClsV v u ∧ ∀ w b, isiW G.sub w t = some b → ∀ ty, tyW X.mg w ty → PySem.W.kitOne X.K ty u = some b
section
variable {X : Cx} {G : Gam} {Wx : WX}
theorem boot_isi : bootBuiltins "isinstance" = some (.builtin "isinstance") := by decide +kernel
theorem ins_no {G : Gam} {c t : String} : True := trivial
theorem se_isi1 {a : E} {ea : Expr} {t : String} {p p2 pos : Pos} (hg : Gl X "isinstance") (hm : X.mg "isinstance" = none) (hn : noStar ea = true) (ht : TyOk X G t) (ha : SE X G a ea) :
    SE X G (.isi a [t]) (.Call (.Name "isinstance" p) [ea, .Name (Str.ofString t) p2] [] pos) := fun Wx tk => by
  obtain ⟨v, u, h1, h2, h3⟩ := ht
  refine PE.imp (pe_callB call_isi hg hm boot_isi (pa_cons (ha Wx tk) (pa_cons (h1 p2) pa_nil) (star_cons hn)) (by decide) (by decide) (star_cons hn)) ?_
  rintro σ H Q ⟨ρ, st, hR, h⟩
  rw [ev] at h
  refine tE.bind hR h (fun _ _ x => x) fun va st1 v1 H1 ρ1 s1 r1 n1 h => ?_
  cases q1 : rd st1 va with
  | none =>
    rw [q1] at h
    exact h.elim
  | some w =>
    rw [q1] at h
    obtain ⟨r, e, h⟩ := wp_of h
    have hw := rd_sound s1.res r1 q1
    obtain ⟨ty, t1, t2⟩ := wr_ty (mg := X.mg) hw
    cases q2 : isiW G.sub w t with
    | none =>
      simp [q2] at e
    | some b =>
      simp [q2] at e
      subst e
      exact ⟨v1, v, ty, u, b, rfl, h2, t2, h3 w b q2 ty t1, EQ.fin h s1 (Same.refl H1) rfl⟩
theorem mapM_cons {α β : Type} {f : α → Option β} {a : α} {as : List α} {bs : List β} (h : (a :: as).mapM f = some bs) : ∃ b r, bs = b :: r ∧ f a = some b ∧ as.mapM f = some r := by
  rw [List.mapM_cons] at h
  cases q : f a with
  | none =>
    rw [q] at h
    cases h
  | some b =>
    rw [q] at h
    cases q2 : as.mapM f with
    | none =>
      rw [q2] at h
      cases h
    | some r =>
      rw [q2] at h
      cases h
      exact ⟨b, r, rfl, rfl, rfl⟩
/-- the classes of a tuple, as values -/
theorem tys_pa : ∀ {ts : List String}, (∀ t ∈ ts, TyOk X G t) → ∃ (cs : List V) (us : List Value), cs.length = ts.length ∧ Paired ClsV cs us ∧ (∀ ps : List Pos, ps.length = ts.length → PA X ((ts.zip ps).map fun q => .Name (Str.ofString q.1) q.2) (fun _ H Q => Q cs H)) ∧
    ∀ w bs, ts.mapM (isiW G.sub w) = some bs → ∀ ty, tyW X.mg w ty → PySem.W.kitAny X.K ty us = some (bs.any id)
  | [], _ => by
    refine ⟨[], [], rfl, .nil, fun ps hl => ?_, fun w bs e ty _ => ?_⟩
    · cases ps with
      | nil => exact pa_nil
      | cons p ps => cases hl
    · simp at e
      subst e
      rfl
  | t :: ts, h => by
    obtain ⟨v, u, h1, h2, h3⟩ := h t (by simp)
    obtain ⟨cs, us, g0, g1, g2, g3⟩ := tys_pa (ts := ts) fun t' ht => h t' (by simp [ht])
    refine ⟨v :: cs, u :: us, by simp [g0], .cons h2 g1, fun ps hl => ?_, fun w bs e ty k => ?_⟩
    · cases ps with
      | nil => cases hl
      | cons p ps => exact pa_cons (h1 p) (g2 ps (by simpa using hl))
    · obtain ⟨b, r, rfl, e1, e2⟩ := mapM_cons e
      refine kitAny_cons (h3 w b e1 ty k) (fun hb => ?_) fun hb => ?_
      · rw [g3 w r e2 ty k, hb]
        rfl
      · rw [hb]
        rfl
theorem se_isiT {a : E} {ea : Expr} {ts : List String} {ps : List Pos} {p p2 pos : Pos} {k : Nat} (hz : ts.length ≤ 100) (hg : Gl X "isinstance") (hm : X.mg "isinstance" = none) (hn : noStar ea = true) (ht : ∀ t ∈ ts, TyOk X G t) (hl : ps.length = ts.length) (ha : SE X G a ea) :
    SE X G (.isi a ts) (.Call (.Name "isinstance" p) [ea, .Tuple ((ts.zip ps).map fun q => .Name (Str.ofString q.1) q.2) k p2] [] pos) := fun Wx tk => by
  obtain ⟨cs, us, g0, g1, g2, g3⟩ := tys_pa ht
  refine PE.imp (pe_callB call_isiT hg hm boot_isi (pa_cons (ha Wx tk) (pa_cons (pe_tup (g2 ps hl)) pa_nil) (star_cons hn)) (by decide) (by decide) (star_cons hn)) ?_
  rintro σ H Q ⟨ρ, st, hR, h⟩
  rw [ev] at h
  refine tE.bind hR h (fun _ _ x => x) fun va st1 v1 H1 ρ1 s1 r1 n1 h => ?_
  cases q1 : rd st1 va with
  | none =>
    rw [q1] at h
    exact h.elim
  | some w =>
    rw [q1] at h
    obtain ⟨r, e, h⟩ := wp_of h
    have hlim : (100 : Nat) ≤ sizeLine := by rw [sizeLine_eq]; decide
    refine ⟨by omega, fun q hq => ?_⟩
    have s2 := Step.ext s1.res (same_new (o := .tup cs) hq)
    have hw := rd_sound s2.res (ER.step s1.res s2 r1) q1
    obtain ⟨ty, t1, t2⟩ := wr_ty (mg := X.mg) hw
    cases q2 : ts.mapM (isiW G.sub w) with
    | none =>
      simp [q2] at e
    | some bs =>
      simp [q2] at e
      subst e
      exact ⟨v1, q, cs, ty, us, _, rfl, upd_same, g1, t2, g3 w bs q2 ty t1, EQ.fin h s1 (same_new hq) rfl⟩
end

/-! ### an object is changed -/
section
variable {K : PySem.W.Frag} {ρ ρ1 ρ' : List Addr} {H H1 H' : Hp} {st st1 st' : St} {σ : L2.St}
theorem change_sound {vo r : EV} {v : V} {f : O → Option (O × EV)} (hR : Res K ρ H st σ) (hr : ER K ρ H st σ vo v) (e : change vo f st = some (r, st')) :
    ∃ p x y, v = .ref p ∧ OR K ρ H p x ∧ f x = some (y, r) ∧ ∀ H', (∀ b, b ≠ p → H' b = H b) → (Pers H H' → OR K ρ H' p y) → Step K ρ H st σ ρ H' st' σ := by
  -- what is told of a changed place
  have pers : ∀ {p : Addr} {x : O}, OR K ρ H p x → ∀ H', (∀ b, b ≠ p → H' b = H b) → Pers H H' := fun {p x} hx H' hH => by
    obtain ⟨o, e1, n1, n2⟩ := hx.there
    refine ⟨fun a xs h => ?_, fun a ob u h => ?_⟩
    · have ha : a ≠ p := fun z => by
        subst z
        rw [h] at e1
        cases e1
        exact n1 xs rfl
      rw [hH a ha]
      exact h
    · have ha : a ≠ p := fun z => by
        subst z
        rw [h] at e1
        cases e1
        exact n2 ob u rfl
      rw [hH a ha]
      exact h
  have heap : ∀ {a : Nat} {p : Addr} {x y : O}, ρ[a]? = some p → st.h[a]? = some x → OR K ρ H p x → ∀ H', (∀ b, b ≠ p → H' b = H b) → (Pers H H' → OR K ρ H' p y) → Step K ρ H st σ ρ H' { st with h := st.h.set a y } σ := fun {a p x y} ha hx hor H' hH hy => by
    have ps := pers hor H' hH
    have hy := hy ps
    have hp : p ∈ ρ := List.mem_of_getElem? ha
    refine ⟨⟨⟨by simpa using hR.hr.len, hR.hr.nd, fun i q z h1 h2 => ?_⟩, hR.len, fun i sl h => ?_, hR.sep⟩, List.prefix_refl _, fun b o e n => ?_, fun b d => .inl ?_⟩
    · by_cases hi : i = a
      · subst hi
        rw [ha] at h1
        cases h1
        have hl : i < st.h.length := (List.getElem?_eq_some_iff.mp hx).1
        rw [List.getElem?_set_self hl] at h2
        cases h2
        exact hy
      · rw [List.getElem?_set_ne (Ne.symm hi)] at h2
        have hq : q ≠ p := fun z => by
          subst z
          exact hi ((List.getElem?_inj (List.getElem?_eq_some_iff.mp h1).1 hR.hr.nd).mp (h1.trans ha.symm))
        exact OR.mono (hH q hq) ps (List.prefix_refl _) (hR.hr.obj i q z h1 h2)
    · have z := hR.sl i sl h
      cases sl with
      | un => trivial
      | d x =>
        obtain ⟨v, e1, h1⟩ := z
        exact ⟨v, e1, h1.mono ps (List.prefix_refl _) x v⟩
      | o x =>
        obtain ⟨q, e1, h1, n1⟩ := z
        exact ⟨q, e1, OR.mono (hH q fun z => n1 (z ▸ hp)) ps (List.prefix_refl _) h1, n1⟩
    · rw [hH b fun z => n (.inl (z ▸ hp))]
      exact e
    · rcases d with d | ⟨i, x, h1, h2⟩
      · exact .inl d
      · exact .inr ⟨i, x, h1, h2⟩
  cases vo with
  | d x =>
    cases x with
    | ref a =>
      obtain ⟨p, ha, rfl⟩ := hr
      simp only [change] at e
      cases q : st.h[a]? with
      | none =>
        rw [q] at e
        cases e
      | some x =>
        rw [q] at e
        simp only at e
        cases q2 : f x with
        | none =>
          rw [q2] at e
          cases e
        | some yr =>
          obtain ⟨y, r'⟩ := yr
          rw [q2] at e
          simp only [Option.some.injEq, Prod.mk.injEq] at e
          obtain ⟨rfl, rfl⟩ := e
          have hx := hR.hr.obj a p x ha q
          exact ⟨p, x, y, rfl, hx, q2, heap ha q hx⟩
    | _ => cases e
  | o x => cases e
  | it k vs => cases e
  | pl i =>
    have hi : σ[i]? = some (some v) := hr
    simp only [change] at e
    cases q : st.σ[i]? with
    | none =>
      rw [q] at e
      cases e
    | some s =>
      rw [q] at e
      have z := hR.sl i s q
      cases s with
      | un => cases e
      | d x =>
        cases x with
        | ref a =>
          obtain ⟨v', e1, p, ha, e2⟩ := z
          rw [hi] at e1
          cases e1
          subst e2
          simp only at e
          cases q1 : st.h[a]? with
          | none =>
            rw [q1] at e
            cases e
          | some x =>
            rw [q1] at e
            simp only at e
            cases q2 : f x with
            | none =>
              rw [q2] at e
              cases e
            | some yr =>
              obtain ⟨y, r'⟩ := yr
              rw [q2] at e
              simp only [Option.some.injEq, Prod.mk.injEq] at e
              obtain ⟨rfl, rfl⟩ := e
              have hx := hR.hr.obj a p x ha q1
              exact ⟨p, x, y, rfl, hx, q2, heap ha q1 hx⟩
        | _ => cases e
      | o x =>
        obtain ⟨p, e1, hx, np⟩ := z
        rw [hi] at e1
        cases e1
        simp only at e
        cases q2 : f x with
        | none =>
          rw [q2] at e
          cases e
        | some yr =>
          obtain ⟨y, r'⟩ := yr
          rw [q2] at e
          simp only [Option.some.injEq, Prod.mk.injEq] at e
          obtain ⟨rfl, rfl⟩ := e
          refine ⟨p, x, y, rfl, hx, q2, fun H' hH hy => ?_⟩
          have ps := pers hx H' hH
          have hy := hy ps
          have hlt : i < st.σ.length := (List.getElem?_eq_some_iff.mp q).1
          have old : ∀ {j : Nat} {z : O}, (st.σ.set i (.o y))[j]? = some (.o z) → (j = i ∧ z = y) ∨ (j ≠ i ∧ st.σ[j]? = some (.o z)) := fun {j z} h => by
            by_cases hj : j = i
            · subst hj
              rw [List.getElem?_set_self hlt] at h
              cases h
              exact .inl ⟨rfl, rfl⟩
            · rw [List.getElem?_set_ne (Ne.symm hj)] at h
              exact .inr ⟨hj, h⟩
          refine ⟨⟨⟨hR.hr.len, hR.hr.nd, fun j q' z h1 h2 => ?_⟩, by simpa [St.set] using hR.len, fun j sl h => ?_, fun j k a b w hjk h1 h2 h3 h4 => ?_⟩, List.prefix_refl _, fun b o e n => ?_, fun b d => .inl ?_⟩
          · exact OR.mono (hH q' fun z => np (z ▸ List.mem_of_getElem? h1)) ps (List.prefix_refl _) (hR.hr.obj j q' z h1 h2)
          · have h : (st.σ.set i (.o y))[j]? = some sl := h
            by_cases hj : j = i
            · subst hj
              rw [List.getElem?_set_self hlt] at h
              cases h
              exact ⟨p, hi, hy, np⟩
            · rw [List.getElem?_set_ne (Ne.symm hj)] at h
              have z := hR.sl j sl h
              cases sl with
              | un => trivial
              | d x =>
                obtain ⟨v, e1, h1⟩ := z
                exact ⟨v, e1, h1.mono ps (List.prefix_refl _) x v⟩
              | o x' =>
                obtain ⟨q', e1, h1, n1⟩ := z
                refine ⟨q', e1, OR.mono (hH q' fun z => ?_) ps (List.prefix_refl _) h1, n1⟩
                subst z
                exact hR.sep j i x' x q' hj h q e1 hi
          · rcases old h1 with ⟨a1, a2⟩ | ⟨a1, a2⟩ <;> rcases old h2 with ⟨b1, b2⟩ | ⟨b1, b2⟩
            · exact hjk (a1.trans b1.symm)
            · subst a1
              exact hR.sep j k x b w hjk q b2 h3 h4
            · subst b1
              exact hR.sep j k a x w hjk a2 q h3 h4
            · exact hR.sep j k a b w hjk a2 b2 h3 h4
          · rw [hH b fun z => n (.inr ⟨i, x, q, z ▸ hi⟩)]
            exact e
          · rcases d with d | ⟨j, z, h1, h2⟩
            · exact .inl d
            · rcases old h1 with ⟨a1, a2⟩ | ⟨a1, a2⟩
              · subst a1
                exact .inr ⟨j, x, q, h2⟩
              · exact .inr ⟨j, z, a2, h2⟩
end

/-! ### methods of lists -/
def notCall0 : Expr → Bool
  | .Call _ [] _ _ => false
  | _ => true
theorem base_ok {o : Expr} {m : Str} {env : Env} (h : notCall0 o = true) : attributeBase o m env (eval o env) = eval o env := by
  cases o with
  | Call f args kws pos =>
    cases args with
    | nil => cases h
    | cons a as => cases f <;> rfl
  | _ => rfl
theorem few_ok {e : Expr} {es : List Expr} {env : Env} {pos : Pos} (h : (e :: es).all noStar = true) (hl : es.length ≤ 20) :
    ((backTo pos (starEach (e :: es) env)).all (fun x => !x.1) && (backToKw pos (keywordEach [] env)).all (fun x => x.1.isSome)
      && decide ((e :: es).length + ([] : List Keyword).length + (if ([] : List Keyword).isEmpty then 0 else 1) < 30)) = true := by
  rw [star_few h]
  simp only [Bool.true_and, Bool.and_eq_true, decide_eq_true_eq]
  refine ⟨rfl, ?_⟩
  simp
  omega
section
variable {X : Cx} {G : Gam} {Wx : WX}
theorem tE.mono {f : St → Out EV} {σ : L2.St} {H : Hp} {Q Q' : VK} (h : tE X f Wx σ H Q) (q : ∀ x H1, Q x H1 → Q' x H1) : tE X f Wx σ H Q' := by
  obtain ⟨ρ, st, hR, h⟩ := h
  exact ⟨ρ, st, hR, h.mono (fun r st1 h v H1 ρ1 s hr hn => q _ _ (h v H1 ρ1 s hr hn)) fun _ _ x => x⟩
theorem tA.mono {f : St → Out (List EV)} {σ : L2.St} {H : Hp} {Q Q' : List V → Hp → Prop} (h : tA X f Wx σ H Q) (q : ∀ x H1, Q x H1 → Q' x H1) : tA X f Wx σ H Q' := by
  obtain ⟨ρ, st, hR, h⟩ := h
  exact ⟨ρ, st, hR, h.mono (fun r st1 h v H1 ρ1 s hr hn => q _ _ (h v H1 ρ1 s hr hn)) fun _ _ x => x⟩
theorem mutO_lst {m : String} {ds : List D} {o y : O} {r : EV} {H : Hp} {p : Addr} {K : PySem.W.Frag} {ρ : List Addr} (h : OR K ρ H p o) (e : mutO m ds o = some (y, r)) : ∃ xs zs d, o = .lst xs ∧ y = .lst zs ∧ r = .d d := by
  cases o with
  | lst xs =>
    simp only [mutO] at e
    split at e
    · split at e
      · cases e
        exact ⟨_, _, _, rfl, rfl, rfl⟩
      · cases e
    · cases e
      exact ⟨_, _, _, rfl, rfl, rfl⟩
    · split at e
      · cases e
        exact ⟨_, _, _, rfl, rfl, rfl⟩
      · cases e
    · cases e
  | dct kvs => exact h.elim
  | ins c fs => exact h.elim
theorem tE_meth {m : String} {o : E} {ms : List E} {σ : L2.St} {H : Hp} {Q : VK} (hl : isLook m = false) (hk : ∀ w, methOk m ms.length w = true → ∃ xs, w = .o (.lst xs)) (h : tE X (ev G (.meth m o ms)) Wx σ H Q) :
    tE X (ev G o) Wx σ H (fun x H1 => tyV X.K "list" x H1 ∧ tA X (evs G ms) Wx σ H1 fun vs H2 => ∃ (p : Addr) (xs ds zs : List D) (d : D) (ρ2 : List Addr) (xv : List V), x = .ref p ∧ vs.length = ms.length ∧ H2 p = some (.lst xv) ∧ VRs X.K ρ2 H2 xs xv ∧ VRs X.K ρ2 H2 ds vs ∧ mutO m ds (.lst xs) = some (.lst zs, .d d) ∧
      ∀ ws v, (∀ H', Pers H2 H' → VRs X.K ρ2 H' zs ws) → (∀ H', Pers H2 H' → VR X.K ρ2 H' d v) → Q v (upd H2 p (.lst ws))) := by
  obtain ⟨ρ, st, hR, h⟩ := h
  rw [ev] at h
  refine tE.bind hR h (fun _ _ x => x) fun vo st1 v1 H1 ρ1 s1 r1 n1 h => ?_
  split at h
  · rename_i hk1
    refine ⟨?_, ?_⟩
    · cases q : rd st1 vo with
      | none =>
        rw [q] at hk1
        cases hk1
      | some w =>
        rw [q] at hk1
        obtain ⟨xs, rfl⟩ := hk w hk1
        obtain ⟨p, rfl, vs, h1, h2⟩ := rd_sound s1.res r1 q
        exact .inl ⟨rfl, vs, .of h1⟩
    · refine tA.bindE s1.res h (fun _ _ x => x.back s1) fun rs st2 vs H2 ρ2 e0 s2 r2 n2 h => ?_
      obtain ⟨ds, st3, e, h⟩ := wp_of2 (Wp.bind.mp h)
      obtain ⟨ρ3, s3, _, hv⟩ := toDs_sound s2 r2 n2 e
      rw [if_neg (by rw [hl]; decide)] at h
      obtain ⟨r, st4, e4, h⟩ := wp_of2 h
      have r1' := ER.step s1.res s3 r1
      obtain ⟨p, o', y, rfl, ho, hf, k⟩ := change_sound s3.res r1' e4
      obtain ⟨xs, zs, d, rfl, rfl, rfl⟩ := mutO_lst ho hf
      obtain ⟨xv, g1, g2⟩ := ho
      refine ⟨p, xs, ds, zs, d, ρ3, xv, rfl, ?_, g1, g2, hv, hf, fun ws v a1 a2 => ?_⟩
      · have l1 := hv.length
        rw [l1, toDs_length e, evs_length e0]
      · have s4 := k (upd H2 p (.lst ws)) (fun b hb => upd_ne hb) fun ps => ⟨ws, upd_same, a1 _ ps⟩
        exact h v _ ρ3 ((s1.trans s3).trans s4) (a2 _ (Step.pers s3.res s4)) fun x p e _ => nomatch e
  · exact h.elim
theorem VRs.len1 {K : PySem.W.Frag} {ρ : List Addr} {H : Hp} {ds : List D} {vs : List V} (h : VRs K ρ H ds vs) {β : Type} {y : β} (hl : vs.length = [y].length) : ∃ d v, ds = [d] ∧ vs = [v] ∧ VR K ρ H d v := by
  have e := h.length
  rw [hl] at e
  cases ds with
  | nil => cases e
  | cons d ds =>
    cases ds with
    | nil =>
      obtain ⟨v, r, rfl, h1, h2⟩ := h
      have e2 : r = [] := h2
      subst e2
      exact ⟨d, v, rfl, rfl, h1⟩
    | cons d' ds => simp at e
theorem VRs.pers {K : PySem.W.Frag} {ρ : List Addr} {H H' : Hp} {ds : List D} {vs : List V} (h : VRs K ρ H ds vs) (p : Pers H H') : VRs K ρ H' ds vs := h.mono p (List.prefix_refl _) ds vs
theorem se_append {o a : E} {eo ea : Expr} {apos pos : Pos} (hb : notCall0 eo = true) (hn : noStar ea = true) (hline : (apos.endLine == pos.line) = true) (ho : SE X G o eo) (ha : SE X G a ea) :
    SE X G (.meth "append" o [a]) (.Call (.Attribute eo "append" apos) [ea] [] pos) := fun Wx tk => by
  refine PE.imp (pe_bm PySem.F.plainAttrs_list PySem.F.slot_list_append PySem.F.type_list_append mt_append (ho Wx tk) (sa_cons (star_cons hn) ha sa_nil Wx tk) (base_ok hb) (few_ok (by simp [hn]) (by simp)) hline (star_cons hn)) ?_
  intro σ H Q h
  have hlim := lim_line
  refine tE.mono (tE_meth rfl (fun w e => ?_) h) fun x H1 ⟨h1, h2⟩ => ⟨h1, tA.mono h2 fun vs H2 h3 => ?_⟩
  · cases w with
    | d d => cases d <;> simp [methOk] at e
    | o o =>
      cases o with
      | lst xs => exact ⟨xs, rfl⟩
      | dct kvs => simp [methOk] at e
      | ins c fs => simp [methOk] at e
  · obtain ⟨p, xs, ds, zs, d, ρ2, xv, rfl, hl, g1, g2, g3, g4, k⟩ := h3
    obtain ⟨y, v, rfl, rfl, hy⟩ := g3.len1 hl
    simp only [mutO] at g4
    split at g4
    · rename_i hz
      cases g4
      have l2 := g2.length
      exact ⟨p, xv, v, rfl, rfl, g1, by omega, k _ _ (fun H' ps => (g2.pers ps).append (.cons (hy.mono ps (List.prefix_refl _) y v) .nil)) fun H' ps => rfl⟩
    · cases g4
theorem se_clear {o : E} {eo : Expr} {apos pos : Pos} (hb : notCall0 eo = true) (hline : (apos.endLine == pos.line) = true) (ho : SE X G o eo) :
    SE X G (.meth "clear" o []) (.Call (.Attribute eo "clear" apos) [] [] pos) := fun Wx tk => by
  refine PE.imp (pe_bm0 PySem.F.plainAttrs_list PySem.F.slot_list_clear PySem.F.type_list_clear mt_clear (ho Wx tk) (base_ok hb) hline) ?_
  intro σ H Q h
  refine tE.mono (tE_meth rfl (fun w e => ?_) h) fun x H1 ⟨h1, h2⟩ => ⟨h1, ?_⟩
  · cases w with
    | d d => cases d <;> simp [methOk] at e
    | o o =>
      cases o with
      | lst xs => exact ⟨xs, rfl⟩
      | dct kvs => simp [methOk] at e
      | ins c fs => simp [methOk] at e
  · obtain ⟨ρ, st, hR, h2⟩ := h2
    simp only [evs] at h2
    obtain ⟨p, xs, ds, zs, d, ρ2, xv, rfl, hl, g1, g2, g3, g4, k⟩ := h2 [] H1 ρ (Step.refl hR) rfl (fun j x p e => by simp at e)
    have e : ds = [] := g3.eq_nil.mp rfl
    subst e
    simp only [mutO] at g4
    cases g4
    exact ⟨p, xv, rfl, rfl, g1, k _ _ (fun H' ps => rfl) fun H' ps => rfl⟩
theorem se_pop {o : E} {eo : Expr} {apos pos : Pos} (hb : notCall0 eo = true) (hline : (apos.endLine == pos.line) = true) (ho : SE X G o eo) :
    SE X G (.meth "pop" o []) (.Call (.Attribute eo "pop" apos) [] [] pos) := fun Wx tk => by
  refine PE.imp (pe_bm0 PySem.F.plainAttrs_list PySem.F.slot_list_pop PySem.F.type_list_pop mt_pop (ho Wx tk) (base_ok hb) hline) ?_
  intro σ H Q h
  refine tE.mono (tE_meth rfl (fun w e => ?_) h) fun x H1 ⟨h1, h2⟩ => ⟨h1, ?_⟩
  · cases w with
    | d d => cases d <;> simp [methOk] at e
    | o o =>
      cases o with
      | lst xs => exact ⟨xs, rfl⟩
      | dct kvs => simp [methOk] at e
      | ins c fs => simp [methOk] at e
  · obtain ⟨ρ, st, hR, h2⟩ := h2
    simp only [evs] at h2
    obtain ⟨p, xs, ds, zs, d, ρ2, xv, rfl, hl, g1, g2, g3, g4, k⟩ := h2 [] H1 ρ (Step.refl hR) rfl (fun j x p e => by simp at e)
    have e : ds = [] := g3.eq_nil.mp rfl
    subst e
    simp only [mutO] at g4
    split at g4
    · rename_i y hy
      cases g4
      have hy' : xs[xs.length - 1]? = some d := by rw [← List.getLast?_eq_getElem?]; exact hy
      obtain ⟨v, e1, e2⟩ := g2.get hy'
      have l := g2.length
      refine ⟨p, xv, v, rfl, rfl, g1, by rw [l]; exact e1, k _ _ (fun H' ps => ?_) fun H' ps => e2.mono ps (List.prefix_refl _) d v⟩
      rw [List.dropLast_eq_take, List.dropLast_eq_take, l]
      exact (g2.pers ps).take _
    · cases g4
end
end EW

-- part: RevT
set_option maxHeartbeats 2000000
/-! tuple(reversed(tuple)) -/
namespace EW
open PySem PySem.Spec PyProof.Rows RT
theorem nolen_rt : typeLookup (.type "reversed") "__len__" = pure none := by rw [typeLookup_type, builtinLookup_eq_fast]; kernel_rfl
theorem hint_rt : typeLookup (.type "reversed") "__length_hint__" = pure (some (.builtin "reversed.__length_hint__")) := by rw [typeLookup_type, builtinLookup_eq_fast]; kernel_rfl
theorem slot_rt_hint : Slot "reversed" "__length_hint__" "reversed.__length_hint__" :=
  .of (owner := "reversed") (n := "__length_hint__") (by rw [typeLookup_type, builtinLookup_eq_fast]; kernel_rfl) (by decide +kernel) (by decide +kernel) (by decide +kernel)
    (by first | exact .inl (by decide +kernel) | exact .inr (by decide +kernel)) (by rw [isSubtype_type]; kernel_rfl)
theorem entry_rt_hint : entryFor table "reversed.__length_hint__" = some Builtin.«reversed.__length_hint__» := entryFor_of_tree (by kernel_rfl)
theorem args_rt_hint (a : Value) : argsOk "reversed.__length_hint__" ⟨[a], []⟩ := by
  unfold argsOk; rw [signature?_of (id := "reversed.__length_hint__") (n := ['_', '_', 't', 'n', 'i', 'h', '_', 'h', 't', 'g', 'n', 'e', 'l', '_', '_']) (o := ['d', 'e', 's', 'r', 'e', 'v', 'e', 'r']) (by kernel_rfl) owner_rt]; kernel_rfl
section
variable {prog : Program} {w : World} {A : Around} {E : Value → Shared → Prop} {s : Shared}
theorem call_hint {it t : Addr} {items : Array Value} {Q : Value → Shared → Prop} (hit : IsRt s.heap it t ((items.size : Int) - 1)) (ht : IsTup s.heap t items) (hsz : items.size ≤ sizeLine)
    (h : ∀ (n : Nat) tk tk', n ≤ sizeLine → Q (.int (n : Int) tk) { s with toks := tk' }) : wpAny (model prog w) A (call (.builtin "reversed.__length_hint__") [.ref it]) Q E s := by
  obtain ⟨o, ho, hc, hd⟩ := id hit
  have hsz0 := hsz
  rw [sizeLine_eq] at hsz
  refine wpAny_call_entry slot_rt_hint hit.typeIs entry_rt_hint ?_ (args_rt_hint _)
  unfold Builtin.«reversed.__length_hint__»
  refine wpAny_bind (wpAny_of_eq (a := Value.ref it) rfl ?_)
  try dsimp only
  refine wpAny_bind (wpAny_field ho hd (x := .ref t) rfl ?_)
  try dsimp only
  rw [if_neg (by simp)]
  refine wpAny_bind (len_tuple ht (by omega) ?_)
  refine wpAny_bind (m := asInt? (.int (items.size : Int) _)) (wpAny_pure ?_)
  dsimp only
  refine wpAny_bind (wpAny_field (s := { s with toks := s.toks + 1 + 1 }) ho hd (x := rawInt ((items.size : Int) - 1)) rfl ?_)
  show wpAny _ _ (if (items.size : Int) < (items.size : Int) - 1 + 1 then _ else _) _ _ _
  rw [if_neg (by omega)]
  have e : (items.size : Int) - 1 + 1 = (items.size : Int) := by omega
  rw [e]
  refine wpAny_bind (wpAny_mkInt ?_)
  exact wpAny_pure ⟨_, rfl, h _ _ _ hsz0⟩
theorem hint_ok {it t : Addr} {items : Array Value} {Q : Bool → Shared → Prop} (hit : IsRt s.heap it t ((items.size : Int) - 1)) (ht : IsTup s.heap t items) (hsz : items.size ≤ sizeLine)
    (h : ∀ b tk, Q b { s with toks := tk }) : wpAny (model prog w) A (Builtin.List.listLengthHint (.ref it)) Q E s := by
  have hT := hit.typeIs
  unfold Builtin.List.listLengthHint
  refine wpAny_bind (wpAny_specialOf hT nolen_rt ?_)
  show wpAny _ A (specialOf (Value.ref it) (Str.ofString "__length_hint__") >>= _) _ _ _
  refine wpAny_bind (wpAny_specialOf hT hint_rt ?_)
  generalize hid : ("reversed.__length_hint__" : String) = id0
  wp_delta
  rw [show splitId id0 = some ("reversed", "__length_hint__") from by subst hid; decide +kernel]
  subst hid
  refine wpAny_bind (wpAny_isInstance (b := true) hT (by rw [isSubtype_type]; kernel_rfl) ?_)
  rw [if_neg (by decide)]
  dsimp only
  rw [if_neg (by decide +kernel)]
  refine wpAny_bind (wpAny_rule ?_)
  refine wpAny_bind ?_
  rw [slot_rt_hint.bind]
  refine wpAny_pure ?_
  dsimp only
  refine wpAny_bind (wpAny_attempt (call_hint hit ht hsz fun n tk tk' hn => ?_))
  have hn2 := hn
  rw [sizeLine_eq] at hn
  have e1 : (!Builtin.List.listFitsIndex (n : Int)) = false := by rw [fitsIndex_both (by omega) (by omega)]; rfl
  have e2 : ¬ ((n : Int) < 0) := by omega
  have e3 : Builtin.List.listTooLong (n : Int).toNat = false := by rw [Int.toNat_natCast, L2.notLongL hn2]
  generalize (n : Int) = z at *
  refine wpAny_bind (m := asInt? (.int z tk)) (wpAny_pure ?_)
  dsimp only
  rw [e1, if_neg (by decide), if_neg e2, e3, if_neg (by decide)]
  exact wpAny_pure (h _ _)
theorem Walks.tupRev (hh : A.handled = none) (I l : Addr) (hne : l ≠ I) (items : Array Value) (hsz : items.size ≤ sizeLine) :
    Walks prog w A I [I, l] [I] items.size (fun i v => items[items.size - 1 - i]? = some v) (fun i h => i ≤ items.size ∧ IsRt h I l ((items.size : Int) - 1 - (i : Int)) ∧ IsTup h l items) where
  sub := fun b hb => by simp at hb; simp [hb]
  frame := fun _ _ _ x hk => ⟨x.1, x.2.1.at fun o e => hk I (by simp) o e, by
    obtain ⟨o, e1, e2⟩ := x.2.2
    exact ⟨o, hk l (by simp) o e1, e2⟩⟩
  item := fun i s Q E hi x hQ => by
    have e : (items.size : Int) - 1 - (i : Int) = ((items.size - 1 - i : Nat) : Int) := by omega
    have hit := x.2.1
    rw [e] at hit
    have hx : items[items.size - 1 - i]? = some (items[items.size - 1 - i]'(by omega)) := Array.getElem?_eq_getElem (by omega)
    refine next_rt_item hit x.2.2 hx hsz fun h' hit' hs' => ?_
    have e2 : ((items.size - 1 - i : Nat) : Int) - 1 = (items.size : Int) - 1 - ((i + 1 : Nat) : Int) := by omega
    rw [e2] at hit'
    refine hQ _ h' (s.toks + 1) hx ⟨hi, hit', ?_⟩ fun b o hb eo => hs'.extBut b o (fun h => hb (by simp [h])) eo
    obtain ⟨o, e1, e2⟩ := x.2.2
    exact ⟨o, (hs'.2 l hne).trans e1, e2⟩
  done := fun s Q E x hQ => by
    have e : (items.size : Int) - 1 - (items.size : Int) = -1 := by omega
    have hit := x.2.1
    rw [e] at hit
    exact next_rt_end hh hit fun h' he' => hQ h' s.toks fun b o hb eo => he' b o (fun h => hb (by simp [h])) eo
  self := fun _ _ _ _ x hQ => iter_rt x.2.1 hQ
theorem collect_revT {it l : Addr} {items : Array Value} {Q : List Value → Shared → Prop} (hh : A.handled = none) (hit : IsRt s.heap it l ((items.size : Int) - 1)) (hl : IsTup s.heap l items) (hne : l ≠ it) (hn : items.size ≤ sizeLine)
    (hQ : ∀ (h' : Heap) (tk : Nat) (acc : Array Value), (∀ b o, b ≠ it → s.heap.get? b = some o → h'.get? b = some o) → ItemsOf (fun i v => items[items.size - 1 - i]? = some v) acc items.size → Q acc.toList { s with heap := h', toks := tk }) :
    wpAny (model prog w) A (collect (.ref it)) Q E s := by
  have W := (Walks.tupRev (prog := prog) (w := w) (A := A.in1) hh it l hne items hn).toS
  obtain ⟨oi, hoi, _⟩ := id hit
  obtain ⟨ol, hol, _⟩ := id hl
  have hSi : s.heap.objs.size ≠ it := Nat.ne_of_gt (Heap.lt_size hoi)
  have hSl : s.heap.objs.size ≠ l := Nat.ne_of_gt (Heap.lt_size hol)
  have hSf : s.heap.objs.size ∉ [it, l] := by simp only [List.mem_cons, List.not_mem_nil, or_false, not_or]; exact ⟨hSi, hSl⟩
  unfold collect
  refine wpAny_bind (wpAny_runValue (codeAny_builtin F.entry_proto_collect ?_))
  rw [Around.under_plainId F.plain_proto_collect _]
  show wpAny _ A.in1 (newList [] >>= fun l' => again (.builtin "list.__iadd__" ⟨[l', .ref it], []⟩)) _ _ s
  refine wpAny_bind (wpAny_newObj_type ?_)
  refine wpAny_pure ⟨plainId_quiet F.plain_list_iadd _, codeAny_builtin F.entry_list_iadd ?_⟩
  rw [Around.under_plainId F.plain_list_iadd _]
  have hS₁ : (s.heap.push { cls := .type "list", data := .seq ([] : List Value).toArray }).get? s.heap.objs.size = some { cls := .type "list", data := .seq ([] : List Value).toArray } := Heap.get?_push_size _ rfl
  have kp : ∀ b o, s.heap.get? b = some o → (s.heap.push { cls := .type "list", data := .seq ([] : List Value).toArray }).get? b = some o := fun b o e => Heap.get?_push_of_some _ e
  have hit1 : IsRt (s.heap.push { cls := .type "list", data := .seq ([] : List Value).toArray }) it l ((items.size : Int) - 1) := hit.at fun o e => kp _ _ e
  have hl1 : IsTup (s.heap.push { cls := .type "list", data := .seq ([] : List Value).toArray }) l items := by
    obtain ⟨o, e1, e2⟩ := hl
    exact ⟨o, kp _ _ e1, e2⟩
  have hT : ({ s with heap := s.heap.push { cls := .type "list", data := .seq ([] : List Value).toArray } } : Shared).TypeIs (.ref it) "reversed" := IsRt.typeIs (s := { s with heap := s.heap.push { cls := .type "list", data := .seq ([] : List Value).toArray } }) hit1
  have h1 : Builtin.List.listSameRef (.ref s.heap.objs.size) (.ref it) = false := by simp [Builtin.List.listSameRef, hSi]
  show wpAny _ A.in1 (Builtin.List.listExtendWith (.ref s.heap.objs.size) (.ref it) (.ref s.heap.objs.size)) _ _ _
  unfold Builtin.List.listExtendWith
  refine wpAny_bind (wpAny_typeOf hT ?_)
  rw [if_neg (by rw [h1]; decide)]
  refine wpAny_bind (iter_rt (s := { s with heap := s.heap.push { cls := .type "list", data := .seq ([] : List Value).toArray } }) hit1 ?_)
  refine wpAny_bind (wpAny_holding (hint_ok (s := { s with heap := s.heap.push { cls := .type "list", data := .seq ([] : List Value).toArray } }) hit1 hl1 hn fun b tk => ?_))
  have e0 : ((items.size : Nat) : Int) - 1 - ((0 : Nat) : Int) = (items.size : Int) - 1 := by omega
  have fin : ∀ (h1 : Heap) (tk : Nat) (s' : Shared) (acc' : Array Value) (c' : Nat), (∀ b o, b ≠ s.heap.objs.size → (s.heap.push { cls := .type "list", data := .seq ([] : List Value).toArray }).get? b = some o → h1.get? b = some o) →
      Moved (s.heap.objs.size :: [it]) (fun a b => b = a) { s with heap := h1, toks := tk } s' → s'.heap.get? s.heap.objs.size = some { cls := .type "list", dict := none, data := .seq acc' c', slots := #[] } → ItemsOf (fun i v => items[items.size - 1 - i]? = some v) acc' items.size →
      wpAny (model prog w) A (load s.heap.objs.size >>= fun o => match o.data with
        | .seq xs _ => pure xs.toList
        | _ => unsupported "internal:collect") Q E s' := fun h1 tk s' acc' c' kp1 hm hS' hacc => by
    refine wpAny_bind (wpAny_load hS' ?_)
    refine wpAny_pure ?_
    rw [Moved.eq_with hm]
    refine hQ s'.heap s'.toks acc' (fun b o hb e => hm.heap b o (fun hmem => ?_) (kp1 b o (Nat.ne_of_lt (Heap.lt_size e)) (kp b o e))) hacc
    rcases List.mem_cons.mp hmem with e' | hmem
    · exact absurd (Heap.lt_size e) (by rw [e']; exact Nat.lt_irrefl _)
    · exact hb (List.mem_singleton.mp hmem)
  cases b with
  | false =>
    rw [if_neg (by decide +kernel)]
    refine wpAny_pure ⟨plainId_quiet F.plain_extend_loop _, codeAny_extend_loopS W hn _ hSf _ items.size 0 _ _ _ rfl (Nat.zero_le _) ⟨Nat.zero_le _, by rw [e0]; exact hit1, hl1⟩ hS₁ (ItemsOf.nil _) fun s' acc' c' hm hS' hacc => ?_⟩
    exact fin _ tk s' acc' c' (fun _ _ _ e => e) hm hS' hacc
  | true =>
    rw [if_pos (by simp)]
    refine wpAny_bind (wpAny_rule ?_)
    refine wpAny_bind ?_
    show wpAny _ A.in1 (updateSeq s.heap.objs.size (·.push .none) >>= fun _ => updateSeq s.heap.objs.size (·.pop)) _ _ _
    refine wpAny_bind (wpAny_updateSeq hS₁ rfl ?_)
    have hS₂ := Heap.get?_update_self (Obj.mapSeq (·.push Value.none)) hS₁ rfl
    refine wpAny_updateSeq hS₂ rfl ?_
    have hS₃ := Heap.get?_update_self (Obj.mapSeq (·.pop)) hS₂ rfl
    have oth : ∀ b o, b ≠ s.heap.objs.size → (s.heap.push { cls := .type "list", data := .seq ([] : List Value).toArray }).get? b = some o →
        (((s.heap.push { cls := .type "list", data := .seq ([] : List Value).toArray }).update s.heap.objs.size (Obj.mapSeq (·.push Value.none))).update s.heap.objs.size (Obj.mapSeq (·.pop))).get? b = some o :=
      fun b o hb e => (Heap.get?_update_other _ _ (Ne.symm hb)).trans ((Heap.get?_update_other _ _ (Ne.symm hb)).trans e)
    refine wpAny_pure ⟨plainId_quiet F.plain_extend_loop _, codeAny_extend_loopS W hn _ hSf _ items.size 0 _ _ _ rfl (Nat.zero_le _) ⟨Nat.zero_le _, by
      rw [e0]
      exact hit1.at fun o e => oth _ _ (Ne.symm hSi) e, by
      obtain ⟨o, e1, e2⟩ := hl1
      exact ⟨o, oth _ _ (Ne.symm hSl) e1, e2⟩⟩ hS₃ (ItemsOf.nil _) fun s' acc' c' hm hS' hacc => ?_⟩
    exact fin _ tk s' acc' c' oth hm hS' hacc
theorem code_tuple_new_revT {it l : Addr} {items : Array Value} {Q₁ : Value → Shared → Prop} (hh : A.handled = none) (hit : IsRt s.heap it l ((items.size : Int) - 1)) (hl : IsTup s.heap l items) (hne : l ≠ it) (hn : items.size ≤ sizeLine)
    (h : ∀ (h' : Heap) (tk : Nat) (acc : Array Value), (∀ b o, b ≠ it → s.heap.get? b = some o → h'.get? b = some o) → ItemsOf (fun i v => items[items.size - 1 - i]? = some v) acc items.size →
      Q₁ (.ref h'.objs.size) { s with heap := h'.push { cls := .type "tuple", data := .seq acc }, toks := tk }) :
    codeAny (model prog w) A (.call (.builtin "tuple.__new__") ⟨[.type "tuple", .ref it], []⟩) (wants Q₁ E) s := by
  refine codeAny_of_tree ?_
  show wpAny _ A.in1 (do checkBuiltinCall "tuple.__new__" ⟨[.type "tuple", .ref it], []⟩; again (.builtin "tuple.__new__" ⟨[.type "tuple", .ref it], []⟩)) _ _ s
  refine wpAny_bind (wpAny_of_eq (F.newCall_tuple_1 _) (wpAny_pure ⟨plainId_quiet F.plain_tuple_new _, codeAny_builtin F.entry_tuple_new ?_⟩))
  rw [Around.under_plainId F.plain_tuple_new _]
  have hsub := sub_tuple_self
  have hinit := init_tuple_lookup
  have hmh := madeHere_tuple
  have hTI : s.TypeIs (.ref it) "reversed" := hit.typeIs
  have hh1 : A.in1.handled = none := hh
  wp_walk using wpAny_typeOf hTI, collect_revT (A := A.in1) hh1 hit hl hne hn
  intro h' tk acc hk hacc
  show wpAny _ _ (Builtin.Tuple.tupleExact acc.toList.toArray >>= fun v => ret v) _ _ _
  unfold Builtin.Tuple.tupleExact
  refine wpAny_bind (wpAny_newObj_type ?_ (by show acc.toList.toArray.size ≤ sizeLine; simp only [Array.toArray_toList]; rw [hacc.1]; exact hn))
  refine wpAny_pure ?_
  have e : acc.toList.toArray = acc := by simp
  rw [e]
  exact h h' tk acc hk hacc
theorem call_tuple_revT {it l : Addr} {items : Array Value} {Q : Value → Shared → Prop} (hh : A.handled = none) (hit : IsRt s.heap it l ((items.size : Int) - 1)) (hl : IsTup s.heap l items) (hne : l ≠ it) (hn : items.size ≤ sizeLine)
    (hQ : ∀ (h' : Heap) (tk : Nat) (acc : Array Value), (∀ b o, b ≠ it → s.heap.get? b = some o → h'.get? b = some o) → ItemsOf (fun i v => items[items.size - 1 - i]? = some v) acc items.size →
      Q (.ref h'.objs.size) { s with heap := h'.push { cls := .type "tuple", data := .seq acc }, toks := tk }) :
    wpAny (model prog w) A (call (.type "tuple") [.ref it]) Q E s := by
  refine callType_codes (Q₁ := fun obj s₁ => s₁.TypeIs obj "tuple" ∧ Q obj s₁) F.called_tuple (F.typeCall_tuple_1 _) F.entry_object_init
    (code_tuple_new_revT (A := A.in1) hh hit hl hne hn fun h' tk acc hk hacc => ⟨⟨_, Heap.get?_push_size _ rfl, rfl⟩, hQ h' tk acc hk hacc⟩) fun obj s₁ h₁ => ?_
  exact ⟨h₁.1, F.args_object_init_2 obj _, object_init_meets F.called_tuple.init.lookup F.called_tuple.made (by decide) prog w A.in1 _ s₁ ⟨h₁.1, rfl, h₁.2⟩⟩
end
end EW
namespace EW
open PySem PySem.Spec PyProof.Rows L2 RT
def tTupRevT (K : PySem.W.Frag) (te : TE) : TE := fun σ H Q => te σ H fun v H1 => ∃ (a : Addr) (xs : List V), v = .ref a ∧ SqT K H1 a xs ∧ ∀ q, H1 q = none → Q (.ref q) (upd H1 q (.tup xs.reverse))
theorem pe_tupRevT {X : Cx} {e : Expr} {te : TE} {p p2 pos pos2 : Pos} (hc : X.calm = true) (hg : Gl X "tuple") (hm : X.mg "tuple" = none) (hg2 : Gl X "reversed") (hm2 : X.mg "reversed" = none) (he : PE X e te)
    (hs : starEach [e] X.env = (false, eval e X.env) :: starEach [] X.env := by rfl)
    (hs2 : starEach [.Call (.Name "reversed" p2) [e] [] pos2] X.env = (false, eval (.Call (.Name "reversed" p2) [e] [] pos2) X.env) :: starEach [] X.env := by rfl) :
    PE X (.Call (.Name "tuple" p) [.Call (.Name "reversed" p2) [e] [] pos2] [] pos) (tTupRevT X.K te) := by
  refine ⟨fun pins s σ H Q I h => ?_⟩
  refine Call_ (ld_blt I hg hm boot_tuple (PyProof.Rows.callWith_type1 (args_cons (Call_ (ld_blt I hg2 hm2 PyProof.Rows.boot_reversed (PyProof.Rows.callWith_type1 (args_cons (thn (he.run pins s σ H _ I h) fun u s1 ⟨v, H1, I1, r1, q1⟩ => args_nil ?_) hs) hs rfl))) hs2) hs2 rfl))
  obtain ⟨a, xs, ev, hq, q⟩ := q1
  subst ev
  obtain rfl : u = Value.ref a := r1
  obtain ⟨its, rv, p', hz⟩ := I1.tuple hq
  have hl := rv.length
  have hn' := line63
  have hn : its.toArray.size ≤ sizeLine := by rw [List.size_toArray, ← rv.length]; exact hz
  refine call_reversed_tup p' (fun A E Q k => len_tuple p' (by simp only [List.size_toArray] <;> omega) k) (args_nil ?_)
  have k0 : ∀ b o, s1.heap.get? b = some o → (s1.heap.push (rtObj a ((its.toArray.size : Int) - 1))).get? b = some o := fun b o e => Heap.get?_push_of_some _ e
  have I2 : Inv X pins σ H1 { s1 with heap := s1.heap.push (rtObj a ((its.toArray.size : Int) - 1)), toks := s1.toks + 1 + 1 } := I1.kept (t' := s1.toks + 1 + 1) k0
  obtain ⟨f0, f1, f2, f3, f4, f5⟩ := I1.fpOk (H' := H1) (b := s1.heap.objs.size) (Nat.le_refl _) (I1.hok.fresh (Nat.le_refl _))
  obtain ⟨ol, hol, hol2⟩ := id p'
  have hne : a ≠ s1.heap.objs.size := Nat.ne_of_lt (Heap.lt_size hol)
  refine call_tuple_revT (s := { s1 with heap := s1.heap.push (rtObj a ((its.toArray.size : Int) - 1)), toks := s1.toks + 1 + 1 }) (I1.ok.hd hc) ⟨_, Heap.get?_push_size _ rfl, rfl, rfl⟩ ⟨ol, k0 _ _ hol, hol2⟩ hne hn fun h' tk acc hk hi => ?_
  have I3 : Inv X pins σ H1 { s1 with heap := h', toks := tk } := I2.turned (t' := tk) (fun b o hb e => hk b o hb e) f0 f1 f3 f4 f5
  refine ⟨.ref h'.objs.size, upd H1 h'.objs.size (.tup xs.reverse), I3.laid (t' := tk) (fun c o e => Heap.get?_push_of_some _ e) (Nat.le_refl _) (show ObjOk X.prog X.w _ _ _ (.tup xs.reverse) from ⟨by rw [List.length_reverse]; exact hz, acc.toList, vals_rev rv hi, ?_⟩), rfl, q _ (I3.hok.fresh (Nat.le_refl _))⟩
  rw [Array.toArray_toList]
  exact IsTup.new _ _
end EW

-- part: Sound11
set_option maxHeartbeats 1000000
/-! the check of expressions, and that it is sound -/
namespace EW
open PySem PySem.Spec PyProof.Rows L2
section
variable {X : Cx} {G : Gam} {Wx : WX}
def tyBi (t : String) : Bool := t == "int" || t == "bool" || t == "str" || t == "tuple" || t == "list" || t == "dict"
theorem tyOk_bi {t : String} (ht : tyBi t = true) (hg : Gl X (Str.ofString t)) (hm : X.mg (Str.ofString t) = none) : TyOk X G t := by
  have key : ∀ (n : String), bootBuiltins (Str.ofString n) = some (.type n) → Str.ofString n ≠ "__name__" → (Str.ofString n == ("__debug__" : Str)) = false → Gl X (Str.ofString n) → X.mg (Str.ofString n) = none →
      (kitB "NoneType" n = some false) → (kitB "bool" n = some (n == "bool" || n == "int")) → (kitB "int" n = some (n == "int")) → (kitB "str" n = some (n == "str")) → (kitB "tuple" n = some (n == "tuple")) → (kitB "list" n = some (n == "list")) → (kitB "dict" n = some (n == "dict")) → TyOk X G n := by
    intro n hb h1 h2 hg hm k1 k2 k3 k4 k5 k6 k7
    refine ⟨.ty n, .type n, fun pos => pe_bltn hg hm hb rfl h1 h2, .ty n, fun w b e ty hty => ?_⟩
    cases w with
    | d d =>
      cases d with
      | non =>
        cases hty
        cases e
        exact kit_ty k1
      | bl b =>
        cases hty
        cases e
        exact kit_ty k2
      | int b =>
        cases hty
        cases e
        exact kit_ty k3
      | str b =>
        cases hty
        cases e
        exact kit_ty k4
      | tup b =>
        cases hty
        cases e
        exact kit_ty k5
      | fz b =>
        cases hty
        cases e
        exact kit_ty k6
      | ref a => exact hty.elim
      | exn c => exact hty.elim
    | o o =>
      cases o with
      | lst b =>
        cases hty
        cases e
        exact kit_ty k6
      | dct b =>
        cases hty
        cases e
        exact kit_ty k7
      | ins c f => exact hty.elim
  unfold tyBi at ht
  simp only [Bool.or_eq_true, beq_iff_eq] at ht
  rcases ht with ((((rfl | rfl) | rfl) | rfl) | rfl) | rfl
  all_goals exact key _ (by decide +kernel) (by decide +kernel) (by decide +kernel) hg hm (by decide +kernel) (by decide +kernel) (by decide +kernel) (by decide +kernel) (by decide +kernel) (by decide +kernel) (by decide +kernel)
theorem pt_ife {c a b : Expr} {tc ta tb : TT} {pos : Pos} (hc : PT X c tc) (ha : PT X a ta) (hb : PT X b tb) : PT X (.IfExp c a b pos) (fun σ H Q => tc σ H fun k H1 => if k = true then ta σ H1 Q else tb σ H1 Q) := by
  refine ⟨fun pins s σ H Q I h => ?_⟩
  rw [PySem.isTrue]
  refine wpAny_bind (thn (hc.run pins s σ H _ I h) fun k s1 ⟨H1, I1, q1⟩ => ?_)
  cases k with
  | true => exact ha.run pins s1 σ H1 Q I1 q1
  | false => exact hb.run pins s1 σ H1 Q I1 q1
theorem st_ife {c a b : E} {ec ea eb : Expr} {pos : Pos} (hc : ST X G c ec) (ha : ST X G a ea) (hb : ST X G b eb) : ST X G (.ife c a b) (.IfExp ec ea eb pos) := fun Wx tk => by
  refine PT.imp (pt_ife (hc Wx tk) (ha Wx tk) (hb Wx tk)) ?_
  rintro σ H Q ⟨ρ, st, hR, h⟩
  simp only [tst] at h
  refine tB.bind hR h (fun _ _ x => x) fun t st1 H1 ρ1 s1 h => ?_
  cases t with
  | true => exact iteT ⟨ρ1, st1, s1.res, Wp.mono h (fun _ _ x => x.back s1) fun _ _ x => x.back s1⟩
  | false => exact iteF ⟨ρ1, st1, s1.res, Wp.mono h (fun _ _ x => x.back s1) fun _ _ x => x.back s1⟩
end

/-! ### the check -/
def chkK : D → Const → Bool
  | .non, .none => true
  | .bl b, .bool b' => b == b'
  | .int i, .int j => i == j
  | .str x, .str y => x == y
  | _, _ => false
def PlainIxB : Expr → Bool
  | .Slice _ _ _ _ => false
  | _ => true
/-- the comprehension's block -/
def blkB (N : List Str) (sc scope : Scope) (own : List (Str × Nat)) : Bool :=
  (scope.kind == .function) && (scope.names.all fun y => scope.names.lookup y.1 == some y.2) && (own.all fun p => N[p.2]? == some p.1) &&
  (scope.names.all fun y => !(y.2 == .free) || sc.names.lookup y.1 == some .cell || sc.names.lookup y.1 == some .free) &&
  (scope.names.all fun y => !(y.2 == .local || y.2 == .cell) || (own.map (·.1)).contains y.1 || !N.contains y.1)
def Ck.blk (c : Ck) (scope : Scope) : Ck := { c with sc := relS scope c.sc, fnc := fun x => scope.names.lookup x == some .cell }
def ownOf (N : List Str) (vs : List Nat) : List (Str × Nat) := vs.map fun i => (N.getD i "", i)
def notSet : Expr → Bool
  | .Set _ _ _ => false
  | _ => true
def isTupE : Expr → Bool
  | .Tuple _ _ _ => true
  | _ => false
/-- the classes of isinstance's second argument -/
def chkC (c : Ck) (t : String) : Expr → Bool
  | .Name x _ => (x == Str.ofString t) && tyBi t && c.glo x
  | _ => false
def chkCs (c : Ck) : List String → List Expr → Bool
  | [], [] => true
  | t :: ts, e :: es => chkC c t e && chkCs c ts es
  | _, _ => false
def Ck.fn (c : Ck) (f : String) (n : Nat) : Bool := c.gt.fns.lookup f == some n
mutual
def D.same : D → D → Bool
  | .non, .non => true
  | .bl b, .bl b' => b == b'
  | .int i, .int j => i == j
  | .str x, .str y => x == y
  | .tup ds, .tup es => D.sames ds es
  | _, _ => false
def D.sames : List D → List D → Bool
  | [], [] => true
  | d :: ds, e :: es => D.same d e && D.sames ds es
  | _, _ => false
end
mutual
theorem D.same_eq : ∀ (a b : D), D.same a b = true → a = b
  | .non, b, h => by cases b <;> first | rfl | cases h
  | .bl x, b, h => by cases b <;> first | (rw [eq_of_beq (show (x == _) = true from h)]) | cases h
  | .int x, b, h => by cases b <;> first | (rw [eq_of_beq (show (x == _) = true from h)]) | cases h
  | .str x, b, h => by cases b <;> first | (rw [eq_of_beq (show (x == _) = true from h)]) | cases h
  | .tup ds, b, h => by
    cases b with
    | tup es => rw [D.sames_eq ds es h]
    | _ => cases h
  | .ref a, b, h => by cases b <;> cases h
  | .fz a, b, h => by cases b <;> cases h
  | .exn a, b, h => by cases b <;> cases h
theorem D.sames_eq : ∀ (a b : List D), D.sames a b = true → a = b
  | [], b, h => by cases b <;> first | rfl | cases h
  | d :: ds, b, h => by
    cases b with
    | nil => cases h
    | cons e es =>
      have h' : (D.same d e && D.sames ds es) = true := h
      rw [Bool.and_eq_true] at h'
      rw [D.same_eq d e h'.1, D.sames_eq ds es h'.2]
end
def isNo : E → Bool
  | .no => true
  | _ => false
def isIt : E → Bool
  | .it _ _ => true
  | _ => false
def isiOk (c : Ck) (ts : List String) (et : Expr) : Bool := match et with
  | .Tuple es _ _ => decide (ts.length ≤ 100) && chkCs c ts es
  | e => (match ts with
    | [t] => chkC c t e
    | _ => false)
def methForm (m : String) (ms : List E) (es : List Expr) : Bool :=
  (m == "append" && ms.length == 1 && es.length == 1) || (m == "clear" && ms.length == 0 && es.length == 0) || (m == "pop" && ms.length == 0 && es.length == 0)
def itCall (k : I) (x : Str) (es : List Expr) : Bool := match k with
  | .range => (x == ("range" : Str)) && decide (1 ≤ es.length) && decide (es.length ≤ 3)
  | .enumerate => (x == ("enumerate" : Str)) && decide (es.length = 1)
  | .zip => (x == ("zip" : Str)) && decide (es.length = 2)
  | .reversed => (x == ("reversed" : Str)) && decide (es.length = 1)
  | _ => false
def tgOk (m : E) (tg : Expr) : Bool := match m with
  | .it .enumerate _ => isTupE tg
  | .it .zip _ => isTupE tg
  | _ => true
/-- reversed(e) -/
def isRev (c : Ck) : Expr → Bool
  | .Call (.Name y _) [ea] [] _ => (y == ("reversed" : Str)) && c.glo y && noStar ea
  | _ => false
def argOf : Expr → Expr
  | .Call _ (ea :: _) _ _ => ea
  | e => e
theorem isRev_ok {c : Ck} {e : Expr} (h : isRev c e = true) : ∃ p ea pos, e = .Call (.Name "reversed" p) [ea] [] pos ∧ c.glo "reversed" = true ∧ noStar ea = true ∧ argOf e = ea := by
  unfold isRev at h
  split at h
  · simp only [Bool.and_eq_true, beq_iff_eq] at h
    obtain ⟨⟨rfl, h2⟩, h3⟩ := h
    exact ⟨_, _, _, rfl, h2, h3, rfl⟩
  · cases h
mutual
def chk (c : Ck) (w : Bool) : E → Expr → Bool
  | .k d, .Constant k _ _ => chkK d k
  | .g n d, .Name x _ => (x == Str.ofString n) && c.glo x && !(x == ("__debug__" : Str)) && (match c.gt.cs.lookup n with | some d' => D.same d d' | none => false)
  | .v i, .Name x _ => (c.N[i]? == some x) && c.vis x && !(x == ("__debug__" : Str)) && !(x == ("__classdict__" : Str))
  | .tup ms, .Tuple es _ _ => chks c ms es
  | .lst ms, .List es _ => chks c ms es
  | .bin op a b, .BinOp ea op' eb _ => (op == op') && chk c false a ea && chk c false b eb
  | .neg a, .UnaryOp .USub ea _ => chk c false a ea
  | .not a, .UnaryOp .Not ea _ => chk c false a ea
  | .and a b, .BoolOp .And (ea :: eb :: er) pos => chk c false a ea && chk c false b (match er with | [] => eb | _ => .BoolOp .And (eb :: er) pos)
  | .or a b, .BoolOp .Or (ea :: eb :: er) pos => chk c false a ea && chk c false b (match er with | [] => eb | _ => .BoolOp .Or (eb :: er) pos)
  | .ife t a b, .IfExp et ea eb _ => chk c false t et && chk c false a ea && chk c false b eb
  | .cmp op a b, .Compare ea [op'] [eb] _ => (op == op') && !(behindInMarks op eb) && chk c false a ea && chk c false b eb
  | .chn op op2 a b d, .Compare ea [op', op2'] [eb, ed] _ => (op == op') && (op2 == op2') && !(lastMarks [op, op2] [eb, ed]) && chk c false a ea && chk c false b eb && chk c false d ed
  | .idx a i, .Subscript ea ei _ => PlainIxB ei && chk c false a ea && chk c false i ei
  | .sl a lo hi, .Subscript ea (.Slice elo ehi none _) _ => chk c false a ea && (match elo with | none => isNo lo | some e => !isNo lo && chk c false lo e) && (match ehi with | none => isNo hi | some e => !isNo hi && chk c false hi e)
  | .call f ms, .Call (.Name x _) es [] _ => (x == Str.ofString f) && c.glo x && !(x == ("__debug__" : Str)) && c.fn f ms.length && !es.isEmpty && chks c ms es
  | .bi b ms, .Call (.Name x _) es [] _ => (x == biN b) && c.glo x && c.calm && !es.isEmpty && chks c ms es
  | .isi a ts, .Call (.Name x _) [ea, et] [] _ => (x == ("isinstance" : Str)) && c.glo x && noStar ea && chk c false a ea && isiOk c ts et
  | .meth m o ms, .Call (.Attribute eo at_ apos) es [] pos => (at_ == Str.ofString m) && notCall0 eo && (apos.endLine == pos.line) && chk c false o eo && methForm m ms es && chks c ms es
  | .lc elt tg src cond, .ListComp eelt [⟨etg, eiter, ifs, k⟩] scope _ => c.calm && (k == 0) && chk c true src eiter && tgOk src etg && notSet eiter && blkB c.N c.sc scope (ownOf c.N tg.vars) && chkT (c.blk scope) tg etg && chk (c.blk scope) false elt eelt &&
      (match ifs with | [] => isNo cond | [e] => !isNo cond && chk (c.blk scope) false cond e | _ => false)
  | .trv a, .Call (.Name x _) [e1] [] _ => c.calm && (x == ("tuple" : Str)) && c.glo x && isRev c e1 && chk c false a (argOf e1)
  | .it k ms, .Call (.Name x _) es [] _ => w && c.glo x && itCall k x es && chks c ms es
  | _, _ => false
def chks (c : Ck) : List E → List Expr → Bool
  | [], [] => true
  | m :: ms, e :: es => noStar e && chk c false m e && chks c ms es
  | _, _ => false
end
end EW

-- part: Sound12
set_option maxHeartbeats 1000000
/-! the check of expressions is sound -/
namespace EW
open PySem PySem.Spec PyProof.Rows L2
theorem ff {P : Prop} (h : false = true) : P := nomatch h
/-- a def that may be called -/
def FnAt (X : Cx) (G : Gam) (f : String) (n : Nat) : Prop := ∃ (k : Nat) (fa : Addr) (fd : FuncData) (ps : List Str), FnOk X.prog X.w X.K X.mg X.base (L2.CX X.prog X.w) k fa fd ps (spF X.K X.mg n (G.call f)) ∧ Room k X.A ∧ X.mg (Str.ofString f) = some (.ref fa) ∧ PySem.W.keepIn X.K (.ref fa) = true ∧ Binds X.K fd ps []
/-- a built-in's name that this program does not shadow -/
def Nob (mg : Str → Option Value) : Prop := (∀ b, mg (biN b) = none) ∧ mg "range" = none ∧ mg "enumerate" = none ∧ mg "zip" = none ∧ mg "reversed" = none ∧ mg "isinstance" = none ∧ ∀ t, tyBi t = true → mg (Str.ofString t) = none
structure CtE (X : Cx) (G : Gam) (c : Ck) : Prop where
  ok : CtOk X c
  deep : Deep X
  nob : Nob X.mg
  cs : ∀ n d, c.gt.cs.lookup n = some d → ∃ v u, X.mg (Str.ofString n) = some u ∧ RelV v u ∧ ∀ ρ H, VR X.K ρ H d v
  fns : ∀ f n, c.gt.fns.lookup f = some n → FnAt X G f n
section
variable {X : Cx} {G : Gam} {c : Ck}
theorem CtE.blk (h : CtE X G c) {s : Shared} {H : Hp} {scope : Scope} {cl : List (Str × Addr)} {C : Addr} {fp : List Addr} : CtE (X.blk s H scope (compEnvC scope cl C X.env) fp) G (c.blk scope) where
  ok := ⟨h.ok.N, h.ok.nd, by
    show relS scope X.env.scope = relS scope c.sc
    rw [h.ok.sc], fun x e => e, h.ok.calm⟩
  deep := h.deep
  nob := h.nob
  cs := h.cs
  fns := h.fns
theorem blkB_ok {N : List Str} {sc scope : Scope} {own : List (Str × Nat)} (h : blkB N sc scope own = true) : BlkOk N sc scope own := by
  unfold blkB at h
  simp only [Bool.and_eq_true, List.all_eq_true, beq_iff_eq, Bool.or_eq_true, Bool.not_eq_true', beq_eq_false_iff_ne, List.contains_eq_mem, decide_eq_true_eq, decide_eq_false_iff_not] at h
  obtain ⟨⟨⟨⟨h1, h2⟩, h3⟩, h4⟩, h5⟩ := h
  refine ⟨h1, h2, h3, fun y hy e => ?_, fun y hy e => ?_⟩
  · rcases h4 y hy with (z | z) | z
    · exact absurd e z
    · exact .inl z
    · exact .inr z
  · rcases h5 y hy with (z | z) | z
    · rw [Bool.or_eq_false_iff] at z
      rcases e with e | e
      · simp [e] at z
      · simp [e] at z
    · exact .inl z
    · exact .inr z
theorem ownOf_snd {N : List Str} {vs : List Nat} : (ownOf N vs).map (·.2) = vs := by
  unfold ownOf
  rw [List.map_map]
  exact List.map_id _
def isBoolE : Expr → Bool
  | .BoolOp _ _ _ => true
  | _ => false
structure SX (X : Cx) (G : Gam) (m : E) (e : Expr) : Prop where
  se : SE X G m e
  st : ST X G m e
  sw : isBoolE e = true → SW X G m e
/-- no and, or, not, if-else, comparison -/
def plainE : Expr → Bool
  | .BoolOp _ _ _ => false
  | .UnaryOp .Not _ _ => false
  | .IfExp _ _ _ _ => false
  | .Compare _ _ _ _ => false
  | _ => true
theorem plainE_tru {e : Expr} {env : Env} (h : plainE e = true) (whole : Sem Value) : PySem.isTrue e env whole = (do let v ← whole; standAt e.pos; holding [v] (truthy v)) := by
  cases e with
  | UnaryOp op a p => cases op <;> first | rfl | exact ff h
  | BoolOp op vs p => exact ff h
  | IfExp a b d p => exact ff h
  | Compare a b d p => exact ff h
  | _ => rfl
theorem plainE_bool {e : Expr} (h : plainE e = true) : isBoolE e = false := by
  cases e with
  | BoolOp op vs p => exact ff h
  | _ => rfl
theorem SX.of {m : E} {e : Expr} (h : SE X G m e) (hp : plainE e = true)
    (hm : ∀ st, tst G m st = (ev G m st).bind fun v st1 => match (rd st1 v).bind truthW with | some t => .ok t st1 | none => .bad) : SX X G m e :=
  ⟨h, st_tru (fun w => plainE_tru hp w) hm h, fun z => by rw [plainE_bool hp] at z; cases z⟩
theorem SX.of2 {m : E} {e : Expr} (h : SE X G m e) (t : ST X G m e) (hp : isBoolE e = false) : SX X G m e := ⟨h, t, fun z => by rw [hp] at z; cases z⟩
theorem chkK_ok {d : D} {k : Const} {j : Nat} {p : Pos} (h : chkK d k = true) : SE X G (.k d) (.Constant k j p) := by
  cases d with
  | non => cases k <;> first | exact se_k (d := .non) (v := .non) pe_non (fun _ _ => rfl) (fun st => by simp only [ev]) | exact ff h
  | bl b =>
    cases k with
    | bool b' =>
      have e := eq_of_beq (show (b == b') = true from h)
      subst e
      exact se_k (d := .bl b) (v := .bl b) pe_bl (fun _ _ => rfl) (fun st => by simp only [ev])
    | _ => exact ff h
  | int b =>
    cases k with
    | int b' =>
      have e := eq_of_beq (show (b == b') = true from h)
      subst e
      exact se_k (d := .int b) (v := .int b) pe_int (fun _ _ => rfl) (fun st => by simp only [ev])
    | _ => exact ff h
  | str b =>
    cases k with
    | str b' =>
      have e := eq_of_beq (show (b == b') = true from h)
      subst e
      exact se_k (d := .str b) (v := .str b) pe_str (fun _ _ => rfl) (fun st => by simp only [ev])
    | _ => exact ff h
  | _ => cases k <;> exact ff h
theorem chkCs_ok (h : CtE X G c) : ∀ {ts : List String} {es : List Expr}, chkCs c ts es = true → (∀ t ∈ ts, TyOk X G t) ∧ ∃ ps : List Pos, ps.length = ts.length ∧ es = (ts.zip ps).map fun q => .Name (Str.ofString q.1) q.2
  | [], es, q => by
    cases es with
    | nil => exact ⟨fun t ht => by simp at ht, [], rfl, rfl⟩
    | cons e es => exact ff q
  | t :: ts, es, q => by
    cases es with
    | nil => exact ff q
    | cons e es =>
      have q' : (chkC c t e && chkCs c ts es) = true := q
      rw [Bool.and_eq_true] at q'
      obtain ⟨g1, ps, g2, g3⟩ := chkCs_ok h q'.2
      have q1 := q'.1
      cases e with
      | Name x p =>
        have q2 : ((x == Str.ofString t) && tyBi t && c.glo x) = true := q1
        simp only [Bool.and_eq_true, beq_iff_eq] at q2
        obtain ⟨⟨rfl, b1⟩, b2⟩ := q2
        refine ⟨fun t' ht => ?_, p :: ps, by simp [g2], by rw [g3]; rfl⟩
        rcases List.mem_cons.mp ht with z | z
        · subst z
          exact tyOk_bi b1 (h.ok.glo b2) (h.nob.2.2.2.2.2.2 _ b1)
        · exact g1 t' z
      | _ => exact ff q1
theorem isNo_eq {m : E} (h : isNo m = true) : m = .no := by
  cases m <;> first | rfl | exact ff h
theorem isNo_ne {m : E} (h : (!isNo m) = true) : m ≠ .no := fun z => by
  subst z
  exact ff h
theorem plainIx_ok {e : Expr} (h : PlainIxB e = true) : PlainIx e := by
  intro o i
  cases e with
  | Slice a b d p => exact ff h
  | _ => rfl
theorem notSet_ok {e : Expr} {env : Env} (h : notSet e = true) (x : Value) : foldedSetIterable e env x = pure x := by
  cases e with
  | Set a b d => exact ff h
  | _ => rfl

theorem si_it (h : CtE X G c) {k : I} {tg : Expr} {x : Str} {p pos : Pos} {es : List Expr} {ms : List E} (hx : c.glo x = true) (hc : itCall k x es = true) (ht : tgOk (.it k ms) tg = true) (g1 : SA X G ms es) (g2 : es.all noStar = true) (g3 : es.length = ms.length) (h1 : ∀ a ea, ms[0]? = some a → es[0]? = some ea → SE X G a ea) : SI X G (.it k ms) tg (.Call (.Name x p) es [] pos) := by
  have hg := h.ok.glo hx
  have st1 : ∀ {a : Expr} {r : List Expr}, es = a :: r → starEach (a :: r) X.env = (false, eval a X.env) :: starEach r X.env := fun {a r} e => by
    rw [e, List.all_cons, Bool.and_eq_true] at g2
    exact star_cons g2.1
  cases k with
  | range =>
    simp only [itCall, Bool.and_eq_true, beq_iff_eq, decide_eq_true_eq] at hc
    obtain ⟨⟨rfl, l1⟩, l2⟩ := hc
    match es, ms, g3 with
    | [ea], [a], _ => exact si_range1 hg h.nob.2.1 (by rw [st1 rfl]; rfl) g1
    | [ea, eb], [a, b], _ =>
      have z : noStar ea = true ∧ noStar eb = true := by simpa using g2
      exact si_range2 hg h.nob.2.1 (by rw [star_cons z.1, star_cons z.2]; rfl) (by rw [star_cons z.2]; rfl) g1
    | [ea, eb, ed], [a, b, d], _ =>
      have z : noStar ea = true ∧ noStar eb = true ∧ noStar ed = true := by simpa using g2
      exact si_range3 hg h.nob.2.1 (star_cons z.1) (star_plain (by simp [z])) g1
    | [], _, _ => simp at l1
    | _ :: _ :: _ :: _ :: _, _, _ => simp at l2
  | enumerate =>
    simp only [itCall, Bool.and_eq_true, beq_iff_eq, decide_eq_true_eq] at hc
    obtain ⟨rfl, l2⟩ := hc
    cases tg with
    | Tuple elts kk tpos =>
      match es, ms, g3 with
      | [ea], [a], _ => exact si_enum hg h.nob.2.2.1 (by rw [st1 rfl]; rfl) g1
      | [], _, _ => simp at l2
      | _ :: _ :: _, _, _ => simp at l2
    | _ => exact ff ht
  | zip =>
    simp only [itCall, Bool.and_eq_true, beq_iff_eq, decide_eq_true_eq] at hc
    obtain ⟨rfl, l2⟩ := hc
    cases tg with
    | Tuple elts kk tpos =>
      match es, ms, g3 with
      | [ea, eb], [a, b], _ =>
        have z : noStar ea = true ∧ noStar eb = true := by simpa using g2
        exact si_zip hg h.nob.2.2.2.1 (star_cons z.1) (star_plain (by simp [z])) g1
      | [], _, _ => simp at l2
      | [_], _, _ => simp at l2
      | _ :: _ :: _ :: _, _, _ => simp at l2
    | _ => exact ff ht
  | reversed =>
    simp only [itCall, Bool.and_eq_true, beq_iff_eq, decide_eq_true_eq] at hc
    obtain ⟨rfl, l2⟩ := hc
    match es, ms, g3 with
    | [ea], [a], _ => exact si_rev hg h.nob.2.2.2.2.1 (st1 rfl) (h1 a ea rfl rfl)
    | [], _, _ => simp at l2
    | _ :: _ :: _, _, _ => simp at l2
  | items => simp [itCall] at hc
  | values => simp [itCall] at hc
theorem se_trv {a : E} {ea : Expr} {p p2 pos pos2 : Pos} (hc : X.calm = true) (hg : Gl X "tuple") (hm : X.mg "tuple" = none) (hg2 : Gl X "reversed") (hm2 : X.mg "reversed" = none) (hn : noStar ea = true) (ha : SE X G a ea) :
    SE X G (.trv a) (.Call (.Name "tuple" p) [.Call (.Name "reversed" p2) [ea] [] pos2] [] pos) := fun Wx tk => by
  refine PE.imp (PE.or (RT.pe_tupRev hc hg hm hg2 hm2 (ha Wx tk) (star_cons hn) rfl) (pe_tupRevT hc hg hm hg2 hm2 (ha Wx tk) (star_cons hn) rfl)) ?_
  rintro σ H Q ⟨ρ, st, hR, h⟩
  rw [ev] at h
  cases q : ev G a st with
  | bad =>
    rw [q] at h
    exact h.elim
  | ex c st1 =>
    rw [q] at h
    refine .inl ⟨ρ, st, hR, ?_⟩
    rw [q]
    exact h
  | ok va st1 =>
    rw [q] at h
    have h : Wp (match (rd st1 va).bind seqL with
      | some ds => Out.ok (EV.d (.tup ds.reverse)) st1
      | none => .bad) _ _ := h
    cases q1 : rd st1 va with
    | none =>
      rw [q1] at h
      exact h.elim
    | some w =>
      rw [q1] at h
      cases q2 : seqL w with
      | none =>
        rw [Option.bind_some, q2] at h
        exact h.elim
      | some ds =>
        rw [Option.bind_some, q2] at h
        obtain ⟨e1, e2⟩ := seqL_seq q2
        by_cases ht : ∃ es, w = .d (.tup es)
        · refine .inr ⟨ρ, st, hR, ?_⟩
          rw [q]
          intro v H1 ρ1 s r n
          obtain ⟨a', vs, rfl, hv, hh⟩ := (rd_sound s.res r q1).sq e1 e2
          rcases hh with ⟨_, z⟩ | ⟨hq, _⟩
          · obtain ⟨es, z'⟩ := ht
            exact (z es z').elim
          · exact ⟨a', vs, rfl, hq, fun q hq' => EQ.fin h s (same_new hq') (NewR.tup hq' hv.reverse)⟩
        · refine .inl ⟨ρ, st, hR, ?_⟩
          rw [q]
          intro v H1 ρ1 s r n
          obtain ⟨a', vs, rfl, hv, hh⟩ := (rd_sound s.res r q1).sq e1 e2
          rcases hh with ⟨hq, _⟩ | ⟨_, z⟩
          · exact ⟨a', vs, rfl, hq, fun q hq' => EQ.fin h s (same_new hq') (NewR.tup hq' hv.reverse)⟩
          · exact (ht z).elim
end
end EW

-- part: Sound13
set_option maxHeartbeats 4000000
/-! every checked expression is sound -/
namespace EW
open PySem PySem.Spec PyProof.Rows L2
theorem and2 {a b : Bool} (h : (a && b) = true) : a = true ∧ b = true := by rw [Bool.and_eq_true] at h; exact h
theorem nbeq {x y : Str} (h : (!(x == y)) = true) : (x == y) = false := by
  cases q : x == y with
  | true => rw [q] at h; cases h
  | false => rfl
theorem bool_of {op : BoolOp} {vs : List Expr} {p : Pos} : isBoolE (.BoolOp op vs p) = true := rfl
theorem nit {c : Ck} {m : E} {e : Expr} (q : chk c false m e = true) : isIt m = false := by
  cases m with
  | it k ms =>
    cases e with
    | Call ef es kws p =>
      cases ef with
      | Name x p2 =>
        cases kws with
        | nil =>
          have q' : (false && c.glo x && itCall k x es && chks c ms es) = true := q
          simp at q'
        | cons kw kws => exact ff q
      | _ => exact ff q
    | _ => exact ff q
  | _ => rfl
structure SY (X : Cx) (G : Gam) (m : E) (e : Expr) : Prop where
  x : isIt m = false → SX X G m e
  i : ∀ tg, tgOk m tg = true → SI X G m tg e
theorem SY.mk' {X : Cx} {G : Gam} {m : E} {e : Expr} (h : SX X G m e) : SY X G m e := ⟨fun _ => h, fun tg _ => si_plain h.se⟩
mutual
theorem chk_ok : ∀ (m : E) {w : Bool} {X : Cx} {G : Gam} {c : Ck} {e : Expr}, CtE X G c → chk c w m e = true → SY X G m e
  | .no, w, X, G, c, e, h, q => by cases e <;> exact ff q
  | .k d, w, X, G, c, e, h, q => by
    refine .mk' ?_
    cases e with
    | Constant k j p => exact .of (chkK_ok q) rfl (fun st => by first | (simp only [tst]; done) | (simp only [tst]; rfl))
    | _ => exact ff q
  | .v i, w, X, G, c, e, h, q => by
    refine .mk' ?_
    cases e with
    | Name x p =>
      obtain ⟨q, q4⟩ := and2 q
      obtain ⟨q, q3⟩ := and2 q
      obtain ⟨q1, q2⟩ := and2 q
      exact .of (se_v (pe_var (h.ok.ix q1) (h.ok.vis q2) (nbeq q3) (nbeq q4))) rfl (fun st => by first | (simp only [tst]; done) | (simp only [tst]; rfl))
    | _ => exact ff q
  | .g n d, w, X, G, c, e, h, q => by
    refine .mk' ?_
    cases e with
    | Name x p =>
      obtain ⟨q, q4⟩ := and2 q
      obtain ⟨q, q3⟩ := and2 q
      obtain ⟨q1, q2⟩ := and2 q
      have ex := eq_of_beq q1
      subst ex
      cases z : c.gt.cs.lookup n with
      | none =>
        rw [z] at q4
        exact ff q4
      | some d' =>
        rw [z] at q4
        have ed := D.same_eq d d' q4
        subst ed
        obtain ⟨v, u, a1, a2, a3⟩ := h.cs n d z
        exact .of (se_k (pe_glob (h.ok.glo q2) a1 a2 (nbeq q3)) a3 (fun st => by simp only [ev])) rfl (fun st => by first | (simp only [tst]; done) | (simp only [tst]; rfl))
    | _ => exact ff q
  | .tup ms, w, X, G, c, e, h, q => by
    refine .mk' ?_
    cases e with
    | Tuple es k p => exact .of (se_tup (chks_ok ms h q).1) rfl (fun st => by first | (simp only [tst]; done) | (simp only [tst]; rfl))
    | _ => exact ff q
  | .lst ms, w, X, G, c, e, h, q => by
    refine .mk' ?_
    cases e with
    | List es p => exact .of (se_lst (chks_ok ms h q).1) rfl (fun st => by first | (simp only [tst]; done) | (simp only [tst]; rfl))
    | _ => exact ff q
  | .dct ks vs, w, X, G, c, e, h, q => by cases e <;> exact ff q
  | .bin op a b, w, X, G, c, e, h, q => by
    refine .mk' ?_
    cases e with
    | BinOp ea op' eb p =>
      obtain ⟨q, q3⟩ := and2 q
      obtain ⟨q1, q2⟩ := and2 q
      have eo := eq_of_beq q1
      subst eo
      exact .of (se_bin ((chk_ok a h q2).x (nit q2)).se ((chk_ok b h q3).x (nit q3)).se) rfl (fun st => by first | (simp only [tst]; done) | (simp only [tst]; rfl))
    | _ => exact ff q
  | .neg a, w, X, G, c, e, h, q => by
    refine .mk' ?_
    cases e with
    | UnaryOp op ea p =>
      cases op with
      | USub => exact .of (se_neg ((chk_ok a h q).x (nit q)).se) rfl (fun st => by first | (simp only [tst]; done) | (simp only [tst]; rfl))
      | _ => exact ff q
    | _ => exact ff q
  | .not a, w, X, G, c, e, h, q => by
    refine .mk' ?_
    cases e with
    | UnaryOp op ea p =>
      cases op with
      | Not =>
        have z := (chk_ok a h q).x (nit q)
        exact .of2 (se_not z.se) (st_not z.st) rfl
      | _ => exact ff q
    | _ => exact ff q
  | .and a b, w, X, G, c, e, h, q => by
    refine .mk' ?_
    cases e with
    | BoolOp op vs p =>
      cases op with
      | And =>
        match vs, q with
        | [], q => exact ff q
        | [_], q => exact ff q
        | [ea, eb], q =>
          obtain ⟨q1, q2⟩ := and2 q
          have z1 := (chk_ok a h q1).x (nit q1)
          have z2 := (chk_ok b h q2).x (nit q2)
          have w : SW X G (.and a b) (.BoolOp .And [ea, eb] p) := sw_and z1.st (sw_and1 z2.st)
          exact ⟨se_and z1.se (se_one z2.se), w.st, fun _ => w⟩
        | ea :: eb :: ed :: er, q =>
          obtain ⟨q1, q2⟩ := and2 q
          have z1 := (chk_ok a h q1).x (nit q1)
          have z2 := (chk_ok b h q2).x (nit q2)
          have w : SW X G (.and a b) (.BoolOp .And (ea :: eb :: ed :: er) p) := sw_and z1.st (z2.sw rfl)
          exact ⟨se_and z1.se z2.se, w.st, fun _ => w⟩
      | Or => exact ff q
    | _ => exact ff q
  | .or a b, w, X, G, c, e, h, q => by
    refine .mk' ?_
    cases e with
    | BoolOp op vs p =>
      cases op with
      | Or =>
        match vs, q with
        | [], q => exact ff q
        | [_], q => exact ff q
        | [ea, eb], q =>
          obtain ⟨q1, q2⟩ := and2 q
          have z1 := (chk_ok a h q1).x (nit q1)
          have z2 := (chk_ok b h q2).x (nit q2)
          have w : SW X G (.or a b) (.BoolOp .Or [ea, eb] p) := sw_or z1.st (sw_or1 z2.st)
          exact ⟨se_or z1.se (se_one z2.se), w.st, fun _ => w⟩
        | ea :: eb :: ed :: er, q =>
          obtain ⟨q1, q2⟩ := and2 q
          have z1 := (chk_ok a h q1).x (nit q1)
          have z2 := (chk_ok b h q2).x (nit q2)
          have w : SW X G (.or a b) (.BoolOp .Or (ea :: eb :: ed :: er) p) := sw_or z1.st (z2.sw rfl)
          exact ⟨se_or z1.se z2.se, w.st, fun _ => w⟩
      | And => exact ff q
    | _ => exact ff q
  | .ife t a b, w, X, G, c, e, h, q => by
    refine .mk' ?_
    cases e with
    | IfExp et ea eb p =>
      obtain ⟨q, q3⟩ := and2 q
      obtain ⟨q1, q2⟩ := and2 q
      have z1 := (chk_ok t h q1).x (nit q1)
      have z2 := (chk_ok a h q2).x (nit q2)
      have z3 := (chk_ok b h q3).x (nit q3)
      exact .of2 (se_ife z1.st z2.se z3.se) (st_ife z1.st z2.st z3.st) rfl
    | _ => exact ff q
  | .cmp op a b, w, X, G, c, e, h, q => by
    refine .mk' ?_
    cases e with
    | Compare ea ops es p =>
      match ops, es, q with
      | [], _, q => exact ff q
      | [_], [], q => exact ff q
      | [op'], [eb], q =>
        obtain ⟨q, q4⟩ := and2 q
        obtain ⟨q, q3⟩ := and2 q
        obtain ⟨q1, q2⟩ := and2 q
        have eo := eq_of_beq q1
        subst eo
        have q2' : behindInMarks op eb = false := by simpa using q2
        have z1 := (chk_ok a h q3).x (nit q3)
        have z2 := (chk_ok b h q4).x (nit q4)
        exact .of2 (se_cmp h.deep q2' z1.se z2.se) (st_cmp h.deep q2' z1.se z2.se) rfl
      | [_], _ :: _ :: _, q => exact ff q
      | _ :: _ :: _, _, q => exact ff q
    | _ => exact ff q
  | .chn op op2 a b d, w, X, G, c, e, h, q => by
    refine .mk' ?_
    cases e with
    | Compare ea ops es p =>
      match ops, es, q with
      | [], _, q => exact ff q
      | [_], _, q => exact ff q
      | [_, _], [], q => exact ff q
      | [_, _], [_], q => exact ff q
      | [op', op2'], [eb, ed], q =>
        obtain ⟨q, q6⟩ := and2 q
        obtain ⟨q, q5⟩ := and2 q
        obtain ⟨q, q4⟩ := and2 q
        obtain ⟨q, q3⟩ := and2 q
        obtain ⟨q1, q2⟩ := and2 q
        have eo := eq_of_beq q1
        have eo2 := eq_of_beq q2
        subst eo eo2
        have q3' : lastMarks [op, op2] [eb, ed] = false := by simpa using q3
        have z1 := (chk_ok a h q4).x (nit q4)
        have z2 := (chk_ok b h q5).x (nit q5)
        have z3 := (chk_ok d h q6).x (nit q6)
        exact .of2 (se_chn h.deep q3' z1.se z2.se z3.se) (st_chn h.deep q3' z1.se z2.se z3.se) rfl
      | [_, _], _ :: _ :: _ :: _, q => exact ff q
      | _ :: _ :: _ :: _, _, q => exact ff q
    | _ => exact ff q
  | .idx a i, w, X, G, c, e, h, q => by
    refine .mk' ?_
    cases e with
    | Subscript ea ei p =>
      have q' : (PlainIxB ei && chk c false a ea && chk c false i ei) = true := by
        cases ei <;> exact q
      obtain ⟨q, q3⟩ := and2 q'
      obtain ⟨q1, q2⟩ := and2 q
      exact .of (se_idx (plainIx_ok q1) ((chk_ok a h q2).x (nit q2)).se ((chk_ok i h q3).x (nit q3)).se) rfl (fun st => by first | (simp only [tst]; done) | (simp only [tst]; rfl))
    | _ => exact ff q
  | .sl a lo hi, w, X, G, c, e, h, q => by
    refine .mk' ?_
    cases e with
    | Subscript ea ei p =>
      cases ei with
      | Slice elo ehi es p2 =>
        cases es with
        | none =>
          obtain ⟨q, q3⟩ := and2 q
          obtain ⟨q1, q2⟩ := and2 q
          have l : SO X G lo elo := by
            cases elo with
            | none =>
              rw [isNo_eq q2]
              exact so_no
            | some e =>
              obtain ⟨b1, b2⟩ := and2 q2
              exact so_some (isNo_ne b1) ((chk_ok lo h b2).x (nit b2)).se
          have u : SO X G hi ehi := by
            cases ehi with
            | none =>
              rw [isNo_eq q3]
              exact so_no
            | some e =>
              obtain ⟨b1, b2⟩ := and2 q3
              exact so_some (isNo_ne b1) ((chk_ok hi h b2).x (nit b2)).se
          exact .of (se_sl ((chk_ok a h q1).x (nit q1)).se l u) rfl (fun st => by first | (simp only [tst]; done) | (simp only [tst]; rfl))
        | some s => exact ff q
      | _ => exact ff q
    | _ => exact ff q
  | .fld a f, w, X, G, c, e, h, q => by cases e <;> exact ff q
  | .new a f, w, X, G, c, e, h, q => by cases e <;> exact ff q
  | .it k ms, w, X, G, c, e, h, q => by
    cases e with
    | Call ef es kws p =>
      cases ef with
      | Name x p2 =>
        cases kws with
        | nil =>
          obtain ⟨q, q3⟩ := and2 q
          obtain ⟨q, q2⟩ := and2 q
          obtain ⟨q0, q1⟩ := and2 q
          obtain ⟨z1, z2, z3, z4⟩ := chks_ok ms h q3
          exact ⟨fun z => by (cases z), fun tg ht => si_it h q1 q2 ht z1 z2 z3 (z4 0)⟩
        | cons kw kws => exact ff q
      | _ => exact ff q
    | _ => exact ff q
  | .call f ms, w, X, G, c, e, h, q => by
    refine .mk' ?_
    cases e with
    | Call ef es kws p =>
      cases ef with
      | Name x p2 =>
        cases kws with
        | nil =>
          obtain ⟨q, q6⟩ := and2 q
          obtain ⟨q, q5⟩ := and2 q
          obtain ⟨q, q4⟩ := and2 q
          obtain ⟨q, q3⟩ := and2 q
          obtain ⟨q1, q2⟩ := and2 q
          have ex := eq_of_beq q1
          subst ex
          obtain ⟨z1, z2, z3, z4⟩ := chks_ok ms h q6
          obtain ⟨k, fa, fd, ps, F, r, a1, a2, a3⟩ := h.fns f ms.length (eq_of_beq q4)
          cases es with
          | nil => exact ff q5
          | cons e es =>
            obtain ⟨y1, y2⟩ := and2 (show (noStar e && es.all noStar) = true from z2)
            exact .of (se_call F r (h.ok.glo q2) a1 a2 a3 rfl (nbeq q3) (star_cons y1) (star_plain y2) z1) rfl (fun st => by first | (simp only [tst]; done) | (simp only [tst]; rfl))
        | cons kw kws => exact ff q
      | _ => exact ff q
    | _ => exact ff q
  | .bi b ms, w, X, G, c, e, h, q => by
    refine .mk' ?_
    cases e with
    | Call ef es kws p =>
      cases ef with
      | Name x p2 =>
        cases kws with
        | nil =>
          obtain ⟨q, q5⟩ := and2 q
          obtain ⟨q, q4⟩ := and2 q
          obtain ⟨q, q3⟩ := and2 q
          obtain ⟨q1, q2⟩ := and2 q
          have ex := eq_of_beq q1
          subst ex
          obtain ⟨z1, z2, z3, z4⟩ := chks_ok ms h q5
          cases es with
          | nil => exact ff q4
          | cons e es =>
            obtain ⟨y1, y2⟩ := and2 (show (noStar e && es.all noStar) = true from z2)
            exact .of (se_bi (h.ok.calm q3) (h.ok.glo q2) (h.nob.1 b) (star_cons y1) (star_plain y2) z1) rfl (fun st => by first | (simp only [tst]; done) | (simp only [tst]; rfl))
        | cons kw kws => exact ff q
      | _ => exact ff q
    | _ => exact ff q
  | .isi a ts, w, X, G, c, e, h, q => by
    refine .mk' ?_
    cases e with
    | Call ef es kws p =>
      cases ef with
      | Name x p2 =>
        match es, kws, q with
        | [], _, q => exact ff q
        | [_], _, q => exact ff q
        | [_, _], _ :: _, q => exact ff q
        | _ :: _ :: _ :: _, _, q => exact ff q
        | [ea, et], [], q =>
          obtain ⟨q, q5⟩ := and2 q
          obtain ⟨q, q4⟩ := and2 q
          obtain ⟨q, q3⟩ := and2 q
          obtain ⟨q1, q2⟩ := and2 q
          have ex := eq_of_beq q1
          subst ex
          have z := ((chk_ok a h q4).x (nit q4)).se
          have hm := h.nob.2.2.2.2.2.1
          cases et with
          | Tuple es k p3 =>
            obtain ⟨b1, b2⟩ := and2 q5
            obtain ⟨g1, ps, g2, rfl⟩ := chkCs_ok h b2
            exact .of (se_isiT (of_decide_eq_true b1) (h.ok.glo q2) hm q3 g1 g2 z) rfl (fun st => by first | (simp only [tst]; done) | (simp only [tst]; rfl))
          | Name y p3 =>
            match ts, q5 with
            | [], q5 => exact ff q5
            | _ :: _ :: _, q5 => exact ff q5
            | [t], q5 =>
              have q5' : chkCs c [t] [.Name y p3] = true := by
                show (chkC c t (.Name y p3) && true) = true
                rw [Bool.and_true]
                exact q5
              obtain ⟨g1, ps, g2, g3⟩ := chkCs_ok h q5'
              match ps, g2, g3 with
              | [p4], _, g3 =>
                cases g3
                exact .of (se_isi1 (h.ok.glo q2) hm q3 (g1 t (by simp)) z) rfl (fun st => by first | (simp only [tst]; done) | (simp only [tst]; rfl))
          | _ =>
            match ts, q5 with
            | [], q5 => exact ff q5
            | _ :: _ :: _, q5 => exact ff q5
            | [t], q5 => exact ff q5
      | _ => exact ff q
    | _ => exact ff q
  | .meth m o ms, w, X, G, c, e, h, q => by
    refine .mk' ?_
    cases e with
    | Call ef es kws pos =>
      cases ef with
      | Attribute eo at_ apos =>
        cases kws with
        | nil =>
          obtain ⟨q, q6⟩ := and2 q
          obtain ⟨q, q5⟩ := and2 q
          obtain ⟨q, q4⟩ := and2 q
          obtain ⟨q, q3⟩ := and2 q
          obtain ⟨q1, q2⟩ := and2 q
          have ex := eq_of_beq q1
          subst ex
          have z := ((chk_ok o h q4).x (nit q4)).se
          obtain ⟨z1, z2, z3, z4⟩ := chks_ok ms h q6
          unfold methForm at q5
          simp only [Bool.or_eq_true, Bool.and_eq_true, beq_iff_eq] at q5
          rcases q5 with (⟨⟨rfl, l1⟩, l2⟩ | ⟨⟨rfl, l1⟩, l2⟩) | ⟨⟨rfl, l1⟩, l2⟩
          · match ms, es, l1, l2, q6, z2 with
            | [a], [ea], _, _, q6, z2 =>
              have y1 : noStar ea = true := by simpa using z2
              have q6' : (noStar ea && chk c false a ea && true) = true := q6
              rw [Bool.and_true] at q6'
              exact .of (se_append q2 y1 q3 z ((chk_ok a h (and2 q6').2).x (nit (and2 q6').2)).se) rfl (fun st => by first | (simp only [tst]; done) | (simp only [tst]; rfl))
          · match ms, es, l1, l2 with
            | [], [], _, _ => exact .of (se_clear q2 q3 z) rfl (fun st => by first | (simp only [tst]; done) | (simp only [tst]; rfl))
          · match ms, es, l1, l2 with
            | [], [], _, _ => exact .of (se_pop q2 q3 z) rfl (fun st => by first | (simp only [tst]; done) | (simp only [tst]; rfl))
        | cons kw kws => exact ff q
      | _ => exact ff q
    | _ => exact ff q
  | .lc elt tg src cond, w, X, G, c, e, h, q => by
    refine .mk' ?_
    cases e with
    | ListComp eelt gens scope pos =>
      match gens, q with
      | [], q => exact ff q
      | ⟨_, _, _, _⟩ :: _ :: _, q => exact ff q
      | [⟨etg, eiter, ifs, k⟩], q =>
        obtain ⟨q, q8⟩ := and2 q
        obtain ⟨q, q7⟩ := and2 q
        obtain ⟨q, q6⟩ := and2 q
        obtain ⟨q, q5⟩ := and2 q
        obtain ⟨q, q4⟩ := and2 q
        obtain ⟨q, q3'⟩ := and2 q
        obtain ⟨q, q3⟩ := and2 q
        obtain ⟨q1, q2⟩ := and2 q
        have ek := eq_of_beq q2
        subst ek
        have hc := h.ok.calm q1
        have hi : SI X G src etg eiter := (chk_ok src h q3).i etg q3'
        refine .of (se_lc hc h.ok.nd hi (own := ownOf c.N tg.vars) ?_ ownOf_snd (fun s H C cl fp => chkT_ok h.blk.ok hc tg etg q6) (fun s H C cl fp => ?_) (fun s H C cl fp => ((chk_ok elt h.blk q7).x (nit q7)).se) (notSet_ok q4)) rfl (fun st => by first | (simp only [tst]; done) | (simp only [tst]; rfl))
        · have b := blkB_ok q5
          rw [← h.ok.N, ← h.ok.sc] at b
          rw [h.ok.N] at b ⊢
          exact b
        · match ifs, q8 with
          | [], q8 => exact .inl ⟨isNo_eq q8, rfl⟩
          | [ec], q8 =>
            obtain ⟨b1, b2⟩ := and2 q8
            exact .inr ⟨isNo_ne b1, ec, rfl, ((chk_ok cond h.blk b2).x (nit b2)).st⟩
          | _ :: _ :: _, q8 => exact ff q8
    | _ => exact ff q
  | .trv a, w, X, G, c, e, h, q => by
    refine .mk' ?_
    cases e with
    | Call ef es kws p =>
      cases ef with
      | Name x p2 =>
        match es, kws, q with
        | [], _, q => exact ff q
        | _ :: _ :: _, _, q => exact ff q
        | [e1], _ :: _, q => exact ff q
        | [e1], [], q =>
          obtain ⟨q, q5⟩ := and2 q
          obtain ⟨q, q4⟩ := and2 q
          obtain ⟨q, q3⟩ := and2 q
          obtain ⟨q1, q2⟩ := and2 q
          have ex := eq_of_beq q2
          subst ex
          obtain ⟨p3, ea, p4, rfl, g1, g2, g3⟩ := isRev_ok q4
          rw [g3] at q5
          exact .of (se_trv (h.ok.calm q1) (h.ok.glo q3) (h.nob.1 .tuple) (h.ok.glo g1) h.nob.2.2.2.2.1 g2 ((chk_ok a h q5).x (nit q5)).se) rfl (fun st => by first | (simp only [tst]; done) | (simp only [tst]; rfl))
      | _ => exact ff q
    | _ => exact ff q
theorem chks_ok : ∀ (ms : List E) {X : Cx} {G : Gam} {c : Ck} {es : List Expr}, CtE X G c → chks c ms es = true → SA X G ms es ∧ es.all noStar = true ∧ es.length = ms.length ∧ ∀ (i : Nat) (m : E) (e : Expr), ms[i]? = some m → es[i]? = some e → SE X G m e
  | [], X, G, c, es, h, q => by
    cases es with
    | nil => exact ⟨sa_nil, rfl, rfl, fun i m e z => by simp at z⟩
    | cons e es => exact ff q
  | m :: ms, X, G, c, es, h, q => by
    cases es with
    | nil => exact ff q
    | cons e es =>
      obtain ⟨q, q3⟩ := and2 q
      obtain ⟨q1, q2⟩ := and2 q
      obtain ⟨z1, z2, z3, z4⟩ := chks_ok ms h q3
      have z := ((chk_ok m h q2).x (nit q2)).se
      refine ⟨sa_cons (star_cons q1) z z1, by simp [q1, z2], by simp [z3], fun i m' e' e1 e2 => ?_⟩
      cases i with
      | zero =>
        simp at e1 e2
        subst e1 e2
        exact z
      | succ i => exact z4 i m' e' (by simpa using e1) (by simpa using e2)
end
end EW

-- part: Sound14
set_option maxHeartbeats 1000000
/-! statements -/
namespace EW
open PySem PySem.Spec PyProof.Rows L2 RZ RT
/-- what a body gives back -/
def RetR (K : PySem.W.Frag) (ρ : List Addr) (H : Hp) (st : St) (σ : L2.St) (ρ' : List Addr) (H' : Hp) : EV → V → Prop
  | .d x, v => VR K ρ' H' x v
  | .o x, v => ∃ p, v = .ref p ∧ OR K ρ' H' p x ∧ p ∉ ρ' ∧ (H p = none ∨ Dom st σ ρ p)
  | _, _ => False
/-- what is wanted behind a statement; vs: the slots that it may store to -/
def FQ (X : Cx) (ρ : List Addr) (H : Hp) (st : St) (σ : L2.St) (vs : List Nat) (D : Ends) (f : Fl) (st' : St) : Prop := match f with
  | .nx => ∀ σ' H' ρ', Step X.K ρ H st σ ρ' H' st' σ' → (∀ j, j ∉ vs → σ'[j]? = σ[j]?) → D.nx σ' H'
  | .ct => ∀ σ' H' ρ', Step X.K ρ H st σ ρ' H' st' σ' → (∀ j, j ∉ vs → σ'[j]? = σ[j]?) → D.ct σ' H'
  | .rt r => ∀ v σ' H' ρ', Step X.K ρ H st σ ρ' H' st' σ' → RetR X.K ρ H st σ ρ' H' r v → D.rt v H'
def XS (X : Cx) (ρ : List Addr) (H : Hp) (st : St) (σ : L2.St) (Wx : WX) (c : String) (st' : St) : Prop :=
  ∀ cls σ' H' ρ', Step X.K ρ H st σ ρ' H' st' σ' → ClsIs X c cls → Wx cls none σ' H'
def tS (X : Cx) (f : St → Out Fl) (vs : List Nat) (Wx : WX) : TS := fun D σ H => ∃ ρ st, Res X.K ρ H st σ ∧ Wp (f st) (FQ X ρ H st σ vs D) (XS X ρ H st σ Wx)
def SS (X : Cx) (G : Gam) (m : S) (s : Stmt) : Prop := ∀ Wx, Takes X Wx → PassesOwn (model X.prog X.w) X.A X.env X.xe → PS X s (tS X (ex G m) m.asgs Wx)
def SSs (X : Cx) (G : Gam) (ms : List S) (ss : List Stmt) : Prop := ∀ Wx, Takes X Wx → PassesOwn (model X.prog X.w) X.A X.env X.xe → PSs X ss (tS X (exs G ms) (S.asgss ms) Wx)
section
variable {X : Cx} {G : Gam} {Wx : WX} {ρ ρ1 : List Addr} {H H1 : Hp} {st st1 : St} {σ σ1 : L2.St} {vs vs' : List Nat} {D D' : Ends}
theorem new_back {K : PySem.W.Frag} (s : Step K ρ H st σ ρ1 H1 st1 σ1) {p : Addr} (h : H1 p = none ∨ Dom st1 σ1 ρ1 p) : H p = none ∨ Dom st σ ρ p := by
  rcases h with h | h
  · cases e : H p with
    | none => exact .inl rfl
    | some o =>
      by_cases n : Dom st σ ρ p
      · exact .inr n
      · rw [s.frame p o e n] at h
        cases h
  · rcases s.grow p h with z | z
    · exact .inr z
    · exact .inl z
theorem RetR.back {K : PySem.W.Frag} {ρ' : List Addr} {H' : Hp} {r : EV} {v : V} (s : Step K ρ H st σ ρ1 H1 st1 σ1) (h : RetR K ρ1 H1 st1 σ1 ρ' H' r v) : RetR K ρ H st σ ρ' H' r v := by
  cases r with
  | d x => exact h
  | o x =>
    obtain ⟨p, e, h1, n, h2⟩ := h
    exact ⟨p, e, h1, n, new_back s h2⟩
  | pl i => exact h
  | it k vs => exact h
theorem FQ.back {f : Fl} {st' : St} (s : Step X.K ρ H st σ ρ1 H1 st1 σ1) (ag : ∀ j, j ∉ vs → σ1[j]? = σ[j]?) (h : FQ X ρ H st σ vs D f st') : FQ X ρ1 H1 st1 σ1 vs D f st' := by
  cases f with
  | nx => exact fun σ' H' ρ' s' ag' => h σ' H' ρ' (s.trans s') fun j hj => (ag' j hj).trans (ag j hj)
  | ct => exact fun σ' H' ρ' s' ag' => h σ' H' ρ' (s.trans s') fun j hj => (ag' j hj).trans (ag j hj)
  | rt r => exact fun v σ' H' ρ' s' hr => h v σ' H' ρ' (s.trans s') (hr.back s)
theorem FQ.slots {f : Fl} {st' : St} (hs : ∀ j, j ∈ vs' → j ∈ vs) (h : FQ X ρ H st σ vs D f st') : FQ X ρ H st σ vs' D f st' := by
  cases f with
  | nx => exact fun σ' H' ρ' s' ag' => h σ' H' ρ' s' fun j hj => ag' j fun z => hj (hs j z)
  | ct => exact fun σ' H' ρ' s' ag' => h σ' H' ρ' s' fun j hj => ag' j fun z => hj (hs j z)
  | rt r => exact h
theorem XS.back {c : String} {st' : St} (s : Step X.K ρ H st σ ρ1 H1 st1 σ1) (h : XS X ρ H st σ Wx c st') : XS X ρ1 H1 st1 σ1 Wx c st' := fun cls σ' H' ρ' s' hc => h cls σ' H' ρ' (s.trans s') hc
theorem XS.xq {c : String} {st' : St} (h : XS X ρ H st σ Wx c st') : XQ X ρ H st σ Wx c st' := fun cls H' ρ' s' hc => h cls σ H' ρ' s' hc
/-- an expression, then the rest of the statement -/
theorem tE.bindS {α : Type} {f : St → Out EV} {g : EV → St → Out α} {P : α → St → Prop} {R : VK} (hR : Res X.K ρ H st σ) (h : Wp ((f st).bind g) P (XS X ρ H st σ Wx))
    (k : ∀ r st1 v H1 ρ1, Step X.K ρ H st σ ρ1 H1 st1 σ → ER X.K ρ1 H1 st1 σ r v → New ρ H st σ r v → Wp (g r st1) P (XS X ρ H st σ Wx) → R v H1) : tE X f Wx σ H R :=
  tE.bind hR h (fun _ _ x => x.xq) k
theorem tB.bindS {α : Type} {f : St → Out Bool} {g : Bool → St → Out α} {P : α → St → Prop} {R : Bool → Hp → Prop} (hR : Res X.K ρ H st σ) (h : Wp ((f st).bind g) P (XS X ρ H st σ Wx))
    (k : ∀ b st1 H1 ρ1, Step X.K ρ H st σ ρ1 H1 st1 σ → Wp (g b st1) P (XS X ρ H st σ Wx) → R b H1) : tB X f Wx σ H R :=
  tB.bind hR h (fun _ _ x => x.xq) k
theorem ss_pass {pos : Pos} : SS X G .pass (.Pass pos) := fun Wx tk po => PS.imp ps_pass (by
  rintro D σ H ⟨ρ, st, hR, h⟩
  simp only [ex] at h
  exact h σ H ρ (Step.refl hR) fun _ _ => rfl)
theorem ss_cont {pos : Pos} : SS X G .cont (.Continue pos) := fun Wx tk po => PS.imp ps_continue (by
  rintro D σ H ⟨ρ, st, hR, h⟩
  simp only [ex] at h
  exact h σ H ρ (Step.refl hR) fun _ _ => rfl)
theorem sss_nil : SSs X G [] [] := fun Wx tk po => PSs.imp pss_nil (by
  rintro D σ H ⟨ρ, st, hR, h⟩
  simp only [exs] at h
  exact h σ H ρ (Step.refl hR) fun _ _ => rfl)
theorem sss_cons {m : S} {ms : List S} {s : Stmt} {ss : List Stmt} (h1 : SS X G m s) (h2 : SSs X G ms ss) : SSs X G (m :: ms) (s :: ss) := fun Wx tk po => by
  refine PSs.imp (pss_cons (h1 Wx tk po) (h2 Wx tk po)) ?_
  rintro D σ H ⟨ρ, st, hR, h⟩
  simp only [exs] at h
  refine ⟨ρ, st, hR, (Wp.bind.mp h).mono (fun f st1 h => ?_) fun _ _ x => x⟩
  cases f with
  | nx =>
    intro σ1 H1 ρ1 s1 ag
    have ag' : ∀ j, j ∉ S.asgss (m :: ms) → σ1[j]? = σ[j]? := fun j hj => ag j fun z => hj (by simp [S.asgss, z])
    exact ⟨ρ1, st1, s1.res, Wp.mono h (fun f st2 x => (x.back s1 ag').slots fun j hj => by simp [S.asgss, hj]) fun _ _ x => x.back s1⟩
  | ct => exact fun σ1 H1 ρ1 s1 ag => h σ1 H1 ρ1 s1 fun j hj => ag j fun z => hj (by simp [S.asgss, z])
  | rt r => exact h
theorem ss_ife {c : E} {a b : List S} {ec : Expr} {ea eb : List Stmt} {pos : Pos} (hc : ST X G c ec) (ha : SSs X G a ea) (hb : SSs X G b eb) : SS X G (.ife c a b) (.If ec ea eb pos) := fun Wx tk po => by
  refine PS.imp (ps_if (hc Wx tk) (ha Wx tk po) (hb Wx tk po)) ?_
  rintro D σ H ⟨ρ, st, hR, h⟩
  simp only [ex] at h
  refine tB.bindS hR h fun t st1 H1 ρ1 s1 h => ?_
  cases t with
  | true => exact iteT ⟨ρ1, st1, s1.res, Wp.mono h (fun f st2 x => (x.back s1 fun _ _ => rfl).slots fun j hj => by simp [S.asgs, hj]) fun _ _ x => x.back s1⟩
  | false => exact iteF ⟨ρ1, st1, s1.res, Wp.mono h (fun f st2 x => (x.back s1 fun _ _ => rfl).slots fun j hj => by simp [S.asgs, hj]) fun _ _ x => x.back s1⟩
theorem ss_ret {m : E} {e : Expr} {pos : Pos} (he : SE X G m e) : SS X G (.ret m) (.Return (some e) pos) := fun Wx tk po => by
  refine PS.imp (ps_ret (he Wx tk)) ?_
  rintro D σ H ⟨ρ, st, hR, h⟩
  simp only [ex] at h
  refine tE.bindS hR h fun r st1 v H1 ρ1 s1 r1 n1 h => ?_
  cases q : leave r st1 with
  | none =>
    rw [q] at h
    exact h.elim
  | some r' =>
    rw [q] at h
    refine h v σ H1 ρ1 s1 ?_
    cases r with
    | d x =>
      cases q
      exact r1
    | o x =>
      cases q
      obtain ⟨p, e, h1, n⟩ := r1
      refine ⟨p, e, h1, fun z => n (.inl z), ?_⟩
      exact n1 x p rfl e
    | it k vs => cases q
    | pl i =>
      have hi : σ[i]? = some (some v) := r1
      simp only [leave] at q
      cases q1 : st1.σ[i]? with
      | none =>
        rw [q1] at q
        cases q
      | some sl =>
        rw [q1] at q
        have z := s1.res.sl i sl q1
        cases sl with
        | un => cases q
        | d x =>
          cases q
          obtain ⟨v', e1, h1⟩ := z
          rw [hi] at e1
          cases e1
          exact h1
        | o x =>
          cases q
          obtain ⟨p, e1, h1, n⟩ := z
          rw [hi] at e1
          cases e1
          exact ⟨p, rfl, h1, n, new_back s1 (.inr (.inr ⟨i, x, q1, hi⟩))⟩
theorem ss_retN {pos : Pos} : SS X G (.ret (.k .non)) (.Return none pos) := fun Wx tk po => by
  refine PS.imp ps_retN ?_
  rintro D σ H ⟨ρ, st, hR, h⟩
  simp only [ex, ev] at h
  exact h .non σ H ρ (Step.refl hR) rfl

/-! ### assignments -/
theorem bindV_sound {tg : Tg} {r : EV} {v : V} {st2 : St} {Q : L2.St → Hp → Prop} (s1 : Step X.K ρ H st σ ρ1 H1 st1 σ) (r1 : ER X.K ρ1 H1 st1 σ r v) (n1 : New ρ H st σ r v) (e : bindV tg r st1 = some st2)
    (k : ∀ σ' ρ', Step X.K ρ H st σ ρ' H1 st2 σ' → (∀ j, j ∉ tg.vars → σ'[j]? = σ[j]?) → Q σ' H1) : gTg X.K tg v σ H1 Q := by
  cases tg with
  | v i =>
    have ag : ∀ w, ∀ j, j ∉ Tg.vars (.v i) → (σ.set i (some w))[j]? = σ[j]? := fun w j hj => by
      have hj' : j ≠ i := by simpa [Tg.vars] using hj
      exact List.getElem?_set_ne (Ne.symm hj')
    show Q (σ.set i (some v)) H1
    cases r with
    | d x =>
      cases e
      obtain ⟨g1, g2⟩ := Res.setD (i := i) s1.res r1
      exact k _ ρ1 (s1.trans (Step.of_res g1 g2)) (ag v)
    | o x =>
      cases e
      obtain ⟨p, rfl, h1, n⟩ := r1
      obtain ⟨g1, g2⟩ := Res.setO (i := i) s1.res h1 n
      refine k _ ρ1 ⟨g1, s1.pre, s1.frame, fun a d => ?_⟩ (ag _)
      rcases g2 a d with z | z
      · exact s1.grow a z
      · subst z
        rcases n1 x a rfl rfl with z | z
        · exact .inr z
        · exact .inl z
    | it k' vs => cases e
    | pl j =>
      simp only [bindV, put] at e
      cases q : toD (.pl j) st1 with
      | none =>
        rw [q] at e
        cases e
      | some xs =>
        obtain ⟨x, st'⟩ := xs
        rw [q] at e
        cases e
        obtain ⟨ρ', g1, g2, g3, g4⟩ := toD_core s1.res r1 q
        have s2 : Step X.K ρ1 H1 st1 σ ρ' H1 st' σ := ⟨g1, g2, fun _ _ e _ => e, fun a d => by
          rcases g4 a d with z | ⟨y, z, _⟩
          · exact .inl z
          · cases z⟩
        obtain ⟨g5, g6⟩ := Res.setD (i := i) g1 g3
        exact k _ ρ' ((s1.trans s2).trans (Step.of_res g5 g6)) (ag v)
  | tup ts =>
    simp only [bindV] at e
    cases q : rd st1 r with
    | none =>
      rw [q] at e
      cases e
    | some w =>
      rw [q] at e
      cases w with
      | o o => cases e
      | d d =>
        cases d with
        | tup ds =>
          obtain ⟨hv, _⟩ := rd_sound s1.res r1 q
          refine gTg_sound (v := v) (.tup ts) (.tup ds) v st1 st2 σ Q s1.res hv e fun σ' g1 g2 g3 g4 => k σ' ρ1 (s1.trans (Step.of_res g1 g4)) g2
        | _ => cases e
theorem tS_asg {tg : Tg} {m : E} {te : TE} (hte : ∀ σ H Q, tE X (ev G m) Wx σ H Q → te σ H Q) : ∀ D σ H, tS X (ex G (.asg tg m)) (S.asgs (.asg tg m)) Wx D σ H → tAsg te (gTg X.K tg) D σ H := by
  rintro D σ H ⟨ρ, st, hR, h⟩
  simp only [ex] at h
  refine hte _ _ _ (tE.bindS hR h fun r st1 v H1 ρ1 s1 r1 n1 h => ?_)
  cases q : bindV tg r st1 with
  | none =>
    rw [q] at h
    exact h.elim
  | some st2 =>
    rw [q] at h
    exact bindV_sound s1 r1 n1 q fun σ' ρ' s' ag => h σ' H1 ρ' s' ag
theorem ss_asg {tg : Tg} {m : E} {t e : Expr} {pos : Pos} (he : SE X G m e) (hg : PG X t (gTg X.K tg)) (hs : swapsWithSole [t] e pos.line X.env = pure false) (hw : swappedStores [t] e X.env = pure none)
    (h1 : (assignEach [t] X.env).map (·.2) = [assign t X.env]) : SS X G (.asg tg m) (.Assign [t] e pos) := fun Wx tk po => PS.imp (ps_asg (he Wx tk) hg hs hw h1) (tS_asg fun _ _ _ x => x)
theorem ss_ex {m : E} {e : Expr} {pos : Pos} (he : SE X G m e) (hs : swapsWith e none pos.line X.env = pure false) : SS X G (.ex m) (.Expr e pos) := fun Wx tk po => by
  refine PS.imp (ps_expr (he Wx tk) hs) ?_
  rintro D σ H ⟨ρ, st, hR, h⟩
  simp only [ex] at h
  exact tE.bindS hR h fun r st1 v H1 ρ1 s1 r1 n1 h => h σ H1 ρ1 s1 fun _ _ => rfl

/-! ### loops -/
theorem ss_whl {c : E} {b : List S} {ec : Expr} {eb : List Stmt} {pos : Pos} (hc : ST X G c ec) (hb : SSs X G b eb) : SS X G (.whl c b) (.While ec eb [] pos) := fun Wx tk po => by
  refine PS.imp (ps_while po (hc Wx tk) (hb Wx tk po)) ?_
  rintro D σ H ⟨ρ, st, hR, h⟩
  simp only [ex] at h
  refine ⟨fun n σi Hi => ∃ ρi sti, Step X.K ρ H st σ ρi Hi sti σi ∧ (∀ j, j ∉ S.asgss b → σi[j]? = σ[j]?) ∧ Wp (whL (tst G c) (exs G b) n sti) (FQ X ρ H st σ (S.asgss b) D) (XS X ρ H st σ Wx), ⟨G.W, ρ, st, Step.refl hR, fun _ _ => rfl, h⟩, ?_⟩
  rintro n σi Hi ⟨ρi, sti, s1, ag, hw⟩
  cases n with
  | zero => exact hw.elim
  | succ n =>
    unfold whL at hw
    refine tB.bind s1.res hw (fun _ _ x => (x.back s1).xq) fun t st1 H1 ρ1 s2 hw => ?_
    have s3 := s1.trans s2
    cases t with
    | false =>
      refine iteF ?_
      simp only [Bool.false_eq_true, if_false] at hw
      exact hw σi H1 ρ1 s3 ag
    | true =>
      refine iteT ⟨fun σ' H' => ∃ ρ' st', Step X.K ρ H st σ ρ' H' st' σ' ∧ (∀ j, j ∉ S.asgss b → σ'[j]? = σ[j]?) ∧ Wp (whL (tst G c) (exs G b) n st') (FQ X ρ H st σ (S.asgss b) D) (XS X ρ H st σ Wx), fun σ' H' ⟨ρ', st', a1, a2, a3⟩ => ⟨n, Nat.lt_succ_self n, ρ', st', a1, a2, a3⟩, ?_⟩
      simp only [if_true] at hw
      refine ⟨ρ1, st1, s2.res, (Wp.bind.mp hw).mono (fun f st2 hf => ?_) fun _ _ x => x.back s3⟩
      cases f with
      | nx => exact fun σ' H' ρ' s4 ag' => ⟨ρ', st2, s3.trans s4, fun j hj => (ag' j hj).trans (ag j hj), hf⟩
      | ct => exact fun σ' H' ρ' s4 ag' => ⟨ρ', st2, s3.trans s4, fun j hj => (ag' j hj).trans (ag j hj), hf⟩
      | rt r => exact fun v σ' H' ρ' s4 hr => hf v σ' H' ρ' (s3.trans s4) (hr.back s3)
open Classical in
theorem ss_for {tg : Tg} {src : E} {b : List S} {etg eiter : Expr} {eb : List Stmt} {pos : Pos} (hc : X.calm = true) (hi : SI X G src etg eiter) (hg : PG X etg (gTg X.K tg)) (hb : SSs X G b eb) (hs : ∀ x, foldedSetIterable eiter X.env x = pure x) :
    SS X G (.for_ tg src b) (.For etg eiter eb [] pos) := fun Wx tk po => by
  refine PS.imp (ps_for po hc (hi Wx tk) hg (hb Wx tk po) hs) ?_
  rintro D σ H ⟨ρ, st, hR, h⟩
  simp only [ex] at h
  refine ⟨ρ, st, hR, (Wp.bind.mp h).mono (fun v st1 h => ?_) (fun _ _ x => x.xq)⟩
  cases q : items st1 v with
  | none =>
    rw [q] at h
    exact h.elim
  | some xs =>
    rw [q] at h
    simp only at h
    split at h
    · rename_i hp
      simp only [List.all_eq_true, Bool.not_eq_true', List.contains_eq_mem, decide_eq_false_iff_not] at hp
      have hvs : S.asgs (.for_ tg src b) = tg.vars ++ S.asgss b := by simp [S.asgs]
      rw [hvs] at h
      refine ⟨xs, rfl, fun J H1 ρ1 us s1 hsrc goes => ?_⟩
      refine ⟨fun i m σi Hi => i ≤ xs.length ∧ m = xs.length - i ∧ ∃ ρi sti, Step X.K ρ H st σ ρi Hi sti σi ∧ Step X.K ρ1 H1 st1 σ ρi Hi sti σi ∧ (∀ j, j ∉ tg.vars ++ S.asgss b → σi[j]? = σ[j]?) ∧
        Wp (foL (fun s => items s v = some xs) tg (exs G b) (xs.drop i) sti) (FQ X ρ H st σ (tg.vars ++ S.asgss b) D) (XS X ρ H st σ Wx), ⟨_, Nat.zero_le _, rfl, ρ1, st1, s1, Step.refl s1.res, fun _ _ => rfl, h⟩, ?_⟩
      rintro i m σi Hi ⟨hi, rfl, ρi, sti, s2, s2', ag, hw⟩
      have hst : items sti v = some xs := by
        cases q : xs.drop i with
        | nil =>
          rw [q] at hw
          unfold foL at hw
          split at hw
          · assumption
          · exact hw.elim
        | cons x r =>
          rw [q] at hw
          unfold foL at hw
          split at hw
          · assumption
          · exact hw.elim
      have hsrc' : Src X.K ρi Hi sti σi v us := Src.later s2' (Step.pers s1.res s2') (fun j hj => ag j (hp j hj)) hsrc
      have g := goes ρi Hi sti σi s2.res hsrc' hst
      by_cases hlt : i < xs.length
      · refine .inr ⟨g.go i hlt, fun σ' H' => ∃ ρ' st', Step X.K ρ H st σ ρ' H' st' σ' ∧ Step X.K ρ1 H1 st1 σ ρ' H' st' σ' ∧ (∀ j, j ∉ tg.vars ++ S.asgss b → σ'[j]? = σ[j]?) ∧
          Wp (foL (fun s => items s v = some xs) tg (exs G b) (xs.drop (i + 1)) st') (FQ X ρ H st σ (tg.vars ++ S.asgss b) D) (XS X ρ H st σ Wx), fun σ' H' ⟨ρ', st', a1, a2, a3, a4⟩ => ⟨xs.length - (i + 1), by omega, by omega, rfl, ρ', st', a1, a2, a3, a4⟩, fun x H' hy => ?_⟩
        obtain ⟨same, d, hd, hv⟩ := g.yld i x H' hlt hy
        have e : xs.drop i = d :: xs.drop (i + 1) := by
          rw [List.drop_eq_getElem_cons hlt]
          rw [List.getElem?_eq_getElem hlt] at hd
          cases hd
          rfl
        rw [e] at hw
        unfold foL at hw
        rw [if_pos hst] at hw
        have s3 := Step.ext s2.res same
        cases q : bindD tg d sti with
        | none =>
          rw [q] at hw
          exact hw.elim
        | some st2 =>
          rw [q] at hw
          refine gTg_sound (v := x) tg d x sti st2 σi _ s3.res hv q fun σ2 r2 g1 g2 g3 => ?_
          have s4 := s3.trans (Step.of_res r2 g3)
          have s5 := s2.trans s4
          have s5' := s2'.trans s4
          have ag2 : ∀ j, j ∉ tg.vars ++ S.asgss b → σ2[j]? = σ[j]? := fun j hj => (g1 j fun z => hj (by simp [z])).trans (ag j hj)
          refine ⟨ρi, st2, r2, (Wp.bind.mp hw).mono (fun f st3 hf => ?_) fun _ _ x => x.back s5⟩
          cases f with
          | nx => exact fun σ' H' ρ' s6 ag' => ⟨ρ', st3, s5.trans s6, s5'.trans s6, fun j hj => (ag' j fun z => hj (by simp [z])).trans (ag2 j hj), hf⟩
          | ct => exact fun σ' H' ρ' s6 ag' => ⟨ρ', st3, s5.trans s6, s5'.trans s6, fun j hj => (ag' j fun z => hj (by simp [z])).trans (ag2 j hj), hf⟩
          | rt r => exact fun v σ' H' ρ' s6 hr => hf v σ' H' ρ' (s5.trans s6) (hr.back s5)
      · have e : i = xs.length := by omega
        subst e
        refine .inl ⟨g.stop, ?_⟩
        rw [List.drop_length] at hw
        unfold foL at hw
        rw [if_pos hst] at hw
        exact hw σi Hi ρi s2 ag
    · exact h.elim
end
end EW

-- part: Sound15
set_option maxHeartbeats 4000000
/-! the check of statements, and that it is sound -/
namespace EW
open PySem PySem.Spec PyProof.Rows L2 RZ RT
def notComp : Expr → Bool
  | .ListComp _ _ _ _ => false
  | .SetComp _ _ _ _ => false
  | .DictComp _ _ _ _ _ => false
  | _ => true
theorem swaps_no {e : Expr} {t : Option Expr} {l : Nat} {env : Env} (h : notComp e = true) : swapsWith e t l env = pure false := by
  cases e <;> first | rfl | exact ff h
/-- name = [..] on one line -/
def swB (c : Ck) (t e : Expr) : Bool := match t, e with
  | .Name x p, .ListComp _ _ s p2 => c.sc.names.lookup x == some .local && p.line == p2.line && !(s.names.any fun (n, k) => n == x && (k == .local || k == .cell))
  | _, _ => false
def notTup : Expr → Expr → Bool
  | .Tuple _ _ _, .Tuple _ _ _ => false
  | .List _ _, .Tuple _ _ _ => false
  | _, _ => true
theorem swapped_no {t e : Expr} {env : Env} (h : notTup t e = true) : swappedStores [t] e env = pure none := by
  cases t <;> first | rfl | (cases e <;> first | rfl | exact ff h)
def lcOnly : Expr → Bool
  | .SetComp _ _ _ _ => false
  | .DictComp _ _ _ _ _ => false
  | _ => true
section
variable {X : Cx} {G : Gam} {c : Ck}
theorem swaps_is {x : Str} {p p2 : Pos} {elt : Expr} {gs : List Comprehension} {s : Scope} {l : Nat} (h : CtOk X c) (hk : c.sc.kind = .function) : swapsWith (.ListComp elt gs s p2) (some (.Name x p)) l X.env = pure (swB c (.Name x p) (.ListComp elt gs s p2)) := by
  have hb : X.env.blockKind = .function := by
    unfold Env.blockKind
    rw [h.sc, hk]
    rfl
  have e : X.env.kindOf x = c.sc.names.lookup x := by
    show X.env.scope.names.lookup x = _
    rw [h.sc]
  unfold swapsWith swB
  simp only [hb, e, Expr.pos]
  rfl
theorem ss_setLc {i : Nat} {elt cond src : E} {tg : Tg} {y : Str} {py : Pos} {eelt etg eiter : Expr} {ifs : List Expr} {scope : Scope} {own : List (Str × Nat)} {pos spos : Pos} (hc : X.calm = true) (hN : X.N.Nodup) (hy : X.N[i]? = some y) (hyl : X.env.scope.names.lookup y = some .local)
    (hsw : swapsWith (.ListComp eelt [⟨etg, eiter, ifs, 0⟩] scope pos) (some (.Name y py)) spos.line X.env = pure true) (hi : SI X G src etg eiter) (ok : BlkOk X.N X.env.scope scope own) (hv : own.map (·.2) = tg.vars)
    (hg : ∀ (s : Shared) (H : Hp) (C : Addr) (cl : List (Str × Addr)) (fp : List Addr), PG (X.blk s H scope (compEnvC scope cl C X.env) fp) etg (gTg X.K tg))
    (ht : ∀ (s : Shared) (H : Hp) (C : Addr) (cl : List (Str × Addr)) (fp : List Addr), (cond = .no ∧ ifs = []) ∨ (cond ≠ .no ∧ ∃ c, ifs = [c] ∧ ST (X.blk s H scope (compEnvC scope cl C X.env) fp) G cond c))
    (he : ∀ (s : Shared) (H : Hp) (C : Addr) (cl : List (Str × Addr)) (fp : List Addr), SE (X.blk s H scope (compEnvC scope cl C X.env) fp) G elt eelt) (hs : ∀ x, foldedSetIterable eiter X.env x = pure x) :
    SS X G (.asg (.v i) (.lc elt tg src cond)) (.Assign [.Name y py] (.ListComp eelt [⟨etg, eiter, ifs, 0⟩] scope pos) spos) := fun Wx tk po => by
  refine PS.imp (ps_setLc hc hN hy hyl hsw (hi Wx tk) ok hg (tt := tB X (lcTest G cond) W0) (te := tE X (ev G elt) W0) (fun s H C cl fp => ?_) (fun s H C cl fp => he s H C cl fp W0 takes_blk) hs) ?_
  · rcases ht s H C cl fp with ⟨rfl, rfl⟩ | ⟨hn, c, rfl, h⟩
    · refine PTs.imp pts_nil ?_
      rintro σ H Q ⟨ρ, st, hR, h⟩
      exact h H ρ (Step.refl hR)
    · have e : lcTest G cond = tst G cond := by
        funext s
        cases cond <;> first | rfl | exact absurd rfl hn
      rw [e]
      exact pts_one (h W0 takes_blk)
  · rw [hv]
    exact tS_asg (tg := .v i) fun σ H Q => tE_lc
end
mutual
def chkS (c : Ck) : S → Stmt → Bool
  | .pass, .Pass _ => true
  | .cont, .Continue _ => true
  | .asg tg m, .Assign [t] e _ => c.calm && (c.sc.kind == .function) && noStar t && lcOnly e && notTup t e && chkT c tg t && chk c false m e
  | .ex m, .Expr e _ => notComp e && chk c false m e
  | .ret m, .Return (some e) _ => chk c false m e
  | .ret (.k .non), .Return none _ => true
  | .ife t a b, .If et ea eb _ => chk c false t et && chkSs c a ea && chkSs c b eb
  | .whl t b, .While et eb [] _ => chk c false t et && chkSs c b eb
  | .for_ tg src b, .For etg eiter eb [] _ => c.calm && chk c true src eiter && tgOk src etg && chkT c tg etg && notSet eiter && chkSs c b eb
  | _, _ => false
def chkSs (c : Ck) : List S → List Stmt → Bool
  | [], [] => true
  | m :: ms, s :: ss => chkS c m s && chkSs c ms ss
  | _, _ => false
end
section
variable {X : Cx} {G : Gam} {c : Ck}
theorem asg_one {t : Expr} {env : Env} (h : noStar t = true) : (assignEach [t] env).map (·.2) = [assign t env] := by
  rw [asg_cons h]
  rfl
theorem chkA_ok {tg : Tg} {m : E} {t e : Expr} {pos : Pos} (h : CtE X G c) (q : (c.calm && (c.sc.kind == .function) && noStar t && lcOnly e && notTup t e && chkT c tg t && chk c false m e) = true) : SS X G (.asg tg m) (.Assign [t] e pos) := by
  obtain ⟨q, q7⟩ := and2 q
  obtain ⟨q, q6⟩ := and2 q
  obtain ⟨q, q5⟩ := and2 q
  obtain ⟨q, q4⟩ := and2 q
  obtain ⟨q, q3⟩ := and2 q
  obtain ⟨q1, q2⟩ := and2 q
  have hk := eq_of_beq q2
  have hc := h.ok.calm q1
  have hg := chkT_ok h.ok hc tg t q6
  have hm := ((chk_ok m h q7).x (nit q7)).se
  have plain : swapsWith e (some t) pos.line X.env = pure false → SS X G (.asg tg m) (.Assign [t] e pos) := fun z =>
    ss_asg hm hg z (swapped_no q5) (asg_one q3)
  cases z : notComp e with
  | true => exact plain (swaps_no z)
  | false =>
    cases e with
    | ListComp eelt gens scope p2 =>
      cases t with
      | Name x p =>
        cases z2 : swB c (.Name x p) (.ListComp eelt gens scope p2) with
        | false => exact plain (by rw [swaps_is h.ok hk, z2])
        | true =>
          cases m with
          | lc elt tg2 src cond =>
            match gens, q7, z2 with
            | [], q, _ => exact ff q
            | ⟨_, _, _, _⟩ :: _ :: _, q, _ => exact ff q
            | [⟨etg, eiter, ifs, k⟩], q, z2 =>
              have hsw := swaps_is (p := p) (p2 := p2) (elt := eelt) (gs := [⟨etg, eiter, ifs, k⟩]) (s := scope) (x := x) (l := pos.line) h.ok hk
              rw [z2] at hsw
              obtain ⟨q, q8⟩ := and2 q
              obtain ⟨q, d7⟩ := and2 q
              obtain ⟨q, d6⟩ := and2 q
              obtain ⟨q, d5⟩ := and2 q
              obtain ⟨q, d4⟩ := and2 q
              obtain ⟨q, d3'⟩ := and2 q
              obtain ⟨q, d3⟩ := and2 q
              obtain ⟨q1, q2⟩ := and2 q
              have ek := eq_of_beq q2
              subst ek
              have hi : SI X G src etg eiter := (chk_ok src h d3).i etg d3'
              cases tg with
              | v i =>
                obtain ⟨b1, b2⟩ := and2 (show ((c.N[i]? == some x) && c.loc x) = true from q6)
                have hl : X.env.scope.names.lookup x = some .local := by
                  rw [h.ok.sc]
                  unfold swB at z2
                  simp only [Bool.and_eq_true, beq_iff_eq] at z2
                  exact z2.1.1
                refine ss_setLc hc h.ok.nd (h.ok.ix b1) hl hsw hi (own := ownOf c.N tg2.vars) ?_ ownOf_snd (fun s H C cl fp => chkT_ok h.blk.ok hc tg2 etg d6) (fun s H C cl fp => ?_) (fun s H C cl fp => ((chk_ok elt h.blk d7).x (nit d7)).se) (notSet_ok d4)
                · have b := blkB_ok d5
                  rw [← h.ok.N, ← h.ok.sc] at b
                  rw [h.ok.N] at b ⊢
                  exact b
                · match ifs, q8 with
                  | [], q8 => exact .inl ⟨isNo_eq q8, rfl⟩
                  | [ec], q8 =>
                    obtain ⟨b1, b2⟩ := and2 q8
                    exact .inr ⟨isNo_ne b1, ec, rfl, ((chk_ok cond h.blk b2).x (nit b2)).st⟩
                  | _ :: _ :: _, q8 => exact ff q8
              | tup ts => exact ff q6
          | _ => exact ff q7
      | _ => exact plain rfl
    | SetComp a b d e => exact ff q4
    | DictComp a b d e f => exact ff q4
    | _ => exact ff z.symm
mutual
theorem chkS_ok : ∀ (m : S) {s : Stmt}, CtE X G c → chkS c m s = true → SS X G m s
  | .pass, s, h, q => by
    cases s with
    | Pass p => exact ss_pass
    | _ => exact ff q
  | .cont, s, h, q => by
    cases s with
    | Continue p => exact ss_cont
    | _ => exact ff q
  | .asg tg m, s, h, q => by
    cases s with
    | Assign ts e p =>
      match ts, q with
      | [], q => exact ff q
      | [t], q => exact chkA_ok h q
      | _ :: _ :: _, q => exact ff q
    | _ => exact ff q
  | .ex m, s, h, q => by
    cases s with
    | Expr e p =>
      obtain ⟨q1, q2⟩ := and2 q
      exact ss_ex ((chk_ok m h q2).x (nit q2)).se (swaps_no q1)
    | _ => exact ff q
  | .ret m, s, h, q => by
    cases s with
    | Return e p =>
      cases e with
      | some e =>
        have q' : chk c false m e = true := by
          cases m <;> first | exact q | (rename_i d; cases d <;> exact q)
        exact ss_ret ((chk_ok m h q').x (nit q')).se
      | none =>
        cases m with
        | k d =>
          cases d with
          | non => exact ss_retN
          | _ => exact ff q
        | _ => exact ff q
    | _ => exact ff q
  | .ife t a b, s, h, q => by
    cases s with
    | If et ea eb p =>
      obtain ⟨q, q3⟩ := and2 q
      obtain ⟨q1, q2⟩ := and2 q
      exact ss_ife ((chk_ok t h q1).x (nit q1)).st (chkSs_ok a h q2) (chkSs_ok b h q3)
    | _ => exact ff q
  | .whl t b, s, h, q => by
    cases s with
    | While et eb orelse p =>
      cases orelse with
      | nil =>
        obtain ⟨q1, q2⟩ := and2 q
        exact ss_whl ((chk_ok t h q1).x (nit q1)).st (chkSs_ok b h q2)
      | cons o os => exact ff q
    | _ => exact ff q
  | .for_ tg src b, s, h, q => by
    cases s with
    | For etg eiter eb orelse p =>
      cases orelse with
      | nil =>
        obtain ⟨q, q6⟩ := and2 q
        obtain ⟨q, q5⟩ := and2 q
        obtain ⟨q, q4⟩ := and2 q
        obtain ⟨q, q3⟩ := and2 q
        obtain ⟨q1, q2⟩ := and2 q
        have hc := h.ok.calm q1
        exact ss_for hc ((chk_ok src h q2).i etg q3) (chkT_ok h.ok hc tg etg q4) (chkSs_ok b h q6) (notSet_ok q5)
      | cons o os => exact ff q
    | _ => exact ff q
  | .sub o i e, s, h, q => by cases s <;> exact ff q
  | .fld o i e, s, h, q => by cases s <;> exact ff q
  | .aug o i e, s, h, q => by cases s <;> exact ff q
  | .rse e, s, h, q => by cases s <;> exact ff q
  | .tr a b d e, s, h, q => by cases s <;> exact ff q
theorem chkSs_ok : ∀ (ms : List S) {ss : List Stmt}, CtE X G c → chkSs c ms ss = true → SSs X G ms ss
  | [], ss, h, q => by
    cases ss with
    | nil => exact sss_nil
    | cons s ss => exact ff q
  | m :: ms, ss, h, q => by
    cases ss with
    | nil => exact ff q
    | cons s ss =>
      obtain ⟨q1, q2⟩ := and2 q
      exact sss_cons (chkS_ok m h q1) (chkSs_ok ms h q2)
end
end
end EW

-- part: Sound16
set_option maxHeartbeats 4000000
/-! defs -/
namespace EW
open PySem PySem.Spec PyProof.Rows L2
section
variable {K : PySem.W.Frag} {ρ ρ' : List Addr} {H H' : Hp}
/-- the refs of a datum that stood ahead stand behind as they stood -/
theorem pre_lt {i : Nat} {a : Addr} (hp : ρ <+: ρ') (h : ρ'[i]? = some a) (hi : i < ρ.length) : ρ[i]? = some a := by
  obtain ⟨t, rfl⟩ := hp
  rw [List.getElem?_append_left hi] at h
  exact h
mutual
theorem VR.down (hp : ρ <+: ρ') : ∀ (d : D) (v : V), d.lt ρ.length = true → VR K ρ' H' d v → VR K ρ H' d v
  | .non, v, _, h => h
  | .bl b, v, _, h => h
  | .int i, v, _, h => h
  | .str x, v, _, h => h
  | .tup ds, v, l, h => by
    obtain ⟨a, vs, e, hs, hr⟩ := h
    exact ⟨a, vs, e, hs, VRs.down hp ds vs (by simpa [D.lt] using l) hr⟩
  | .ref i, v, l, h => by
    obtain ⟨a, e, h⟩ := h
    exact ⟨a, pre_lt hp e (by simpa [D.lt] using l), h⟩
  | .fz ds, v, l, h => by
    obtain ⟨a, vs, e, hs, hr⟩ := h
    exact ⟨a, vs, e, hs, VRs.down hp ds vs (by simpa [D.lt] using l) hr⟩
  | .exn c, v, _, h => h
theorem VRs.down (hp : ρ <+: ρ') : ∀ (ds : List D) (vs : List V), D.lts ρ.length ds = true → VRs K ρ' H' ds vs → VRs K ρ H' ds vs
  | [], vs, _, h => h
  | d :: ds, vs, l, h => by
    obtain ⟨v, r, e, h1, h2⟩ := h
    have l' : d.lt ρ.length = true ∧ D.lts ρ.length ds = true := by simpa [D.lts] using l
    exact ⟨v, r, e, VR.down hp d v l'.1 h1, VRs.down hp ds r l'.2 h2⟩
end
mutual
theorem VR.islt : ∀ (d : D) (v : V), VR K ρ H d v → d.lt ρ.length = true
  | .non, v, h => rfl
  | .bl b, v, h => rfl
  | .int i, v, h => rfl
  | .str x, v, h => rfl
  | .tup ds, v, h => by
    obtain ⟨a, vs, e, hs, hr⟩ := h
    simpa [D.lt] using VRs.islt ds vs hr
  | .ref i, v, h => by
    obtain ⟨a, e, h⟩ := h
    simpa [D.lt] using (List.getElem?_eq_some_iff.mp e).1
  | .fz ds, v, h => by
    obtain ⟨a, vs, e, hs, hr⟩ := h
    simpa [D.lt] using VRs.islt ds vs hr
  | .exn c, v, h => rfl
theorem VRs.islt : ∀ (ds : List D) (vs : List V), VRs K ρ H ds vs → D.lts ρ.length ds = true
  | [], vs, h => rfl
  | d :: ds, vs, h => by
    obtain ⟨v, r, e, h1, h2⟩ := h
    simp [D.lts, VR.islt d v h1, VRs.islt ds r h2]
end
theorem OR.down {p : Addr} {x : O} (hp : ρ <+: ρ') (l : x.lt ρ.length = true) (h : OR K ρ' H' p x) : OR K ρ H' p x := by
  cases x with
  | lst ds =>
    obtain ⟨vs, h1, h2⟩ := h
    exact ⟨vs, h1, h2.down hp ds vs (by simpa [O.lt] using l)⟩
  | dct kvs => exact h
  | ins c fs => exact h
theorem OR.islt {p : Addr} {x : O} (h : OR K ρ H p x) : x.lt ρ.length = true := by
  cases x with
  | lst ds =>
    obtain ⟨vs, h1, h2⟩ := h
    simpa [O.lt] using h2.islt ds vs
  | dct kvs => exact h.elim
  | ins c fs => exact h.elim
/-- what stands at the entry of a body -/
theorem start_res {ds : List D} {vs : List V} {N : List Str} {h : List O} (hr : HR K ρ H h) (hv : VRs K ρ H ds vs) (hl : ds.length ≤ N.length) : Res K ρ H ⟨startS N.length ds, h⟩ (start N vs) := by
  have l := hv.length
  refine ⟨hr, ?_, fun i s e => ?_, fun i j x y p hij h1 => ?_⟩
  · simp [L2.start, startS, l]
  · have e : (ds.map Sl.d ++ List.replicate (N.length - ds.length) Sl.un)[i]? = some s := e
    by_cases hi : i < ds.length
    · rw [List.getElem?_append_left (by simpa using hi), List.getElem?_map, List.getElem?_eq_getElem hi] at e
      cases e
      obtain ⟨v, e1, h1⟩ := hv.get (List.getElem?_eq_getElem hi)
      refine ⟨v, ?_, h1⟩
      show (vs.map some ++ List.replicate (N.length - vs.length) none)[i]? = _
      rw [List.getElem?_append_left (by simpa [l] using hi), List.getElem?_map, e1]
      rfl
    · rw [List.getElem?_append_right (by simpa using Nat.le_of_not_lt hi), List.getElem?_replicate] at e
      split at e
      · cases e
        trivial
      · cases e
  · have e : (ds.map Sl.d ++ List.replicate (N.length - ds.length) Sl.un)[i]? = some (.o x) := h1
    by_cases hi : i < ds.length
    · rw [List.getElem?_append_left (by simpa using hi), List.getElem?_map, List.getElem?_eq_getElem hi] at e
      cases e
    · rw [List.getElem?_append_right (by simpa using Nat.le_of_not_lt hi), List.getElem?_replicate] at e
      split at e <;> cases e
theorem start_dom {ds : List D} {vs : List V} {n : Nat} {N : List Str} {h : List O} {a : Addr} (d : Dom ⟨startS n ds, h⟩ (start N vs) ρ a) : a ∈ ρ := by
  rcases d with d | ⟨i, x, h1, h2⟩
  · exact d
  · have e : (ds.map Sl.d ++ List.replicate (n - ds.length) Sl.un)[i]? = some (.o x) := h1
    by_cases hi : i < ds.length
    · rw [List.getElem?_append_left (by simpa using hi), List.getElem?_map, List.getElem?_eq_getElem hi] at e
      cases e
    · rw [List.getElem?_append_right (by simpa using Nat.le_of_not_lt hi), List.getElem?_replicate] at e
      split at e <;> cases e
theorem Step.h {st st' : St} {σ σ' : L2.St} (s : Step K ρ H st σ ρ' H' st' σ') (hd : ∀ a, Dom st σ ρ a → a ∈ ρ) : HStep K ρ H ρ' H' st'.h :=
  ⟨s.res.hr, s.pre, fun a o e n => s.frame a o e fun d => n (hd a d), fun a ha => (s.grow a (.inl ha)).imp (hd a) id⟩
theorem HStep.rc {st st' : St} {σ σ' : L2.St} {r : EV} {v : V} (s : Step K ρ H st σ ρ' H' st' σ') (hd : ∀ a, Dom st σ ρ a → a ∈ ρ) (h : RetR K ρ H st σ ρ' H' r v) : RC K H ρ' H' r v := by
  cases r with
  | d x => exact h
  | o x =>
    obtain ⟨p, e, h1, n, h2⟩ := h
    refine ⟨p, e, h1, n, ?_⟩
    rcases h2 with z | z
    · exact z
    · exact (n (List.IsPrefix.subset s.pre (hd p z))).elim
  | pl i => exact h
  | it k vs => exact h
/-- the heap is as it was -/
theorem HStep.gc {h h' : List O} (hr : HR K ρ H h) (s : HStep K ρ H ρ' H' h') (e : h'.take h.length = h) : HStep K ρ H ρ H' h := by
  refine ⟨⟨hr.len, hr.nd, fun i p x h1 h2 => ?_⟩, List.prefix_refl _, s.frame, fun a ha => .inl ha⟩
  have h3 : h'[i]? = some x := by
    have hi : i < h.length := (List.getElem?_eq_some_iff.mp h2).1
    rw [← e, List.getElem?_take] at h2
    rw [if_pos hi] at h2
    exact h2
  have h4 := s.hr.obj i p x (pre_get s.pre h1) h3
  exact OR.down s.pre (hr.obj i p x h1 h2).islt h4
theorem ite_or {α : Type} {c : Prop} [Decidable c] {a b r : α} (e : (if c then a else b) = r) : (c ∧ a = r) ∨ (¬c ∧ b = r) := by
  by_cases h : c
  · rw [if_pos h] at e
    exact .inl ⟨h, e⟩
  · rw [if_neg h] at e
    exact .inr ⟨h, e⟩
open Classical in
/-- gc tells no more than was -/
theorem gc_ok {h h' : List O} {r r2 : EV} {h2 : List O} {v : V} (hr : HR K ρ H h) (s : HStep K ρ H ρ' H' h') (c : RC K H ρ' H' r v) (e : EW.gc h (.ok r h') = .ok r2 h2) : ∃ ρ2, HStep K ρ H ρ2 H' h2 ∧ RC K H ρ2 H' r2 v := by
  unfold EW.gc at e
  have same : OutC.ok r h' = .ok r2 h2 → ∃ ρ2, HStep K ρ H ρ2 H' h2 ∧ RC K H ρ2 H' r2 v := fun z => by
    cases z
    exact ⟨ρ', s, c⟩
  by_cases ht : h'.take h.length = h
  · have s0 := s.gc hr ht
    rw [← hr.len] at e
    simp only at e
    rw [if_pos (by rw [hr.len]; exact ht)] at e
    cases r with
    | d x =>
      have plain : x.lt ρ.length = true → OutC.ok (.d x) h = .ok r2 h2 → ∃ ρ2, HStep K ρ H ρ2 H' h2 ∧ RC K H ρ2 H' r2 v := fun l z => by
        cases z
        exact ⟨ρ, s0, VR.down s.pre x v l c⟩
      cases x with
      | ref i =>
        simp only at e
        rcases ite_or e with ⟨hi, e⟩ | ⟨hi, e⟩
        · exact plain (by simpa [D.lt] using hi) e
        · cases hx : h'[i]? with
          | none =>
            rw [hx] at e
            exact same e
          | some x =>
            rw [hx] at e
            simp only at e
            rcases ite_or e with ⟨hl, e⟩ | ⟨hl, e⟩
            · cases e
              obtain ⟨p, hp, rfl⟩ := c
              have ho := s.hr.obj i p x hp hx
              have np : p ∉ ρ := fun z => by
                obtain ⟨j, hj, ej⟩ := List.mem_iff_getElem.mp z
                have e1 : ρ'[j]? = some p := pre_get s.pre (by rw [List.getElem?_eq_getElem hj, ej])
                have e2 := (List.getElem?_inj (List.getElem?_eq_some_iff.mp e1).1 s.hr.nd).mp (e1.trans hp.symm)
                omega
              refine ⟨ρ, s0, p, rfl, OR.down s.pre hl ho, np, ?_⟩
              rcases s.grow p (List.mem_of_getElem? hp) with z | z
              · exact (np z).elim
              · exact z
            · exact same e
      | _ =>
        simp only [EV.lt] at e
        rcases ite_or e with ⟨hl, e⟩ | ⟨hl, e⟩
        · exact plain hl e
        · exact same e
    | o x =>
      simp only [EV.lt] at e
      rcases ite_or e with ⟨hl, e⟩ | ⟨hl, e⟩
      · cases e
        obtain ⟨p, e1, h1, n, h3⟩ := c
        exact ⟨ρ, s0, p, e1, OR.down s.pre hl h1, fun z => n (List.IsPrefix.subset s.pre z), h3⟩
      · exact same e
    | pl i => exact c.elim
    | it k vs => exact c.elim
  · simp only at e
    rw [if_neg ht] at e
    exact same e
open Classical in
theorem gc_ex {h h' : List O} {c c2 : String} {h2 : List O} (hr : HR K ρ H h) (s : HStep K ρ H ρ' H' h') (e : EW.gc h (.ex c h') = .ex c2 h2) : c2 = c ∧ ∃ ρ2, HStep K ρ H ρ2 H' h2 := by
  unfold EW.gc at e
  simp only at e
  by_cases ht : h'.take h.length = h
  · rw [if_pos ht] at e
    cases e
    exact ⟨rfl, ρ, s.gc hr ht⟩
  · rw [if_neg ht] at e
    cases e
    exact ⟨rfl, ρ', s⟩
end

/-! ### a program -/
def fnScB (N P : List Str) (sc : Scope) : Bool :=
  (sc.kind == .function) && !sc.isCoroutine && !sc.isGenerator && decide N.Nodup && (N.take P.length == P) && (P.all fun x => sc.names.lookup x == some .local || sc.names.lookup x == some .cell) && (sc.names.all fun y => !(y.2 == .free))
theorem fnScB_ok {N P : List Str} {sc : Scope} (h : fnScB N P sc = true) : FnScope N P sc := by
  unfold fnScB at h
  simp only [Bool.and_eq_true, beq_iff_eq, Bool.not_eq_true', decide_eq_true_eq, List.all_eq_true, Bool.or_eq_true, beq_eq_false_iff_ne] at h
  obtain ⟨⟨⟨⟨⟨⟨h1, h2⟩, h3⟩, h4⟩, h5⟩, h6⟩, h7⟩ := h
  exact ⟨h1, h2, h3, h4, h5, h6, h7⟩
def ckOf (gt : Gt) (N : List Str) (sc : Scope) : Ck := ⟨N, sc, fun _ => true, true, gt⟩
/-- a def of Mini is that of the program -/
structure FnIs (K : PySem.W.Frag) (mg : Str → Option Value) (gt : Gt) (f : String) (m : Nat) (fdm : Fd) (fa : Addr) (fd : FuncData) (ps : List Str) : Prop where
  ex : ∃ (N : List Str) (scope : Scope) (params : Arguments) (body : List Stmt) (qual x : Str), FunD K x qual params body scope [] [] fa fd ∧ fnScB N ps scope = true ∧ chkSs (ckOf gt N scope) fdm.body body = true ∧ N.length = fdm.n
  np : fdm.ps = m
  dfl : fdm.dfl = []
  len : ps.length = m
  glo : mg (Str.ofString f) = some (.ref fa)
  keep : PySem.W.keepIn K (.ref fa) = true
  bind : Binds K fd ps []
structure Prg (K : PySem.W.Frag) (mg : Str → Option Value) (T : Tab) (gt : Gt) : Prop where
  nob : Nob mg
  cs : ∀ n d, gt.cs.lookup n = some d → ∃ v u, mg (Str.ofString n) = some u ∧ RelV v u ∧ ∀ ρ H, VR K ρ H d v
  fns : ∀ f m, gt.fns.lookup f = some m → ∃ fdm fa fd ps, T.fn f = some fdm ∧ FnIs K mg gt f m fdm fa fd ps
section
variable {P : Program} {w : World} {K : PySem.W.Frag} {mg : Str → Option Value} {base : Heap} {T : Tab} {gt : Gt}
theorem body_ok (Pr : Prg K mg T gt) {n : Nat} (ih : ∀ f m, gt.fns.lookup f = some m → ∃ fa fd ps, FnOk P w K mg base (L2.CX P w) n fa fd ps (spF K mg m (callN T n f)) ∧ mg (Str.ofString f) = some (.ref fa) ∧ PySem.W.keepIn K (.ref fa) = true ∧ Binds K fd ps [])
    {f : String} {m : Nat} {fdm : Fd} {fa : Addr} {fd : FuncData} {ps : List Str} (hT : T.fn f = some fdm) (F : FnIs K mg gt f m fdm fa fd ps) : FnOk P w K mg base (L2.CX P w) (n + 1) fa fd ps (spF K mg m (callN T (n + 1) f)) := by
  obtain ⟨N, scope, params, body, qual, x, FD, hsc, hch, hN⟩ := F.ex
  have S := fnScB_ok hsc
  refine FD.ok S (fun vs H Q E h => ?_) fun cdv A outer s H vs Q E hr hsp => ?_
  · obtain ⟨ρ, h', ds, h1, h2, h3, _⟩ := h
    rw [h2.length, h3, F.len]
  · have ct : CtE (cxOf (L2.CX P w) P w K mg base N qual scope fa cdv A outer s H E) (gam T n) (ckOf gt N scope) := by
      refine ⟨⟨rfl, S.nd, rfl, fun _ _ => rfl, fun _ => rfl⟩, ?_, Pr.nob, Pr.cs, fun g k hg => ?_⟩
      · have z := hr.un
        show (A.deeper _).units + 200 < cLine
        omega
      · obtain ⟨fa', fd', ps', a1, a2, a3, a4⟩ := ih g k hg
        exact ⟨n, fa', fd', ps', a1, hr, a2, a3, a4⟩
    have ok := chkSs_ok fdm.body ct hch (fun cls d _ H => E cls d H) (takes_of (E₁ := fun e' s'' => L2.CX P w outer H s E e' s'') rfl rfl rfl rfl) (passes_of (K := fun e s'' => L2.CX P w outer H s E e s'') (E₁ := fun e' s'' => L2.CX P w outer H s E e' s'') rfl)
    refine ⟨_, ok, ?_⟩
    obtain ⟨ρ, h, ds, h1, h2, h3, h4⟩ := hsp
    have hlen : ds.length ≤ N.length := by
      have := congrArg List.length S.pre
      rw [List.length_take] at this
      have := F.len
      omega
    have hR := start_res (N := N) h1 h2 hlen
    have hd : ∀ a, Dom ⟨startS N.length ds, h⟩ (start N vs) ρ a → a ∈ ρ := fun a d => start_dom d
    refine ⟨ρ, _, hR, ?_⟩
    have hcall : callN T (n + 1) f ds h = gc h (runB (gam T n) fdm ds h) := by
      rw [callN]
      simp only [hT]
      rw [if_pos ⟨by rw [F.np, h3]; exact Nat.le_refl _, by rw [F.np, h3]; exact Nat.le_add_right _ _⟩]
      rw [F.dfl]
      simp only [List.drop_nil, List.append_nil]
      rfl
    rw [hcall] at h4
    unfold runB at h4
    rw [← hN] at h4
    show Wp (exs (gam T n) fdm.body ⟨startS N.length ds, h⟩) _ _
    cases q : exs (gam T n) fdm.body ⟨startS N.length ds, h⟩ with
    | bad =>
      rw [q] at h4
      exact h4.elim
    | ex c st' =>
      rw [q] at h4
      simp only at h4
      intro cls σ' H' ρ' s' hc
      cases q2 : EW.gc h (.ex c st'.h) with
      | bad =>
        rw [q2] at h4
        exact h4.elim
      | ok r2 h2' =>
        unfold EW.gc at q2
        simp only at q2
        split at q2 <;> cases q2
      | ex c2 h2' =>
        rw [q2] at h4
        obtain ⟨rfl, ρ2, g⟩ := gc_ex h1 (s'.h hd) q2
        exact h4 cls H' ρ2 g hc
    | ok fl st' =>
      rw [q] at h4
      have fin : ∀ {r : EV} {v : V} {H' : Hp} {ρ' : List Addr}, HStep K ρ H ρ' H' st'.h → RC K H ρ' H' r v → (match EW.gc h (.ok r st'.h) with
          | .ok r h' => ∀ v H' ρ', HStep K ρ H ρ' H' h' → RC K H ρ' H' r v → Q v H'
          | .ex c h' => ∀ cls H' ρ', HStep K ρ H ρ' H' h' → ClsM mg c cls → E cls none H'
          | .bad => False) → Q v H' := fun {r v H' ρ'} g1 g2 z => by
        cases q2 : EW.gc h (.ok r st'.h) with
        | bad =>
          rw [q2] at z
          exact z.elim
        | ex c h' =>
          unfold EW.gc at q2
          simp only at q2
          repeat' split at q2
          all_goals cases q2
        | ok r2 h2' =>
          rw [q2] at z
          obtain ⟨ρ2, g3, g4⟩ := gc_ok h1 g1 g2 q2
          exact z v H' ρ2 g3 g4
      cases fl with
      | ct => exact h4.elim
      | nx => exact fun σ' H' ρ' s' _ => fin (r := .d .non) (v := .non) (s'.h hd) rfl h4
      | rt r => exact fun v σ' H' ρ' s' hr => fin (s'.h hd) (HStep.rc s' hd hr) h4
theorem prg_ok (Pr : Prg K mg T gt) : ∀ n f m, gt.fns.lookup f = some m → ∃ fa fd ps, FnOk P w K mg base (L2.CX P w) n fa fd ps (spF K mg m (callN T n f)) ∧ mg (Str.ofString f) = some (.ref fa) ∧ PySem.W.keepIn K (.ref fa) = true ∧ Binds K fd ps []
  | 0, f, m, h => by
    obtain ⟨fdm, fa, fd, ps, hT, F⟩ := Pr.fns f m h
    refine ⟨fa, fd, ps, ⟨fun vs H Q E z => ?_, fun A outer s H args us vs Q E _ _ _ _ z => ?_⟩, F.glo, F.keep, F.bind⟩
    · obtain ⟨ρ, h', ds, h1, h2, h3, h4⟩ := z
      exact h4.elim
    · obtain ⟨ρ, h', ds, h1, h2, h3, h4⟩ := z
      exact h4.elim
  | n + 1, f, m, h => by
    obtain ⟨fdm, fa, fd, ps, hT, F⟩ := Pr.fns f m h
    exact ⟨fa, fd, ps, body_ok Pr (prg_ok Pr n) hT F, F.glo, F.keep, F.bind⟩
end
end EW

-- part: Sound17
set_option maxHeartbeats 4000000
/-! a table of defs is the given program -/
namespace EW
open PySem PySem.Spec PyProof.Rows L2
/-- one def: its name, its code, its place in the top, its names, its parameters -/
structure Row where
  nm : String
  fd : Fd
  top : Nat
  N : List Str
  ps : List Str
def topAt (P : Program) (i : Nat) : Stmt := P.main.body.getD i (.Pass ⟨0, 0, 0, 0⟩)
def Row.dd (P : Program) (r : Row) : He.DefD := ⟨(Str.ofString r.nm, none), Str.ofString r.nm, Str.ofString r.nm, defArgs (topAt P r.top), defBody (topAt P r.top), defScope (topAt P r.top), [], []⟩
def gtOf (rows : List Row) : Gt := ⟨[], rows.map fun r => (r.nm, r.fd.ps)⟩
def noSub : String → String → Bool := fun _ _ => false
def tabOf (rows : List Row) : Tab := ⟨fun f => (rows.find? fun r => r.nm == f).map (·.fd), noSub⟩
/-- the built-in names that must be free -/
def frees : List Str := ["len", "max", "min", "sum", "all", "any", "abs", "int", "str", "tuple", "list", "sorted", "divmod", "repr", "dict", "set", "range", "enumerate", "zip", "reversed", "isinstance", "bool"]
def fas (rows : List Row) : List He.Fa := frees.map He.Fa.free ++ rows.map fun r => .glo (Str.ofString r.nm)
def rowChk (P : Program) (rows : List Row) (r : Row) : Bool :=
  fnScB r.N r.ps (defScope (topAt P r.top)) && chkSs (ckOf (gtOf rows) r.N (defScope (topAt P r.top))) r.fd.body (defBody (topAt P r.top)) && decide (r.N.length = r.fd.n) && decide (r.ps.length = r.fd.ps) && r.fd.dfl.isEmpty
def BindN (P : Program) (r : Row) : Prop := ∀ (kV doc pm : Value) (an : Option Addr) (cdv ct : Value) (us : List Value), us.length = r.ps.length →
  bindArgs (PySem.W.fnOf (Str.ofString r.nm) (Str.ofString r.nm) (defArgs (topAt P r.top)) (defBody (topAt P r.top)) (defScope (topAt P r.top)) .none kV doc pm an cdv ct) ⟨us, []⟩ = pure (r.ps.zip us)
section
variable {P : Program} {K : PySem.W.Frag} {h : Heap} {mg : Str → Option Value} {rows : List Row}
theorem find_row {f : String} {m : Nat} : ∀ {rows : List Row}, (rows.map fun r => (r.nm, r.fd.ps)).lookup f = some m → ∃ (i : Nat) (r : Row), rows[i]? = some r ∧ r.nm = f ∧ r.fd.ps = m ∧ (rows.find? fun r => r.nm == f) = some r
  | [], h => by simp at h
  | r :: rs, h => by
    rw [List.map_cons, List.lookup_cons] at h
    cases q : f == r.nm with
    | true =>
      rw [q] at h
      have e : f = r.nm := eq_of_beq q
      subst e
      refine ⟨0, r, rfl, rfl, by simpa using h, ?_⟩
      rw [List.find?_cons]
      simp
    | false =>
      rw [q] at h
      obtain ⟨i, r', h1, h2, h3, h4⟩ := find_row h
      refine ⟨i + 1, r', by simpa using h1, h2, h3, ?_⟩
      rw [List.find?_cons]
      have e : (r.nm == f) = false := by
        cases z : r.nm == f with
        | false => rfl
        | true =>
          rw [eq_of_beq z] at q
          simp at q
      rw [e]
      exact h4
theorem prg_of (X : K.In h) (G : h.Ns mainGlobals mg) (c : He.SaysD (fas rows) (rows.map (Row.dd P)) K) (hb : ∀ r ∈ rows, BindN P r) (hc : ∀ r ∈ rows, rowChk P rows r = true) : Prg K mg (tabOf rows) (gtOf rows) := by
  have fr : ∀ x ∈ frees, mg x = none := fun x hx => by
    obtain ⟨i, hi, e⟩ := List.mem_iff_getElem.mp hx
    refine He.free_ok X G (c.fact i (f := .free x) ?_)
    unfold fas
    rw [List.getElem?_append_left (by simpa using hi), List.getElem?_map, List.getElem?_eq_getElem hi, e]
    rfl
  refine ⟨⟨fun b => ?_, fr _ (by simp [frees]), fr _ (by simp [frees]), fr _ (by simp [frees]), fr _ (by simp [frees]), fr _ (by simp [frees]), fun t ht => ?_⟩, fun n d z => by simp [gtOf] at z, fun f m z => ?_⟩
  · cases b <;> exact fr _ (by simp [frees, biN])
  · unfold tyBi at ht
    simp only [Bool.or_eq_true, beq_iff_eq] at ht
    rcases ht with ((((rfl | rfl) | rfl) | rfl) | rfl) | rfl <;> exact fr _ (by simp [frees])
  · obtain ⟨i, r, h1, rfl, rfl, h4⟩ := find_row z
    have hm : r ∈ rows := List.mem_of_getElem? h1
    obtain ⟨fd, F⟩ := c.def_ i (d := Row.dd P r) (by rw [List.getElem?_map, h1]; rfl)
    have gl := He.glo_ok X G (c.fact (frees.length + i) (f := .glo (Str.ofString r.nm)) (by
      unfold fas
      rw [List.getElem?_append_right (by simp), List.getElem?_map]
      simp [h1]))
    have ch := hc r hm
    unfold rowChk at ch
    simp only [Bool.and_eq_true, decide_eq_true_eq, List.isEmpty_iff] at ch
    obtain ⟨⟨⟨⟨c1, c2⟩, c3⟩, c4⟩, c5⟩ := ch
    refine ⟨r.fd, _, fd, r.ps, ?_, ⟨r.N, _, _, _, _, _, F, c1, c2, c3⟩, rfl, c5, c4, gl, F.kp, FunD.bindsN (ps := r.ps) F fun kV doc pm an cdv ct us hl => hb r hm kV doc pm an cdv ct us hl⟩
    show (rows.find? fun q => q.nm == r.nm).map (·.fd) = _
    rw [h4]
    rfl
end

/-! ### the law -/
/-- the law's def tells True at every script -/
def LawSays (T : Tab) (n : Nat) (f : String) : Prop := ∀ ns : List Int, ns.length ≤ 63 → (∀ z ∈ ns, Builtin.Int.intBits z ≤ 1048576) → ∃ h, callN T n f [.fz (ns.map D.int)] [] = .ok (.d (.bl true)) h
theorem vrs_ints {K : PySem.W.Frag} {ρ : List Addr} {H : Hp} : ∀ ns : List Int, VRs K ρ H (ns.map D.int) (ns.map V.int)
  | [] => rfl
  | n :: ns => ⟨_, _, rfl, rfl, vrs_ints ns⟩
theorem law_sp {K : PySem.W.Frag} {mg : Str → Option Value} {T : Tab} {n : Nat} {f : String} (L : LawSays T n f) {H : Hp} {a : Addr} {ns : List Int} (hl : ns.length ≤ 63) (hbits : ∀ z ∈ ns, Builtin.Int.intBits z ≤ 1048576) (hO : Only H) (hS : SqL K H a (ns.map V.int)) :
    spF K mg 1 (callN T n f) [.ref a] H (fun v _ => v = .bl true) fun _ _ _ => False := by
  have hf : FrzL K H a (ns.map V.int) := by
    rcases hS with (h | h) | h
    · rcases hO a with z | ⟨o, xs, z⟩
      · rw [h] at z
        cases z
      · rw [h] at z
        cases z
    · exact .inl h
    · exact .inr h
  refine ⟨[], [], [.fz (ns.map D.int)], ⟨rfl, List.nodup_nil, fun i p x e => by simp at e⟩, ⟨_, _, rfl, ⟨a, _, rfl, hf, vrs_ints ns⟩, rfl⟩, rfl, ?_⟩
  obtain ⟨h, e⟩ := L ns hl hbits
  rw [e]
  exact fun v H' ρ' _ hr => hr
theorem cx_no {P : Program} {w : World} {H : Hp} {s : Shared} {e : Value} {s' : Shared} (h : L2.CX P w [] H s (fun _ _ _ => False) e s') : False := by
  obtain ⟨a, B, H', cls, d, _, _, _, _, _, _, _, z⟩ := h
  exact z
/-- the end of a head, where the numbers' size is told too -/
theorem walk_sized {l : PySem.W.OpenLaw} {n k : Nat} {q : Program} {loose : List Str} {XP : (Str → Option Value) → Heap → Prop} {YP : World → Heap → Prop} {d : DefRec} {CX : World → CXT} {x : Str}
    (hn : l.most = some n) (hsz : n ≤ sizeLine) (hdf : d.params.defaults = []) (room : Room k callerA)
    (F : ∀ (w : World) (mg : Str → Option Value) (fa : Addr) (h : Heap), YP w h → h.Ns mainGlobals mg → mg d.name = some (.ref fa) →
      ∃ (K : PySem.W.Frag) (fd : FuncData) (sp : Sp), K.In h ∧ (∀ (s : Shared) (u : Value), BindsTo s fd ⟨[u], []⟩ [(x, u)]) ∧
        (∀ (H : Hp) (a : Addr) (ns : List Int), ns.length ≤ n → (∀ z ∈ ns, Builtin.Int.intBits z ≤ 1048576) → Only H → SqL K H a (ns.map V.int) → sp [.ref a] H (fun v _ => v = .bl true) fun _ _ _ => False) ∧
        ∀ base : Heap, K.In base → base.Ns mainGlobals mg → FnOk l.prog w K mg base (CX w) k fa fd [x] sp)
    (none_out : ∀ (w : World) (H : Hp) (s : Shared) (e : Value) (s' : Shared), CX w [] H s (fun _ _ _ => False) e s' → False) :
    PySem.W.WalkO q loose XP YP l.row.toRowW d [] (fun f vs => PySem.call f vs) := by
  refine Att.attach_callB hn hdf fun w s₀ s₁ mg mb fa o pm cd doc a vs ns G Y ho hd hcd hmg hobj hints hlen hbits hg => ?_
  obtain ⟨K, fd, sp, KX, hb, hsp, hF⟩ := F w mg fa _ Y G.T.g hmg
  exact law_call KX G.T.g G.T.b G.T.builtins G.T.nolimit hg hobj hints (Nat.le_trans hlen hsz) room hF hb (fun H hO hS => hsp H a ns hlen hbits hO hS) fun H e s' => none_out w H s₁ e s'
/-- what a row table gives to a head -/
theorem head_F {P : Program} {w : World} {K : PySem.W.Frag} {h : Heap} {mg : Str → Option Value} {rows : List Row} {n : Nat} {f : String} {x : Str} {fa : Addr} (X : K.In h) (G : h.Ns mainGlobals mg) (c : He.SaysD (fas rows) (rows.map (Row.dd P)) K) (hb : ∀ r ∈ rows, BindN P r) (hc : ∀ r ∈ rows, rowChk P rows r = true)
    (i : Nat) (r : Row) (hr : rows[i]? = some r) (hf : r.nm = f) (hps : r.ps = [x]) (hp1 : r.fd.ps = 1) (hfind : (rows.find? fun q => q.nm == f) = some r) (L : LawSays (tabOf rows) (n + 1) f) (hfa : mg (Str.ofString f) = some (.ref fa)) :
    ∃ (K : PySem.W.Frag) (fd : FuncData) (sp : Sp), K.In h ∧ (∀ (s : Shared) (u : Value), BindsTo s fd ⟨[u], []⟩ [(x, u)]) ∧
        (∀ (H : Hp) (a : Addr) (ns : List Int), ns.length ≤ 63 → (∀ z ∈ ns, Builtin.Int.intBits z ≤ 1048576) → Only H → SqL K H a (ns.map V.int) → sp [.ref a] H (fun v _ => v = .bl true) fun _ _ _ => False) ∧
        ∀ base : Heap, K.In base → base.Ns mainGlobals mg → FnOk P w K mg base (L2.CX P w) (n + 1) fa fd [x] sp := by
  subst hf
  have Pr := prg_of X G c hb hc
  have hm : r ∈ rows := List.mem_of_getElem? hr
  obtain ⟨fd, F⟩ := c.def_ i (d := Row.dd P r) (by rw [List.getElem?_map, hr]; rfl)
  have gl := He.glo_ok X G (c.fact (frees.length + i) (f := .glo (Str.ofString r.nm)) (by
    unfold fas
    rw [List.getElem?_append_right (by simp), List.getElem?_map]
    simp [hr]))
  have e := hfa.symm.trans gl
  cases e
  refine ⟨K, fd, spF K mg 1 (callN (tabOf rows) (n + 1) r.nm), X, fun s u => ?_, fun H a ns h1 h2 h3 h4 => law_sp L h1 h2 h3 h4, fun base _ _ => ?_⟩
  · have b := FunD.bindsA (ps := r.ps) F (fun kV doc pm an cdv ct us hl => hb r hm kV doc pm an cdv ct us hl) s [u] (by rw [hps]; rfl)
    rw [hps] at b
    exact b
  · have ch := hc r hm
    unfold rowChk at ch
    simp only [Bool.and_eq_true, decide_eq_true_eq, List.isEmpty_iff] at ch
    obtain ⟨⟨⟨⟨c1, c2⟩, c3⟩, c4⟩, c5⟩ := ch
    have FI : FnIs K mg (gtOf rows) r.nm 1 r.fd (He.fAd K (Str.ofString r.nm, none)) fd r.ps := ⟨⟨r.N, _, _, _, _, _, F, c1, c2, c3⟩, hp1, c5, by rw [hps]; rfl, gl, F.kp, FunD.bindsN (ps := r.ps) F fun kV doc pm an cdv ct us hl => hb r hm kV doc pm an cdv ct us hl⟩
    have hT : (tabOf rows).fn r.nm = some r.fd := by
      show (rows.find? fun q => q.nm == r.nm).map (·.fd) = _
      rw [hfind]
      rfl
    have z := body_ok (P := P) (w := w) (base := base) Pr (prg_ok Pr n) hT FI
    rw [hps] at z
    exact z
end EW

-- part: Run
set_option maxHeartbeats 1000000
/-! running Mini: what each construct comes to, for simp -/
namespace EW
open PySem PySem.Spec PyProof.Rows L2
section
variable (G : Gam) (st : St)
@[simp] theorem ev_k (d : D) : ev G (.k d) st = .ok (.d d) st := by simp only [ev]
@[simp] theorem ev_g (n : String) (d : D) : ev G (.g n d) st = .ok (.d d) st := by simp only [ev]
@[simp] theorem ev_v (i : Nat) : ev G (.v i) st = (match st.σ[i]? with
    | some (.d x) => .ok (.d x) st
    | some (.o _) => .ok (.pl i) st
    | _ => .bad) := by first | (simp only [ev]; done) | (simp only [ev]; rfl)
/-- a tuple, a list is made -/
def mkTup (ds : List D) (st : St) : Out EV := if ds.length ≤ lim then .ok (.d (.tup ds)) st else .bad
def mkLst (ds : List D) (st : St) : Out EV := if ds.length ≤ lim then .ok (.o (.lst ds)) st else .bad
@[simp] theorem ev_tup (es : List E) : ev G (.tup es) st = (evs G es st).bind fun vs st1 => (Out.of2 (toDs vs st1)).bind mkTup := by simp only [ev]; rfl
@[simp] theorem ev_lst (es : List E) : ev G (.lst es) st = (evs G es st).bind fun vs st1 => (Out.of2 (toDs vs st1)).bind mkLst := by simp only [ev]; rfl
/-- two read things -/
def two (f : Wv → Wv → Option EV) (a b : Option Wv) : Option EV := match a, b with
  | some a, some b => f a b
  | _, _ => none
@[simp] theorem two_some (f : Wv → Wv → Option EV) (a b : Wv) : two f (some a) (some b) = f a b := rfl
theorem two_of (f : Wv → Wv → Option EV) (a b : Option Wv) : (match a, b with
    | some wa, some wb => Out.of st (f wa wb)
    | _, _ => .bad) = Out.of st (two f a b) := by
  cases a <;> cases b <;> rfl
@[simp] theorem ev_bin (op : Operator) (a b : E) : ev G (.bin op a b) st = (ev G a st).bind fun va st1 => (ev G b st1).bind fun vb st2 => Out.of st2 (two (binW op) (rd st2 va) (rd st2 vb)) := by
  simp only [ev]
  congr 1
  funext va st1
  congr 1
  funext vb st2
  exact two_of st2 _ _ _
def cmpE (op : CmpOp) (a b : Wv) : Option EV := (cmpW op a b).map fun t => .d (.bl t)
@[simp] theorem ev_cmp (op : CmpOp) (a b : E) : ev G (.cmp op a b) st = (ev G a st).bind fun va st1 => (ev G b st1).bind fun vb st2 => Out.of st2 (two (cmpE op) (rd st2 va) (rd st2 vb)) := by
  simp only [ev]
  congr 1
  funext va st1
  congr 1
  funext vb st2
  exact two_of st2 (cmpE op) _ _
def idxE (a b : Wv) : Option EV := (idxW a b).map EV.d
@[simp] theorem ev_idx (a b : E) : ev G (.idx a b) st = (ev G a st).bind fun va st1 => (ev G b st1).bind fun vb st2 => Out.of st2 (two idxE (rd st2 va) (rd st2 vb)) := by
  simp only [ev]
  congr 1
  funext va st1
  congr 1
  funext vb st2
  exact two_of st2 idxE _ _
@[simp] theorem ev_neg (a : E) : ev G (.neg a) st = (ev G a st).bind fun va st1 => Out.of st1 (((rd st1 va).bind intW).map fun i => .d (.int (-i))) := by
  simp only [ev]
  congr 1
  funext va st1
  cases (rd st1 va).bind intW <;> rfl
@[simp] theorem ev_not (a : E) : ev G (.not a) st = (ev G a st).bind fun va st1 => Out.of st1 (((rd st1 va).bind truthW).map fun b => .d (.bl (!b))) := by
  simp only [ev]
  congr 1
  funext va st1
  cases (rd st1 va).bind truthW <;> rfl
/-- a truth, then the one or the other -/
def brn {α : Type} (o : Option Bool) (a b : Out α) : Out α := match o with
  | some true => a
  | some false => b
  | none => .bad
@[simp] theorem brn_true {α : Type} (a b : Out α) : brn (some true) a b = a := rfl
@[simp] theorem brn_false {α : Type} (a b : Out α) : brn (some false) a b = b := rfl
theorem brn_some {α : Type} (t : Bool) (a b : Out α) : brn (some t) a b = if t = true then a else b := by cases t <;> rfl
@[simp] theorem ev_and (a b : E) : ev G (.and a b) st = (ev G a st).bind fun va st1 => brn ((rd st1 va).bind truthW) (ev G b st1) (.ok va st1) := by
  simp only [ev]
  rfl
@[simp] theorem ev_or (a b : E) : ev G (.or a b) st = (ev G a st).bind fun va st1 => brn ((rd st1 va).bind truthW) (.ok va st1) (ev G b st1) := by
  simp only [ev]
  congr 1
  funext va st1
  cases (rd st1 va).bind truthW with
  | none => rfl
  | some t => cases t <;> rfl
@[simp] theorem ev_ife (c a b : E) : ev G (.ife c a b) st = (tst G c st).bind fun t st1 => if t = true then ev G a st1 else ev G b st1 := by simp only [ev]
@[simp] theorem ev_sl (a lo hi : E) : ev G (.sl a lo hi) st = (ev G a st).bind fun va st1 => (evo G lo st1).bind fun l st2 => (evo G hi st2).bind fun h st3 => Out.of st3 ((rd st3 va).bind fun w => slW w l h) := by
  simp only [ev]
  congr 1
  funext va st1
  congr 1
  funext l st2
  congr 1
  funext h st3
  cases rd st3 va <;> rfl
@[simp] theorem ev_call (f : String) (es : List E) : ev G (.call f es) st = (evs G es st).bind fun vs st1 => (Out.of2 (toDs vs st1)).bind fun ds st2 => (G.call f ds st2.h).out st2 := by simp only [ev]
@[simp] theorem ev_bi (b : B) (es : List E) : ev G (.bi b es) st = (evs G es st).bind fun vs st1 => Out.of st1 (biS b st1 vs) := by simp only [ev]
def isiE (sub : String → String → Bool) (ts : List String) (w : Wv) : Option EV := (ts.mapM (isiW sub w)).map fun bs => .d (.bl (bs.any id))
@[simp] theorem ev_isi (a : E) (ts : List String) : ev G (.isi a ts) st = (ev G a st).bind fun va st1 => Out.of st1 ((rd st1 va).bind (isiE G.sub ts)) := by
  simp only [ev]
  congr 1
  funext va st1
  cases rd st1 va with
  | none => rfl
  | some w =>
    show Out.of st1 _ = Out.of st1 (isiE G.sub ts w)
    unfold isiE
    cases ts.mapM (isiW G.sub w) <;> rfl
@[simp] theorem ev_it (k : I) (es : List E) : ev G (.it k es) st = (evs G es st).bind fun vs st1 => .ok (.it k vs) st1 := by simp only [ev]
@[simp] theorem ev_trv (a : E) : ev G (.trv a) st = (ev G a st).bind fun va st1 => Out.of st1 (((rd st1 va).bind seqL).map fun ds => .d (.tup ds.reverse)) := by
  simp only [ev]
  congr 1
  funext va st1
  cases (rd st1 va).bind seqL <;> rfl
@[simp] theorem ev_meth (m : String) (o : E) (es : List E) : ev G (.meth m o es) st = (ev G o st).bind fun vo st1 => if (rd st1 vo).any (methOk m es.length) = true then (evs G es st1).bind fun vs st2 => (Out.of2 (toDs vs st2)).bind fun ds st3 =>
      if isLook m = true then Out.of st3 ((rd st3 vo).bind fun w => lookM m w ds) else Out.of2 (change vo (mutO m ds) st3) else .bad := by
  simp only [ev]
  congr 1
  funext vo st1
  split
  · congr 1
    funext vs st2
    congr 1
    funext ds st3
    split
    · cases rd st3 vo <;> rfl
    · rfl
  · rfl
@[simp] theorem evs_nil : evs G [] st = .ok [] st := by simp only [evs]
@[simp] theorem evs_cons (e : E) (es : List E) : evs G (e :: es) st = (ev G e st).bind fun v st1 => (evs G es st1).bind fun vs st2 => .ok (v :: vs) st2 := by simp only [evs]
@[simp] theorem evo_no : evo G .no st = .ok none st := by simp only [evo]
def isNoE : E → Bool
  | .no => true
  | _ => false
theorem evo_e (e : E) (h : isNoE e = false) : evo G e st = (ev G e st).bind fun v st1 => Out.of st1 (((rd st1 v).bind intW).map some) := by
  have key : evo G e st = (ev G e st).bind fun v st1 => match (rd st1 v).bind intW with
      | some i => .ok (some i) st1
      | none => .bad := by
    cases e <;> first | (simp only [evo]; done) | (simp only [evo]; rfl) | cases h
  rw [key]
  congr 1
  funext v st1
  cases (rd st1 v).bind intW <;> rfl
@[simp] theorem tst_and (a b : E) : tst G (.and a b) st = (tst G a st).bind fun t st1 => if t = true then tst G b st1 else .ok false st1 := by simp only [tst]
@[simp] theorem tst_or (a b : E) : tst G (.or a b) st = (tst G a st).bind fun t st1 => if t = true then .ok true st1 else tst G b st1 := by simp only [tst]
@[simp] theorem tst_not (a : E) : tst G (.not a) st = (tst G a st).bind fun t st1 => .ok (!t) st1 := by simp only [tst]
@[simp] theorem tst_ife (c a b : E) : tst G (.ife c a b) st = (tst G c st).bind fun t st1 => if t = true then tst G a st1 else tst G b st1 := by simp only [tst]
def plainT : E → Bool
  | .and _ _ => false
  | .or _ _ => false
  | .not _ => false
  | .ife _ _ _ => false
  | _ => true
theorem tst_e (e : E) (h : plainT e = true) : tst G e st = (ev G e st).bind fun v st1 => Out.of st1 ((rd st1 v).bind truthW) := by
  have key : tst G e st = (ev G e st).bind fun v st1 => match (rd st1 v).bind truthW with
      | some t => .ok t st1
      | none => .bad := by
    cases e <;> first | (simp only [tst]; done) | (simp only [tst]; rfl) | cases h
  rw [key]
  congr 1
  funext v st1
  cases (rd st1 v).bind truthW <;> rfl
/-! statements -/
@[simp] theorem ex_pass : ex G .pass st = .ok .nx st := by simp only [ex]
@[simp] theorem ex_cont : ex G .cont st = .ok .ct st := by simp only [ex]
def ofS (o : Option St) : Out Fl := match o with
  | some st => .ok .nx st
  | none => .bad
@[simp] theorem ofS_some : ofS (some st) = .ok .nx st := rfl
@[simp] theorem ex_asg (t : Tg) (e : E) : ex G (.asg t e) st = (ev G e st).bind fun v st1 => ofS (bindV t v st1) := by
  simp only [ex]
  congr 1
  try funext v st1
  try (cases bindV t v st1 <;> rfl)
@[simp] theorem ex_ex (e : E) : ex G (.ex e) st = (ev G e st).bind fun _ st1 => .ok .nx st1 := by simp only [ex]
@[simp] theorem ex_ret (e : E) : ex G (.ret e) st = (ev G e st).bind fun v st1 => Out.of st1 ((leave v st1).map .rt) := by
  simp only [ex]
  congr 1
  funext v st1
  cases leave v st1 <;> rfl
@[simp] theorem ex_ife (c : E) (a b : List S) : ex G (.ife c a b) st = (tst G c st).bind fun t st1 => if t = true then exs G a st1 else exs G b st1 := by simp only [ex]
@[simp] theorem exs_nil : exs G [] st = .ok .nx st := by simp only [exs]
/-- what comes behind a statement -/
def thn' (f : Fl) (st : St) (k : St → Out Fl) : Out Fl := match f with
  | .nx => k st
  | f => .ok f st
@[simp] theorem thn_nx (k : St → Out Fl) : thn' .nx st k = k st := rfl
@[simp] theorem thn_rt (v : EV) (k : St → Out Fl) : thn' (.rt v) st k = .ok (.rt v) st := rfl
@[simp] theorem thn_ct (k : St → Out Fl) : thn' .ct st k = .ok .ct st := rfl
@[simp] theorem exs_cons (s : S) (r : List S) : exs G (s :: r) st = (ex G s st).bind fun f st1 => thn' f st1 (exs G r) := by
  simp only [exs]
  congr 1
  try funext f st1
  try (cases f <;> rfl)
end
@[simp] theorem tst_k (G : Gam) (st : St) (d : D) : tst G (.k d) st = (ev G (.k d) st).bind fun v st1 => Out.of st1 ((rd st1 v).bind truthW) := tst_e G st _ rfl
@[simp] theorem evo_k (G : Gam) (st : St) (d : D) : evo G (.k d) st = (ev G (.k d) st).bind fun v st1 => Out.of st1 (((rd st1 v).bind intW).map some) := evo_e G st _ rfl
@[simp] theorem tst_v (G : Gam) (st : St) (i : Nat) : tst G (.v i) st = (ev G (.v i) st).bind fun v st1 => Out.of st1 ((rd st1 v).bind truthW) := tst_e G st _ rfl
@[simp] theorem evo_v (G : Gam) (st : St) (i : Nat) : evo G (.v i) st = (ev G (.v i) st).bind fun v st1 => Out.of st1 (((rd st1 v).bind intW).map some) := evo_e G st _ rfl
@[simp] theorem tst_g (G : Gam) (st : St) (n : String) (d : D) : tst G (.g n d) st = (ev G (.g n d) st).bind fun v st1 => Out.of st1 ((rd st1 v).bind truthW) := tst_e G st _ rfl
@[simp] theorem evo_g (G : Gam) (st : St) (n : String) (d : D) : evo G (.g n d) st = (ev G (.g n d) st).bind fun v st1 => Out.of st1 (((rd st1 v).bind intW).map some) := evo_e G st _ rfl
@[simp] theorem tst_bin (G : Gam) (st : St) (op : Operator) (a b : E) : tst G (.bin op a b) st = (ev G (.bin op a b) st).bind fun v st1 => Out.of st1 ((rd st1 v).bind truthW) := tst_e G st _ rfl
@[simp] theorem evo_bin (G : Gam) (st : St) (op : Operator) (a b : E) : evo G (.bin op a b) st = (ev G (.bin op a b) st).bind fun v st1 => Out.of st1 (((rd st1 v).bind intW).map some) := evo_e G st _ rfl
@[simp] theorem tst_cmp (G : Gam) (st : St) (op : CmpOp) (a b : E) : tst G (.cmp op a b) st = (ev G (.cmp op a b) st).bind fun v st1 => Out.of st1 ((rd st1 v).bind truthW) := tst_e G st _ rfl
@[simp] theorem tst_chn (G : Gam) (st : St) (op op2 : CmpOp) (a b c : E) : tst G (.chn op op2 a b c) st = (ev G (.chn op op2 a b c) st).bind fun v st1 => Out.of st1 ((rd st1 v).bind truthW) := tst_e G st _ rfl
@[simp] theorem tst_idx (G : Gam) (st : St) (a b : E) : tst G (.idx a b) st = (ev G (.idx a b) st).bind fun v st1 => Out.of st1 ((rd st1 v).bind truthW) := tst_e G st _ rfl
@[simp] theorem evo_idx (G : Gam) (st : St) (a b : E) : evo G (.idx a b) st = (ev G (.idx a b) st).bind fun v st1 => Out.of st1 (((rd st1 v).bind intW).map some) := evo_e G st _ rfl
@[simp] theorem tst_call (G : Gam) (st : St) (f : String) (es : List E) : tst G (.call f es) st = (ev G (.call f es) st).bind fun v st1 => Out.of st1 ((rd st1 v).bind truthW) := tst_e G st _ rfl
@[simp] theorem evo_call (G : Gam) (st : St) (f : String) (es : List E) : evo G (.call f es) st = (ev G (.call f es) st).bind fun v st1 => Out.of st1 (((rd st1 v).bind intW).map some) := evo_e G st _ rfl
@[simp] theorem tst_bi (G : Gam) (st : St) (b : B) (es : List E) : tst G (.bi b es) st = (ev G (.bi b es) st).bind fun v st1 => Out.of st1 ((rd st1 v).bind truthW) := tst_e G st _ rfl
@[simp] theorem evo_bi (G : Gam) (st : St) (b : B) (es : List E) : evo G (.bi b es) st = (ev G (.bi b es) st).bind fun v st1 => Out.of st1 (((rd st1 v).bind intW).map some) := evo_e G st _ rfl
@[simp] theorem tst_isi (G : Gam) (st : St) (a : E) (ts : List String) : tst G (.isi a ts) st = (ev G (.isi a ts) st).bind fun v st1 => Out.of st1 ((rd st1 v).bind truthW) := tst_e G st _ rfl
@[simp] theorem tst_meth (G : Gam) (st : St) (m : String) (o : E) (es : List E) : tst G (.meth m o es) st = (ev G (.meth m o es) st).bind fun v st1 => Out.of st1 ((rd st1 v).bind truthW) := tst_e G st _ rfl
@[simp] theorem evo_meth (G : Gam) (st : St) (m : String) (o : E) (es : List E) : evo G (.meth m o es) st = (ev G (.meth m o es) st).bind fun v st1 => Out.of st1 (((rd st1 v).bind intW).map some) := evo_e G st _ rfl
@[simp] theorem tst_neg (G : Gam) (st : St) (a : E) : tst G (.neg a) st = (ev G (.neg a) st).bind fun v st1 => Out.of st1 ((rd st1 v).bind truthW) := tst_e G st _ rfl
@[simp] theorem evo_neg (G : Gam) (st : St) (a : E) : evo G (.neg a) st = (ev G (.neg a) st).bind fun v st1 => Out.of st1 (((rd st1 v).bind intW).map some) := evo_e G st _ rfl
@[simp] theorem tst_sl (G : Gam) (st : St) (a b c : E) : tst G (.sl a b c) st = (ev G (.sl a b c) st).bind fun v st1 => Out.of st1 ((rd st1 v).bind truthW) := tst_e G st _ rfl
@[simp] theorem evo_sl (G : Gam) (st : St) (a b c : E) : evo G (.sl a b c) st = (ev G (.sl a b c) st).bind fun v st1 => Out.of st1 (((rd st1 v).bind intW).map some) := evo_e G st _ rfl
@[simp] theorem tst_tup (G : Gam) (st : St) (es : List E) : tst G (.tup es) st = (ev G (.tup es) st).bind fun v st1 => Out.of st1 ((rd st1 v).bind truthW) := tst_e G st _ rfl
@[simp] theorem tst_lst (G : Gam) (st : St) (es : List E) : tst G (.lst es) st = (ev G (.lst es) st).bind fun v st1 => Out.of st1 ((rd st1 v).bind truthW) := tst_e G st _ rfl
@[simp] theorem tst_lc (G : Gam) (st : St) (a : E) (t : Tg) (b c : E) : tst G (.lc a t b c) st = (ev G (.lc a t b c) st).bind fun v st1 => Out.of st1 ((rd st1 v).bind truthW) := tst_e G st _ rfl
@[simp] theorem tst_trv (G : Gam) (st : St) (a : E) : tst G (.trv a) st = (ev G (.trv a) st).bind fun v st1 => Out.of st1 ((rd st1 v).bind truthW) := tst_e G st _ rfl
/-! reading -/
section
variable (st : St)
@[simp] theorem rd_non : rd st (.d .non) = some (.d .non) := rfl
@[simp] theorem rd_bl (b : Bool) : rd st (.d (.bl b)) = some (.d (.bl b)) := rfl
@[simp] theorem rd_int (i : Int) : rd st (.d (.int i)) = some (.d (.int i)) := rfl
@[simp] theorem rd_str (x : Str) : rd st (.d (.str x)) = some (.d (.str x)) := rfl
@[simp] theorem rd_tup (ds : List D) : rd st (.d (.tup ds)) = some (.d (.tup ds)) := rfl
@[simp] theorem rd_fz (ds : List D) : rd st (.d (.fz ds)) = some (.d (.fz ds)) := rfl
@[simp] theorem rd_ref (a : Nat) : rd st (.d (.ref a)) = (st.h[a]?).map Wv.o := rfl
@[simp] theorem rd_o (x : O) : rd st (.o x) = some (.o x) := rfl
@[simp] theorem rd_pl (i : Nat) : rd st (.pl i) = (match st.σ[i]? with
    | some (.o x) => some (.o x)
    | some (.d (.ref a)) => (st.h[a]?).map Wv.o
    | _ => none) := rfl
@[simp] theorem toD_d (x : D) : toD (.d x) st = some (x, st) := rfl
@[simp] theorem toD_o (x : O) : toD (.o x) st = some (.ref st.h.length, { st with h := st.h ++ [x] }) := rfl
@[simp] theorem toD_pl (i : Nat) : toD (.pl i) st = (match st.σ[i]? with
    | some (.o x) => some (.ref st.h.length, { σ := st.σ.set i (.d (.ref st.h.length)), h := st.h ++ [x] })
    | some (.d x) => some (x, st)
    | _ => none) := rfl
@[simp] theorem toDs_nil : toDs [] st = some ([], st) := rfl
@[simp] theorem toDs_cons (v : EV) (vs : List EV) : toDs (v :: vs) st = (toD v st).bind fun p => (toDs vs p.2).map fun q => (p.1 :: q.1, q.2) := by
  simp only [toDs]
  cases toD v st with
  | none => rfl
  | some p =>
    obtain ⟨x, s1⟩ := p
    cases h2 : toDs vs s1 <;> simp [h2]
@[simp] theorem put_d (i : Nat) (x : D) : put i (.d x) st = some (st.set i (.d x)) := rfl
@[simp] theorem put_o (i : Nat) (x : O) : put i (.o x) st = some (st.set i (.o x)) := rfl
@[simp] theorem put_pl (i j : Nat) : put i (.pl j) st = (toD (.pl j) st).map fun p => p.2.set i (.d p.1) := by
  cases h : toD (.pl j) st with
  | none => simp only [put, h]; rfl
  | some p =>
    obtain ⟨x, s1⟩ := p
    simp only [put, h]
    rfl
@[simp] theorem bindV_v (i : Nat) (v : EV) : bindV (.v i) v st = put i v st := rfl
@[simp] theorem bindV_tup (ts : List Tg) (ds : List D) : bindV (.tup ts) (.d (.tup ds)) st = bindDs ts ds st := rfl
@[simp] theorem bindD_v (i : Nat) (x : D) : bindD (.v i) x st = some (st.set i (.d x)) := rfl
@[simp] theorem bindD_tup (ts : List Tg) (ds : List D) : bindD (.tup ts) (.tup ds) st = bindDs ts ds st := rfl
@[simp] theorem bindDs_nil : bindDs [] [] st = some st := rfl
@[simp] theorem bindDs_cons (t : Tg) (ts : List Tg) (d : D) (ds : List D) : bindDs (t :: ts) (d :: ds) st = (bindD t d st).bind (bindDs ts ds) := by
  simp only [bindDs]
  cases bindD t d st <;> rfl
@[simp] theorem leave_d (x : D) : leave (.d x) st = some (.d x) := rfl
@[simp] theorem leave_o (x : O) : leave (.o x) st = some (.o x) := rfl
@[simp] theorem leave_pl (i : Nat) : leave (.pl i) st = (match st.σ[i]? with
    | some (.o x) => some (.o x)
    | some (.d x) => some (.d x)
    | _ => none) := rfl
@[simp] theorem set_mk (σ : List Sl) (h : List O) (i : Nat) (s : Sl) : St.set ⟨σ, h⟩ i s = ⟨σ.set i s, h⟩ := rfl
end
/-! operators -/
section
variable (i j : Int) (x y : Str) (ds es : List D)
@[simp] theorem bin_add : binW .Add (.d (.int i)) (.d (.int j)) = some (.d (.int (i + j))) := rfl
@[simp] theorem bin_sub : binW .Sub (.d (.int i)) (.d (.int j)) = some (.d (.int (i - j))) := rfl
theorem bin_mul : binW .Mult (.d (.int i)) (.d (.int j)) = if i.natAbs.log2 + j.natAbs.log2 < 130000000 then some (.d (.int (i * j))) else none := rfl
theorem bin_fdiv : binW .FloorDiv (.d (.int i)) (.d (.int j)) = if 0 < j ∧ j.natAbs.log2 < 9000 then some (.d (.int (i / j))) else none := rfl
theorem bin_mod : binW .Mod (.d (.int i)) (.d (.int j)) = if 0 < j then some (.d (.int (i % j))) else none := rfl
theorem bin_pow : binW .Pow (.d (.int i)) (.d (.int j)) = if 0 ≤ j ∧ j ≤ 1000000 ∧ i.natAbs < 2 ^ 64 then some (.d (.int (i ^ j.toNat))) else none := rfl
/-- less than 2^250 -/
def sm (i : Int) : Prop := i.natAbs < 2 ^ 250
instance (i : Int) : Decidable (sm i) := inferInstanceAs (Decidable (_ < _))
theorem log_sm {i : Int} (h : sm i) : i.natAbs.log2 ≤ 1000 := by
  unfold sm at h
  by_cases z : i.natAbs = 0
  · rw [z]
    decide
  · have := (Nat.log2_lt z).mpr h
    omega
theorem sm_of {i : Int} (h0 : 0 ≤ i) (h1 : i < 2 ^ 250) : sm i := by
  unfold sm
  omega
@[simp] theorem bin_mul' (hi : sm i) (hj : sm j) : binW .Mult (.d (.int i)) (.d (.int j)) = some (.d (.int (i * j))) := by
  have h1 := log_sm hi
  have h2 := log_sm hj
  rw [bin_mul, if_pos (by omega)]
@[simp] theorem bin_fdiv' (h0 : 0 < j) (h1 : j ≤ 2 ^ 64) : binW .FloorDiv (.d (.int i)) (.d (.int j)) = some (.d (.int (i / j))) := by
  have h2 : sm j := by
    unfold sm
    omega
  have h3 := log_sm h2
  rw [bin_fdiv, if_pos ⟨h0, by omega⟩]
@[simp] theorem bin_mod' (h0 : 0 < j) : binW .Mod (.d (.int i)) (.d (.int j)) = some (.d (.int (i % j))) := by rw [bin_mod, if_pos h0]
@[simp] theorem bin_pow' (h0 : 0 ≤ j) (h1 : j ≤ 1000000) (h2 : i.natAbs < 2 ^ 64) : binW .Pow (.d (.int i)) (.d (.int j)) = some (.d (.int (i ^ j.toNat))) := by rw [bin_pow, if_pos ⟨h0, h1, h2⟩]
@[simp] theorem bin_strs : binW .Add (.d (.str x)) (.d (.str y)) = if x.length + y.length ≤ lim then some (.d (.str (x ++ y))) else none := rfl
@[simp] theorem bin_tups : binW .Add (.d (.tup ds)) (.d (.tup es)) = if ds.length + es.length ≤ lim then some (.d (.tup (ds ++ es))) else none := rfl
@[simp] theorem bin_lsts : binW .Add (.o (.lst ds)) (.o (.lst es)) = if ds.length + es.length ≤ lim then some (.o (.lst (ds ++ es))) else none := rfl
@[simp] theorem cmp_eq (a b : Wv) : cmpE .Eq a b = (eqW a b).map fun t => .d (.bl t) := rfl
@[simp] theorem cmp_ne (a b : Wv) : cmpE .NotEq a b = (eqW a b).map fun t => .d (.bl (!t)) := by
  unfold cmpE cmpW
  cases eqW a b <;> rfl
@[simp] theorem cmp_lt (a b : Wv) : cmpE .Lt a b = (ltW a b).map fun t => .d (.bl t) := rfl
@[simp] theorem cmp_gt (a b : Wv) : cmpE .Gt a b = (ltW b a).map fun t => .d (.bl t) := rfl
@[simp] theorem cmp_le (a b : Wv) : cmpE .LtE a b = (ltW b a).map fun t => .d (.bl (!t)) := by
  unfold cmpE cmpW
  cases ltW b a <;> rfl
@[simp] theorem cmp_ge (a b : Wv) : cmpE .GtE a b = (ltW a b).map fun t => .d (.bl (!t)) := by
  unfold cmpE cmpW
  cases ltW a b <;> rfl
@[simp] theorem eq_int : eqW (.d (.int i)) (.d (.int j)) = some (i == j) := rfl
@[simp] theorem eq_str : eqW (.d (.str x)) (.d (.str y)) = some (x == y) := rfl
@[simp] theorem lt_int : ltW (.d (.int i)) (.d (.int j)) = some (decide (i < j)) := rfl
@[simp] theorem idx_tup : idxE (.d (.tup ds)) (.d (.int i)) = (L2.atI ds i).map EV.d := rfl
@[simp] theorem idx_fz : idxE (.d (.fz ds)) (.d (.int i)) = (L2.atI ds i).map EV.d := rfl
@[simp] theorem idx_lst : idxE (.o (.lst ds)) (.d (.int i)) = (L2.atI ds i).map EV.d := rfl
@[simp] theorem idx_str : idxE (.d (.str x)) (.d (.int i)) = (if x.length ≤ lim then (L2.atI x.cps.toList i).map fun c => .str ⟨#[c]⟩ else none).map EV.d := rfl
@[simp] theorem truth_bl (b : Bool) : truthW (.d (.bl b)) = some b := rfl
@[simp] theorem truth_int : truthW (.d (.int i)) = some (i != 0) := rfl
@[simp] theorem intW_int : intW (.d (.int i)) = some i := rfl
@[simp] theorem slW_tup (lo hi : Option Int) : slW (.d (.tup ds)) lo hi = some (.d (.tup (cut ds lo hi))) := rfl
@[simp] theorem slW_lst (lo hi : Option Int) : slW (.o (.lst ds)) lo hi = some (.o (.lst (cut ds lo hi))) := rfl
@[simp] theorem slW_str (lo hi : Option Int) : slW (.d (.str x)) lo hi = if x.length ≤ lim then some (.d (.str ⟨(cut x.cps.toList lo hi).toArray⟩)) else none := rfl
@[simp] theorem seqL_tup : seqL (.d (.tup ds)) = some ds := rfl
@[simp] theorem seqL_lst : seqL (.o (.lst ds)) = some ds := rfl
@[simp] theorem seqW_tup : seqW (.d (.tup ds)) = some ds := rfl
@[simp] theorem seqW_lst : seqW (.o (.lst ds)) = some ds := rfl
@[simp] theorem seqW_fz : seqW (.d (.fz ds)) = some ds := rfl
@[simp] theorem seqW_str : seqW (.d (.str x)) = some (strItems x) := rfl
end
/-! built-in calls -/
section
variable (st : St)
def lenW : Wv → Option EV
  | .d (.tup ds) => some (.d (.int ds.length))
  | .d (.fz ds) => some (.d (.int ds.length))
  | .d (.str x) => if x.length ≤ lim then some (.d (.int x.length)) else none
  | .o (.lst ds) => some (.d (.int ds.length))
  | .o (.dct kvs) => some (.d (.int kvs.length))
  | _ => none
@[simp] theorem bi_len (v : EV) : biS .len st [v] = (rd st v).bind lenW := by
  cases h : rd st v with
  | none => simp [biS, h]
  | some w =>
    cases w with
    | d d => cases d <;> simp [biS, h, lenW]
    | o o => cases o <;> simp [biS, h, lenW]
@[simp] theorem lenW_tup (ds : List D) : lenW (.d (.tup ds)) = some (.d (.int ds.length)) := rfl
@[simp] theorem lenW_fz (ds : List D) : lenW (.d (.fz ds)) = some (.d (.int ds.length)) := rfl
@[simp] theorem lenW_lst (ds : List D) : lenW (.o (.lst ds)) = some (.d (.int ds.length)) := rfl
@[simp] theorem lenW_str (x : Str) : lenW (.d (.str x)) = if x.length ≤ lim then some (.d (.int x.length)) else none := rfl
@[simp] theorem bi_sum (v : EV) : biS .sum st [v] = (rd st v).bind fun w => match w with
    | .o (.lst ds) => (sumD 0 ds).map fun i => .d (.int i)
    | _ => none := by
  cases h : rd st v with
  | none => simp [biS, h]
  | some w =>
    cases w with
    | d d => simp [biS, h]
    | o o => cases o <;> simp [biS, h]
@[simp] theorem bi_max2 (v u : EV) : biS .max st [v, u] = ((rd st v).bind intW).bind fun i => ((rd st u).bind intW).map fun j => .d (.int (if j > i then j else i)) := by
  cases h : (rd st v).bind intW <;> cases h2 : (rd st u).bind intW <;> simp [biS, h, h2]
@[simp] theorem bi_min2 (v u : EV) : biS .min st [v, u] = ((rd st v).bind intW).bind fun i => ((rd st u).bind intW).map fun j => .d (.int (if j < i then j else i)) := by
  cases h : (rd st v).bind intW <;> cases h2 : (rd st u).bind intW <;> simp [biS, h, h2]
@[simp] theorem bi_divmod (v u : EV) : biS .divmod st [v, u] = ((rd st v).bind intW).bind fun i => ((rd st u).bind intW).bind fun j => if 0 < j ∧ Builtin.Int.intBits i ≤ Builtin.Int.intBits j + 4000 then some (.d (.tup [.int (i / j), .int (i % j)])) else none := by
  cases h : (rd st v).bind intW <;> cases h2 : (rd st u).bind intW <;> simp [biS, h, h2]
def tupW : Wv → Option EV
  | .o (.lst ds) => some (.d (.tup ds))
  | .d (.tup ds) => some (.d (.tup ds))
  | _ => none
theorem bi_tuple (v : EV) (h : ∀ k vs, v ≠ .it k vs) : biS .tuple st [v] = (rd st v).bind tupW := by
  cases v with
  | it k vs => exact (h k vs rfl).elim
  | d x =>
    cases e : rd st (.d x) with
    | none => simp [biS, items, e]
    | some w =>
      cases w with
      | d d => cases d <;> simp [biS, items, e, seqW, tupW]
      | o o => cases o <;> simp [biS, items, e, seqW, tupW]
  | o x => cases x <;> simp [biS, items, seqW, tupW]
  | pl i =>
    cases e : rd st (.pl i) with
    | none => simp [biS, items, e]
    | some w =>
      cases w with
      | d d => cases d <;> simp [biS, items, e, seqW, tupW]
      | o o => cases o <;> simp [biS, items, e, seqW, tupW]
@[simp] theorem bi_tuple_d (x : D) : biS .tuple st [.d x] = (rd st (.d x)).bind tupW := bi_tuple st _ fun k vs e => nomatch e
@[simp] theorem bi_tuple_o (x : O) : biS .tuple st [.o x] = (rd st (.o x)).bind tupW := bi_tuple st _ fun k vs e => nomatch e
@[simp] theorem bi_tuple_pl (i : Nat) : biS .tuple st [.pl i] = (rd st (.pl i)).bind tupW := bi_tuple st _ fun k vs e => nomatch e
@[simp] theorem tupW_lst (ds : List D) : tupW (.o (.lst ds)) = some (.d (.tup ds)) := rfl
@[simp] theorem tupW_tup (ds : List D) : tupW (.d (.tup ds)) = some (.d (.tup ds)) := rfl
end
/-! methods -/
@[simp] theorem change_pl (i : Nat) (f : O → Option (O × EV)) (st : St) : change (.pl i) f st = (match st.σ[i]? with
    | some (.o x) => (f x).map fun p => (p.2, st.set i (.o p.1))
    | some (.d (.ref a)) => (st.h[a]?).bind fun x => (f x).map fun p => (p.2, { st with h := st.h.set a p.1 })
    | _ => none) := by
  unfold change
  simp only
  cases h : st.σ[i]? with
  | none => rfl
  | some s =>
    cases s with
    | un => rfl
    | o x =>
      simp only
      cases h2 : f x <;> rfl
    | d x =>
      cases x with
      | ref a =>
        simp only
        cases h2 : st.h[a]? with
        | none => rfl
        | some x =>
          simp only [Option.bind_some]
          cases h3 : f x <;> rfl
      | _ => rfl
@[simp] theorem change_ref (a : Nat) (f : O → Option (O × EV)) (st : St) : change (.d (.ref a)) f st = (st.h[a]?).bind fun x => (f x).map fun p => (p.2, { st with h := st.h.set a p.1 }) := by
  unfold change
  simp only
  cases h2 : st.h[a]? with
  | none => rfl
  | some x =>
    simp only [Option.bind_some]
    cases h3 : f x <;> rfl
@[simp] theorem look_append : isLook "append" = false := by decide
@[simp] theorem look_clear : isLook "clear" = false := by decide
@[simp] theorem look_pop : isLook "pop" = false := by decide
@[simp] theorem look_find : isLook "find" = true := by decide
@[simp] theorem meth_append (n : Nat) (xs : List D) : methOk "append" n (.o (.lst xs)) = true := by simp [methOk]
@[simp] theorem meth_clear (n : Nat) (xs : List D) : methOk "clear" n (.o (.lst xs)) = true := by simp [methOk]
@[simp] theorem meth_pop (xs : List D) : methOk "pop" 0 (.o (.lst xs)) = true := by simp [methOk]
@[simp] theorem mut_append (xs : List D) (x : D) : mutO "append" [x] (.lst xs) = if xs.length < lim then some (.lst (xs ++ [x]), .d .non) else none := by simp [mutO]
@[simp] theorem mut_clear (xs : List D) : mutO "clear" [] (.lst xs) = some (.lst [], .d .non) := by simp [mutO]
theorem mut_pop (xs : List D) : mutO "pop" [] (.lst xs) = xs.getLast?.map fun y => (.lst xs.dropLast, .d y) := by
  simp only [mutO]
  cases xs.getLast? <;> rfl
theorem bits_ok {i : Int} (h : sm i) (j : Int) : Builtin.Int.intBits i ≤ Builtin.Int.intBits j + 4000 := by
  have := log_sm h
  unfold Builtin.Int.intBits
  split <;> omega
/-! calls -/
section
variable (T : Tab) (n : Nat)
@[simp] theorem gam_call (f : String) (ds : List D) (h : List O) : (gam T n).call f ds h = callN T n f ds h := rfl
theorem sumD_map {β : Type} (f : β → Int) (ys : List β) : ∀ a, sumD a (ys.map fun y => D.int (f y)) = some (a + (ys.map f).sum) := by
  induction ys with
  | nil => intro a; simp [sumD]
  | cons i is ih => intro a; simp [sumD, ih]; omega
@[simp] theorem gam_sub : (gam T n).sub = T.sub := rfl
theorem callN_run {f : String} {fd : Fd} {ds : List D} (h : List O) (hT : T.fn f = some fd) (hl : ds.length = fd.ps) (hd : fd.dfl = []) : callN T (n + 1) f ds h = gc h (runB (gam T n) fd ds h) := by
  rw [callN]
  simp only [hT]
  rw [if_pos ⟨Nat.le_of_eq hl, by rw [hl]; exact Nat.le_add_right _ _⟩, hd]
  simp only [List.drop_nil, List.append_nil]
  rfl
/-- a body's end -/
def endB : Out Fl → OutC
  | .ok (.rt v) st => .ok v st.h
  | .ok .nx st => .ok (.d .non) st.h
  | .ok .ct _ => .bad
  | .ex c st => .ex c st.h
  | .bad => .bad
theorem runB_end (G : Gam) (fd : Fd) (ds : List D) (h : List O) : runB G fd ds h = endB (exs G fd.body ⟨startS fd.n ds, h⟩) := by
  unfold runB endB
  cases exs G fd.body ⟨startS fd.n ds, h⟩ with
  | ok f st => cases f <;> rfl
  | ex c st => rfl
  | bad => rfl
@[simp] theorem endB_rt (v : EV) (st : St) : endB (.ok (.rt v) st) = .ok v st.h := rfl
@[simp] theorem endB_nx (st : St) : endB (.ok .nx st) = .ok (.d .non) st.h := rfl
@[simp] theorem gc_d (h : List O) (x : D) : gc h (.ok (.d x) h) = .ok (.d x) h := by
  unfold gc
  simp only [List.take_length, if_true]
  cases x with
  | ref i =>
    simp only
    split
    · rfl
    · rename_i hi
      have e : h[i]? = none := List.getElem?_eq_none (by omega)
      rw [e]
  | _ => simp
@[simp] theorem gc_o (h : List O) (x : O) : gc h (.ok (.o x) h) = .ok (.o x) h := by
  unfold gc
  simp
end
/-! loops and comprehensions -/
section
theorem items_d {st : St} (x : D) : items st (.d x) = (rd st (.d x)).bind seqW := by simp [items]
/-- a loop by its invariant: the turns all go on -/
theorem foL_inv {stay : St → Prop} {tg : Tg} {b : St → Out Fl} {xs : List D} (I : Nat → St → Prop) (hs : ∀ i s, i ≤ xs.length → I i s → stay s)
    (hb : ∀ i x s, xs[i]? = some x → I i s → ∃ s1 s2, bindD tg x s = some s1 ∧ (b s1 = .ok .nx s2 ∨ b s1 = .ok .ct s2) ∧ I (i + 1) s2) : ∀ {st : St}, I 0 st → ∃ s', foL stay tg b xs st = .ok .nx s' ∧ I xs.length s' := by
  have main : ∀ (k i : Nat) (st : St), k + i = xs.length → I i st → ∃ s', foL stay tg b (xs.drop i) st = .ok .nx s' ∧ I xs.length s' := by
    intro k
    induction k with
    | zero =>
      intro i st e h
      have e' : i = xs.length := by omega
      subst e'
      refine ⟨st, ?_, h⟩
      rw [List.drop_length]
      unfold foL
      rw [if_pos (hs _ st (Nat.le_refl _) h)]
    | succ k ih =>
      intro i st e h
      have hi : i < xs.length := by omega
      obtain ⟨s1, s2, h1, h2, h3⟩ := hb i xs[i] st (List.getElem?_eq_getElem hi) h
      obtain ⟨s', h4, h5⟩ := ih (i + 1) s2 (by omega) h3
      refine ⟨s', ?_, h5⟩
      rw [List.drop_eq_getElem_cons hi]
      unfold foL
      rw [if_pos (hs i st (Nat.le_of_lt hi) h), h1]
      simp only
      rcases h2 with h2 | h2 <;> rw [h2] <;> exact h4
  intro st h
  simpa using main xs.length 0 st (by omega) h
/-- a loop, one turn -/
theorem foL_cons {stay : St → Prop} {tg : Tg} {b : St → Out Fl} {x : D} {xs : List D} {st s1 : St} (hs : stay st) (h : bindD tg x st = some s1) : foL stay tg b (x :: xs) st = (b s1).bind fun f st2 => match f with
        | .rt v => .ok (.rt v) st2
        | _ => foL stay tg b xs st2 := by
  first | (rw [foL, if_pos hs, h]; done) | (rw [foL, if_pos hs, h]; rfl)
theorem foL_nil {stay : St → Prop} {tg : Tg} {b : St → Out Fl} {st : St} (hs : stay st) : foL stay tg b [] st = .ok .nx st := by
  rw [foL, if_pos hs]
theorem ex_for {G : Gam} {tg : Tg} {src : E} {b : List S} {st st1 : St} {v : EV} {xs : List D} (h : ev G src st = .ok v st1) (hi : items st1 v = some xs) (hp : (v.pls.all fun i => !(tg.vars ++ S.asgss b).contains i) = true) :
    ex G (.for_ tg src b) st = foL (fun s => items s v = some xs) tg (exs G b) xs st1 := by
  simp only [ex, h, Out.bind_ok, hi]
  rw [if_pos hp]
theorem wst_back {st1 st2 : St} {vs : List Nat} (h : wst st2 vs = wst st1 vs) : ({ st2 with σ := backS st2.σ st1.σ vs } : St) = st1 := by
  have h1 : wipeS st2.σ vs = wipeS st1.σ vs := congrArg St.σ h
  have h2 : (wst st2 vs).h = (wst st1 vs).h := by rw [h]
  change st2.h = st1.h at h2
  have hl : st2.σ.length = st1.σ.length := by
    have := congrArg List.length h1
    rw [wipeS_length, wipeS_length] at this
    exact this
  have e : backS st2.σ st1.σ vs = st1.σ := by
    apply List.ext_getElem?
    intro j
    rw [backS_get hl]
    by_cases hj : j ∈ vs
    · rw [if_pos hj]
    · rw [if_neg hj]
      have := congrArg (fun l => l[j]?) h1
      simp only [wipeS_get, if_neg hj] at this
      exact this
  obtain ⟨σ1, h1'⟩ := st1
  obtain ⟨σ2, h2'⟩ := st2
  simp only at h2 e
  rw [e, h2]
/-- a comprehension that maps -/
theorem ev_map {β : Type} {G : Gam} {elt src : E} {tg : Tg} {st st1 : St} {v : EV} (ys : List β) (f g : β → D) (h : ev G src st = .ok v st1) (hi : items st1 v = some (ys.map f)) (hl : ys.length ≤ lim) (hp : (v.pls.all fun i => !tg.vars.contains i) = true)
    (he : ∀ y ∈ ys, ∃ s1, bindD tg (f y) (wst st1 tg.vars) = some s1 ∧ ev G elt s1 = .ok (.d (g y)) s1 ∧ wst s1 tg.vars = wst st1 tg.vars) : ev G (.lc elt tg src .no) st = .ok (.o (.lst (ys.map g))) st1 := by
  have hpl : ∀ i ∈ v.pls, i ∉ tg.vars := by
    simp only [List.all_eq_true, Bool.not_eq_true', List.contains_eq_mem, decide_eq_false_iff_not] at hp
    exact hp
  have stay : ∀ s, wst s tg.vars = wst st1 tg.vars → items s v = some (ys.map f) := fun s e => by
    rw [← items_wst hpl, e, items_wst hpl, hi]
  have main : ∀ (zs : List β) (acc : List D) (s : St), (∀ x ∈ zs, x ∈ ys) → wst s tg.vars = wst st1 tg.vars →
      ∃ s', lcL (fun s => items s v = some (ys.map f)) tg (fun s => .ok true s) (ev G elt) (zs.map f) acc s = .ok (acc ++ zs.map g) s' ∧ wst s' tg.vars = wst st1 tg.vars := by
    intro zs
    induction zs with
    | nil =>
      intro acc s _ e
      refine ⟨s, ?_, e⟩
      rw [List.map_nil]
      unfold lcL
      rw [if_pos (stay s e)]
      simp
    | cons y zs ih =>
      intro acc s hy e
      obtain ⟨s1, h1, h2, h3⟩ := he y (hy y (by simp))
      obtain ⟨s', h4, h5⟩ := ih (acc ++ [g y]) s1 (fun x hx => hy x (by simp [hx])) h3
      refine ⟨s', ?_, h5⟩
      rw [List.map_cons]
      unfold lcL
      rw [if_pos (stay s e)]
      have e2 : ({ s with σ := wipeS s.σ tg.vars } : St) = wst st1 tg.vars := e
      rw [e2, h1]
      simp only [Out.bind_ok, if_true, h2, toD_d, Out.of2_some]
      rw [h4]
      simp
  obtain ⟨s', h4, h5⟩ := main ys [] st1 (fun x hx => hx) rfl
  rw [ev]
  simp only [h, Out.bind_ok, hi]
  rw [if_pos (by simp only [Bool.and_eq_true, decide_eq_true_eq, List.length_map]; exact ⟨hl, hp⟩)]
  rw [h4]
  simp only [Out.tame_ok, Out.bind_ok, List.nil_append]
  rw [wst_back h5]
end
/-! places of lists -/
section
variable {α : Type}
@[simp] theorem atI_0 (x : α) (xs : List α) : L2.atI (x :: xs) 0 = some x := by simp [L2.atI, L2.ixN]
@[simp] theorem atI_1 (x y : α) (xs : List α) : L2.atI (x :: y :: xs) 1 = some y := by
  unfold L2.atI L2.ixN
  rw [if_pos (by decide), if_pos (by simp only [List.length_cons]; omega)]
  rfl
theorem atI_nat (xs : List α) (i : Nat) (hi : i < xs.length) : L2.atI xs i = some xs[i] := by
  unfold L2.atI L2.ixN
  rw [if_pos (by omega), if_pos (by omega)]
  simp
theorem atI_int (xs : List α) (i : Int) (h0 : 0 ≤ i) (hi : i < xs.length) : L2.atI xs i = some (xs[i.toNat]'(by omega)) := by
  obtain ⟨k, rfl⟩ := Int.eq_ofNat_of_zero_le h0
  exact atI_nat xs k (by omega)
theorem cut_take (xs : List α) (k : Nat) : cut xs none (some (k : Int)) = xs.take k := by
  unfold EW.cut
  rw [HT.sIx_none, HT.sIx_nat]
  simp only [List.drop_zero, Nat.sub_zero]
  by_cases h : k ≤ xs.length
  · rw [Nat.min_eq_left h]
  · rw [Nat.min_eq_right (by omega), List.take_of_length_le (Nat.le_refl _), List.take_of_length_le (by omega)]
theorem cut_drop (xs : List α) (k : Nat) : cut xs (some (k : Int)) none = xs.drop k := by
  unfold EW.cut
  rw [HT.sIx_none, HT.sIx_nat]
  by_cases h : k ≤ xs.length
  · rw [Nat.min_eq_left h, List.take_of_length_le (by simp)]
  · rw [Nat.min_eq_right (by omega), List.drop_of_length_le (Nat.le_refl _), List.drop_of_length_le (by omega)]
    simp
@[simp] theorem cut_head (x : α) (xs : List α) : cut (x :: xs) none (some 1) = [x] := by
  have := cut_take (x :: xs) 1
  simpa using this
@[simp] theorem cut_tail (x : α) (xs : List α) : cut (x :: xs) (some 1) none = xs := by
  unfold EW.cut HT.sIx
  simp
end
end EW

-- part: Data
set_option maxHeartbeats 1000000
/-! order and equality of data -/
namespace EW
open PySem PySem.W PyProof.Rows
theorem toPs_map (ds : List D) : D.toPs ds = ds.map D.toP := by
  induction ds with
  | nil => rfl
  | cons d ds ih => simp [D.toPs, ih]
theorem pures_all (ds : List D) : D.pures ds = ds.all D.pure := by
  induction ds with
  | nil => rfl
  | cons d ds ih => simp [D.pures, ih]
theorem lt_yes {x y : PyData} {xs ys : List PyData} (h : alike x y = true) (e : PyData.eqv x y = true) : dataLt (.tuple (x :: xs)) (.tuple (y :: ys)) = dataLt (.tuple xs) (.tuple ys) := by
  rw [dataLt_tuple, dataLt_tuple, dataLt_all_yes h e]
theorem lt_no {x y : PyData} {xs ys : List PyData} (h : alike x y = true) (e : PyData.eqv x y = false) : dataLt (.tuple (x :: xs)) (.tuple (y :: ys)) = dataLt x y := by
  rw [dataLt_tuple, dataLt_all_no h e]
theorem lt_tot {x y : PyData} (h : alike x y = true) (h1 : dataLt x y = false) (h2 : dataLt y x = false) : PyData.eqv x y = true := by
  cases e : PyData.eqv x y with
  | true => rfl
  | false =>
    have k := PyProof.Rows.lex_total (O := itemOrd) _ _ h1 h2
    have z := (toks_eqv x y h).2 e [] [.inl 0]
    rw [← k, lex_pre] at z
    have z2 : PyProof.Rows.lexLt itemOrd (keyToks x) (keyToks x) = false := PyProof.Rows.lex_irrefl (O := itemOrd) _
    rw [z2] at z
    cases z
theorem lt_nil : dataLt (.tuple []) (.tuple []) = false := by
  rw [dataLt_tuple]
  exact PyProof.Rows.lex_irrefl (O := itemOrd) _
mutual
/-- a datum is alike to one of the same shape in the first places -/
theorem eqv_refl : ∀ d : D, d.pure = true → PyData.eqv d.toP d.toP = true
  | .non, _ => rfl
  | .bl b, _ => by simp [D.toP, PyData.eqv]
  | .int i, _ => by simp [D.toP, PyData.eqv]
  | .str x, _ => by simp [D.toP, PyData.eqv]
  | .tup ds, h => by
    simp only [D.toP, PyData.eqv]
    exact eqvs_refl ds (by simpa [D.pure] using h)
  | .ref a, h => by simp [D.pure] at h
  | .fz ds, h => by simp [D.pure] at h
  | .exn c, h => by simp [D.pure] at h
theorem eqvs_refl : ∀ ds : List D, D.pures ds = true → PyData.eqvAll (D.toPs ds) (D.toPs ds) = true
  | [], _ => rfl
  | d :: ds, h => by
    have h' : d.pure = true ∧ D.pures ds = true := by simpa [D.pures] using h
    simp [D.toPs, PyData.eqvAll, eqv_refl d h'.1, eqvs_refl ds h'.2]
end
theorem ltW_tup {xs ys : List D} (h1 : D.pures xs = true) (h2 : D.pures ys = true) (h3 : alikeAll (D.toPs xs) (D.toPs ys) = true) (h4 : (D.tup xs).toP.depth ≤ deepest) :
    ltW (.d (.tup xs)) (.d (.tup ys)) = some (dataLt (.tuple (D.toPs xs)) (.tuple (D.toPs ys))) := by
  have h4' : min (D.tup xs).toP.depth (D.tup ys).toP.depth ≤ deepest := Nat.le_trans (Nat.min_le_left _ _) h4
  have c : ((Wv.d (.tup xs)).pure && (Wv.d (.tup ys)).pure && (Wv.d (.tup xs)).isSeq && alike (Wv.d (.tup xs)).toP (Wv.d (.tup ys)).toP && decide (min (Wv.d (.tup xs)).toP.depth (Wv.d (.tup ys)).toP.depth ≤ deepest)) = true := by
    simp only [Wv.pure, Wv.isSeq, Wv.toP, D.pure, D.toP, alike, h1, h2, h3, Bool.and_true, Bool.true_and]
    exact decide_eq_true h4'
  unfold ltW
  simp only
  rw [if_pos c]
  simp only [Wv.toP, D.toP]
theorem eqW_tup {xs ys : List D} (h1 : D.pures xs = true) (h2 : D.pures ys = true) (h4 : (D.tup xs).toP.depth ≤ deepest) :
    eqW (.d (.tup xs)) (.d (.tup ys)) = some (PyData.eqvAll (D.toPs xs) (D.toPs ys)) := by
  have h4' : min (D.tup xs).toP.depth (D.tup ys).toP.depth ≤ deepest := Nat.le_trans (Nat.min_le_left _ _) h4
  have c : ((Wv.d (.tup xs)).pure && (Wv.d (.tup ys)).pure && decide (min (Wv.d (.tup xs)).toP.depth (Wv.d (.tup ys)).toP.depth ≤ deepest)) = true := by
    simp only [Wv.pure, D.pure, h1, h2, Bool.and_true, Bool.true_and, decide_eq_true_eq]
    exact h4'
  unfold eqW
  simp only
  rw [if_pos c]
  simp only [Wv.toP, D.toP, PyData.eqv]
theorem eqW_lst {xs ys : List D} (h1 : D.pures xs = true) (h2 : D.pures ys = true) (h4 : (D.tup xs).toP.depth ≤ deepest) :
    eqW (.o (.lst xs)) (.o (.lst ys)) = some (PyData.eqvAll (D.toPs xs) (D.toPs ys)) := by
  have h4' : min (PyData.list (D.toPs xs)).depth (PyData.list (D.toPs ys)).depth ≤ deepest := Nat.le_trans (Nat.min_le_left _ _) h4
  have c : ((Wv.o (.lst xs)).pure && (Wv.o (.lst ys)).pure && decide (min (Wv.o (.lst xs)).toP.depth (Wv.o (.lst ys)).toP.depth ≤ deepest)) = true := by
    simp only [Wv.pure, h1, h2, Bool.and_true, Bool.true_and, decide_eq_true_eq]
    exact h4'
  unfold eqW
  simp only
  rw [if_pos c]
  simp only [Wv.toP, PyData.eqv]
end EW

-- part: WordsX
set_option maxHeartbeats 1000000
/-! sound texts of bounded length -/
namespace EW
open PySem
def Word (x : Str) (k : Nat) : Prop := PyData.strOk x = true ∧ x.length ≤ k
theorem strOk_iff (x : Str) : PyData.strOk x = true ↔ ∀ c ∈ x.cps.toList, c < 0x110000 := by
  unfold PyData.strOk
  rw [Array.all_eq_true']
  simp
theorem app_cps (x y : Str) : (x ++ y).cps = x.cps ++ y.cps := rfl
theorem app_len (x y : Str) : (x ++ y).length = x.length + y.length := by
  show (x.cps ++ y.cps).size = _
  rw [Array.size_append]
  rfl
theorem strOk_app {x y : Str} (hx : PyData.strOk x = true) (hy : PyData.strOk y = true) : PyData.strOk (x ++ y) = true := by
  rw [strOk_iff] at *
  intro c hc
  rw [app_cps, Array.toList_append, List.mem_append] at hc
  rcases hc with h | h
  · exact hx c h
  · exact hy c h
theorem Word.app {x y : Str} {j k : Nat} (hx : Word x j) (hy : Word y k) : Word (x ++ y) (j + k) := ⟨strOk_app hx.1 hy.1, by rw [app_len]; have := hx.2; have := hy.2; omega⟩
theorem Word.mono {x : Str} {j k : Nat} (hx : Word x j) (h : j ≤ k) : Word x k := ⟨hx.1, Nat.le_trans hx.2 h⟩
theorem Word.one {c : Nat} (h : c < 0x110000) : Word ⟨#[c]⟩ 1 := by
  refine ⟨?_, Nat.le_refl _⟩
  rw [strOk_iff]
  intro d hd
  have e : d = c := by simpa using hd
  rw [e]
  exact h
theorem Word.nil : Word (Str.ofString "") 0 := by
  constructor <;> decide +kernel
theorem Word.cut {x : Str} {k : Nat} (h : Word x k) (lo hi : Option Int) : Word ⟨(cut x.cps.toList lo hi).toArray⟩ k := by
  have sub : ∀ c ∈ EW.cut x.cps.toList lo hi, c ∈ x.cps.toList := fun c hc => List.mem_of_mem_drop (List.mem_of_mem_take hc)
  refine ⟨?_, ?_⟩
  · rw [strOk_iff]
    intro c hc
    exact (strOk_iff x).mp h.1 c (sub c (by simpa using hc))
  · show (EW.cut x.cps.toList lo hi).toArray.size ≤ k
    have h1 := h.2
    have e : x.length = x.cps.size := rfl
    unfold EW.cut
    simp
    omega
theorem atI_mem {α : Type} {xs : List α} {i : Int} {x : α} (h : L2.atI xs i = some x) : x ∈ xs := by
  unfold L2.atI at h
  cases q : L2.ixN xs.length i with
  | none =>
    rw [q] at h
    cases h
  | some j =>
    rw [q] at h
    exact List.mem_of_getElem? h
/-- a sign of a text -/
theorem Word.at {x : Str} {k : Nat} (h : Word x k) {i : Int} {c : Nat} (e : L2.atI x.cps.toList i = some c) : Word ⟨#[c]⟩ 1 := .one ((strOk_iff x).mp h.1 c (atI_mem e))
theorem str_at {x : Str} {n : Nat} (hx : x.cps.toList.length = n) {i : Int} (h0 : 0 ≤ i) (h1 : i < n) : ∃ c, L2.atI x.cps.toList i = some c := ⟨_, atI_int _ i h0 (by omega)⟩
theorem strItems_mem {x : Str} {d : D} (h : d ∈ strItems x) : ∃ c ∈ x.cps.toList, d = .str ⟨#[c]⟩ := by
  unfold strItems at h
  obtain ⟨c, hc, e⟩ := List.mem_map.mp h
  exact ⟨c, hc, e.symm⟩
end EW

-- part: K71c
set_option maxHeartbeats 4000000
namespace L71
open PySem PySem.Spec PyProof.Rows L2 EW
abbrev P : Program := PySem.Challenge.pw_endwise_k71_beyond
/-- is_whole: 0 thing -/
def c_is_whole : Fd := ⟨1, 1, 
  [.ret (.and (.isi (.v 0) ["int"]) (.not (.isi (.v 0) ["bool"])))], []⟩
/-- head: 0 term -/
def c_head : Fd := ⟨1, 1, 
  [.ife (.call "is_whole" [(.v 0)])
     [.ret (.k .non)]
     [],
  .ret (.tup [(.idx (.v 0) (.k (.int 0))), (.bin .Sub (.bi .len [(.v 0)]) (.k (.int 1)))])], []⟩
/-- count_parts: 0 term, 1 place -/
def c_count_parts : Fd := ⟨1, 2, 
  [.ife (.call "is_whole" [(.v 0)])
     [.ret (.k (.int 1))]
     [],
  .ret (.bin .Add (.k (.int 1)) (.bi .sum [(.lc (.call "count_parts" [(.v 1)]) (.v 1) (.sl (.v 0) (.k (.int 1)) .no) .no)]))], []⟩
/-- beyond: 0 one, 1 other, 2 many, 3 more, 4 mine, 5 theirs -/
def c_beyond : Fd := ⟨2, 6, 
  [.asg (.v 2) (.call "count_parts" [(.v 0)]),
  .asg (.v 3) (.call "count_parts" [(.v 1)]),
  .ife (.cmp .NotEq (.v 2) (.v 3))
     [.ret (.cmp .Gt (.v 2) (.v 3))]
     [],
  .ife (.cmp .NotEq (.call "head" [(.v 0)]) (.call "head" [(.v 1)]))
     [.ret (.cmp .Gt (.call "head" [(.v 0)]) (.call "head" [(.v 1)]))]
     [],
  .for_ (.tup [(.v 4), (.v 5)]) (.it .zip [(.sl (.v 0) (.k (.int 1)) .no), (.sl (.v 1) (.k (.int 1)) .no)])
     [.ife (.cmp .NotEq (.v 4) (.v 5))
       [.ret (.call "beyond" [(.v 4), (.v 5)])]
       []],
  .ret (.k (.bl false))], []⟩
/-- _law_cell: 0 _law_script, 1 _law_k -/
def c_law_cell : Fd := ⟨2, 2, 
  [.ife (.cmp .Lt (.v 1) (.bi .len [(.v 0)]))
     [.ret (.idx (.v 0) (.v 1))]
     [],
  .ret (.k (.int 0))], []⟩
/-- _law_mixed: 0 _law_cell_here, 1 _law_k, 2 _law_number, 3 _law_found, 4 _law_turn -/
def c_law_mixed : Fd := ⟨2, 5, 
  [.asg (.v 2) (.bin .Mod (.bin .Mult (.bin .Add (.bin .Add (.bin .Mod (.v 0) (.k (.int 2147483629))) (.bin .Mult (.k (.int 7)) (.v 1))) (.k (.int 3))) (.k (.int 48271))) (.k (.int 2147483647))),
  .asg (.v 3) (.k (.int 0)),
  .for_ (.v 4) (.it .range [(.k (.int 6))])
     [.asg (.v 2) (.bin .Mod (.bin .Add (.bin .Add (.bin .Mult (.v 2) (.k (.int 69621))) (.bin .Mult (.k (.int 11)) (.v 4))) (.k (.int 5))) (.k (.int 2147483647))),
    .asg (.v 3) (.bin .Add (.bin .Mult (.v 3) (.k (.int 2147483647))) (.v 2))],
  .ret (.v 3)], []⟩
/-- _law_names: 0 _law_cell_here, 1 _law_letters, 2 _law_size, 3 _law_at, 4 _law_names_here, 5 _law_turn, 6 _law_name, 7 _law_k, 8 _law_sign -/
def c_law_names : Fd := ⟨1, 9, 
  [.asg (.v 1) (.k (.str "abcdefghijklmnopqrstuvwxyz")),
  .asg (.v 2) (.bin .Add (.k (.int 1)) (.bin .Mod (.v 0) (.k (.int 8)))),
  .asg (.v 3) (.bin .Mod (.bin .FloorDiv (.v 0) (.k (.int 8))) (.v 2)),
  .asg (.v 4) (.lst []),
  .for_ (.v 5) (.it .range [(.k (.int 4))])
     [.asg (.v 6) (.k (.str "")),
    .for_ (.v 7) (.it .range [(.v 2)])
       [.asg (.v 8) (.bin .Add (.bin .FloorDiv (.bin .FloorDiv (.v 0) (.k (.int 64))) (.bin .Add (.bin .Mult (.v 7) (.v 7)) (.k (.int 1)))) (.bin .Mult (.k (.int 3)) (.v 7))),
      .ife (.cmp .Eq (.v 7) (.v 3))
         [.asg (.v 8) (.bin .Add (.v 8) (.v 5))]
         [],
      .asg (.v 6) (.bin .Add (.v 6) (.idx (.v 1) (.bin .Mod (.v 8) (.k (.int 26)))))],
    .ex (.meth "append" (.v 4) [(.v 6)])],
  .ife (.and (.cmp .Eq (.bin .Mod (.bin .FloorDiv (.v 0) (.k (.int 64))) (.k (.int 3))) (.k (.int 1))) (.cmp .Lt (.v 2) (.k (.int 5))))
     [.asg (.v 4) (.lc (.bin .Add (.v 6) (.sl (.v 6) .no (.v 7))) (.tup [(.v 7), (.v 6)]) (.it .enumerate [(.v 4)]) .no)]
     [],
  .ret (.v 4)], []⟩
/-- _law_term: 0 _law_number, 1 _law_names_here, 2 _law_deep, 3 _law_most, 4 _law_at, 5 _law_places, 6 _law_term_here, 7 _law_k, 8 _law_place -/
def c_law_term : Fd := ⟨4, 9, 
  [.asg (.tup [(.v 0), (.v 4)]) (.bi .divmod [(.v 0), (.bi .len [(.v 1)])]),
  .asg (.v 5) (.k (.int 0)),
  .ife (.cmp .Gt (.v 2) (.k (.int 0)))
     [.asg (.tup [(.v 0), (.v 5)]) (.bi .divmod [(.v 0), (.bin .Add (.v 3) (.k (.int 1)))])]
     [],
  .asg (.v 6) (.lst [(.idx (.v 1) (.v 4))]),
  .for_ (.v 7) (.it .range [(.v 5)])
     [.asg (.tup [(.v 0), (.v 8)]) (.call "_law_term" [(.v 0), (.v 1), (.bin .Sub (.v 2) (.k (.int 1))), (.v 3)]),
    .ex (.meth "append" (.v 6) [(.v 8)])],
  .ret (.tup [(.v 0), (.bi .tuple [(.v 6)])])], []⟩
/-- _law_key: 0 _law_term_here, 1 _law_keys, 2 _law_place, 3 _law_many, 4 _law_key_here -/
def c_law_key : Fd := ⟨1, 5, 
  [.asg (.v 1) (.lc (.call "_law_key" [(.v 2)]) (.v 2) (.sl (.v 0) (.k (.int 1)) .no) .no),
  .asg (.v 3) (.bin .Add (.k (.int 1)) (.bi .sum [(.lc (.idx (.v 4) (.k (.int 0))) (.v 4) (.v 1) .no)])),
  .ret (.bi .tuple [(.bin .Add (.lst [(.v 3), (.idx (.v 0) (.k (.int 0))), (.bi .len [(.v 1)])]) (.v 1))])], []⟩
/-- _law_turned: 0 _law_term_here, 1 _law_names_here, 2 _law_cell_here -/
def c_law_turned : Fd := ⟨3, 3, 
  [.ife (.cmp .Eq (.bin .Mod (.v 2) (.k (.int 3))) (.k (.int 0)))
     [.ret (.bin .Add (.tup [(.idx (.v 1) (.bin .Mod (.bin .FloorDiv (.v 2) (.k (.int 3))) (.bi .len [(.v 1)])))]) (.sl (.v 0) (.k (.int 1)) .no))]
     [],
  .ife (.cmp .Eq (.bin .Mod (.v 2) (.k (.int 3))) (.k (.int 1)))
     [.ret (.bin .Add (.sl (.v 0) .no (.k (.int 1))) (.trv (.sl (.v 0) (.k (.int 1)) .no)))]
     [],
  .ret (.sl (.v 0) .no (.bi .max [(.k (.int 1)), (.bin .Sub (.bi .len [(.v 0)]) (.k (.int 1)))]))], []⟩
/-- _law_asked: 0 _law_one, 1 _law_other, 2 _law_mine, 3 _law_its, 4 _law_found -/
def c_law_asked : Fd := ⟨2, 5, 
  [.asg (.v 2) (.call "_law_key" [(.v 0)]),
  .asg (.v 3) (.call "_law_key" [(.v 1)]),
  .asg (.v 4) (.lst [(.call "beyond" [(.v 0), (.v 1)]), (.call "beyond" [(.v 1), (.v 0)])]),
  .ife (.or (.not (.isi (.idx (.v 4) (.k (.int 0))) ["bool"])) (.not (.isi (.idx (.v 4) (.k (.int 1))) ["bool"])))
     [.ret (.k (.bl false))]
     [],
  .ife (.cmp .NotEq (.v 4) (.lst [(.cmp .Gt (.v 2) (.v 3)), (.cmp .Gt (.v 3) (.v 2))]))
     [.ret (.k (.bl false))]
     [],
  .ret (.or (.idx (.v 4) (.k (.int 0))) (.or (.idx (.v 4) (.k (.int 1))) (.cmp .Eq (.v 0) (.v 1))))], []⟩
/-- law: 0 _law_script, 1 _law_names_here, 2 _law_before, 3 _law_k, 4 _law_cell_here, 5 _law_term_here, 6 _law_j -/
def c_law : Fd := ⟨1, 7, 
  [.asg (.v 1) (.call "_law_names" [(.bin .Mod (.call "_law_cell" [(.v 0), (.k (.int 0))]) (.bin .Pow (.k (.int 10)) (.k (.int 20))))]),
  .asg (.v 2) (.tup [(.idx (.v 1) (.k (.int 0)))]),
  .for_ (.v 3) (.it .range [(.k (.int 1)), (.bi .min [(.k (.int 101)), (.bi .max [(.k (.int 2)), (.bi .len [(.v 0)])])])])
     [.asg (.v 4) (.bin .Mod (.call "_law_cell" [(.v 0), (.v 3)]) (.bin .Pow (.k (.int 10)) (.k (.int 20)))),
    .asg (.v 5) (.idx (.call "_law_term" [(.call "_law_mixed" [(.v 4), (.v 3)]), (.v 1), (.k (.int 3)), (.k (.int 3))]) (.k (.int 1))),
    .ife (.cmp .Eq (.bin .Mod (.v 4) (.k (.int 5))) (.k (.int 2)))
       [.for_ (.v 6) (.it .range [(.bin .Mod (.bin .FloorDiv (.v 4) (.k (.int 5))) (.k (.int 51)))])
         [.asg (.v 5) (.tup [(.idx (.v 1) (.bin .Mod (.bin .Add (.bin .FloorDiv (.v 4) (.k (.int 255))) (.bin .Mult (.v 6) (.v 6))) (.k (.int 4)))), (.v 5)])]]
       [],
    .ife (.or (.not (.call "_law_asked" [(.v 5), (.v 2)])) (.not (.call "_law_asked" [(.v 5), (.v 5)])))
       [.ret (.k (.bl false))]
       [],
    .ife (.not (.call "_law_asked" [(.v 5), (.call "_law_turned" [(.v 5), (.v 1), (.bin .FloorDiv (.v 4) (.k (.int 5)))])]))
       [.ret (.k (.bl false))]
       [],
    .asg (.v 2) (.v 5)],
  .ret (.k (.bl true))], []⟩
def r0 : EW.Row := ⟨"is_whole", c_is_whole, 1, ["thing"], ["thing"]⟩
def r1 : EW.Row := ⟨"head", c_head, 2, ["term"], ["term"]⟩
def r2 : EW.Row := ⟨"count_parts", c_count_parts, 3, ["term", "place"], ["term"]⟩
def r3 : EW.Row := ⟨"beyond", c_beyond, 5, ["one", "other", "many", "more", "mine", "theirs"], ["one", "other"]⟩
def r4 : EW.Row := ⟨"_law_cell", c_law_cell, 7, ["_law_script", "_law_k"], ["_law_script", "_law_k"]⟩
def r5 : EW.Row := ⟨"_law_mixed", c_law_mixed, 8, ["_law_cell_here", "_law_k", "_law_number", "_law_found", "_law_turn"], ["_law_cell_here", "_law_k"]⟩
def r6 : EW.Row := ⟨"_law_names", c_law_names, 9, ["_law_cell_here", "_law_letters", "_law_size", "_law_at", "_law_names_here", "_law_turn", "_law_name", "_law_k", "_law_sign"], ["_law_cell_here"]⟩
def r7 : EW.Row := ⟨"_law_term", c_law_term, 10, ["_law_number", "_law_names_here", "_law_deep", "_law_most", "_law_at", "_law_places", "_law_term_here", "_law_k", "_law_place"], ["_law_number", "_law_names_here", "_law_deep", "_law_most"]⟩
def r8 : EW.Row := ⟨"_law_key", c_law_key, 11, ["_law_term_here", "_law_keys", "_law_place", "_law_many", "_law_key_here"], ["_law_term_here"]⟩
def r9 : EW.Row := ⟨"_law_turned", c_law_turned, 12, ["_law_term_here", "_law_names_here", "_law_cell_here"], ["_law_term_here", "_law_names_here", "_law_cell_here"]⟩
def r10 : EW.Row := ⟨"_law_asked", c_law_asked, 13, ["_law_one", "_law_other", "_law_mine", "_law_its", "_law_found"], ["_law_one", "_law_other"]⟩
def r11 : EW.Row := ⟨"law", c_law, 14, ["_law_script", "_law_names_here", "_law_before", "_law_k", "_law_cell_here", "_law_term_here", "_law_j"], ["_law_script"]⟩
def rows : List EW.Row := [r0, r1, r2, r3, r4, r5, r6, r7, r8, r9, r10, r11]
theorem k0 : rowChk P rows r0 = true := by kernel_rfl
theorem b0 : BindN P r0 := fun _ _ _ _ _ _ us hl => match us, hl with | [_], _ => rfl
theorem k1 : rowChk P rows r1 = true := by kernel_rfl
theorem b1 : BindN P r1 := fun _ _ _ _ _ _ us hl => match us, hl with | [_], _ => rfl
theorem k2 : rowChk P rows r2 = true := by kernel_rfl
theorem b2 : BindN P r2 := fun _ _ _ _ _ _ us hl => match us, hl with | [_], _ => rfl
theorem k3 : rowChk P rows r3 = true := by kernel_rfl
theorem b3 : BindN P r3 := fun _ _ _ _ _ _ us hl => match us, hl with | [_, _], _ => rfl
theorem k4 : rowChk P rows r4 = true := by kernel_rfl
theorem b4 : BindN P r4 := fun _ _ _ _ _ _ us hl => match us, hl with | [_, _], _ => rfl
theorem k5 : rowChk P rows r5 = true := by kernel_rfl
theorem b5 : BindN P r5 := fun _ _ _ _ _ _ us hl => match us, hl with | [_, _], _ => rfl
theorem k6 : rowChk P rows r6 = true := by kernel_rfl
theorem b6 : BindN P r6 := fun _ _ _ _ _ _ us hl => match us, hl with | [_], _ => rfl
theorem k7 : rowChk P rows r7 = true := by kernel_rfl
theorem b7 : BindN P r7 := fun _ _ _ _ _ _ us hl => match us, hl with | [_, _, _, _], _ => rfl
theorem k8 : rowChk P rows r8 = true := by kernel_rfl
theorem b8 : BindN P r8 := fun _ _ _ _ _ _ us hl => match us, hl with | [_], _ => rfl
theorem k9 : rowChk P rows r9 = true := by kernel_rfl
theorem b9 : BindN P r9 := fun _ _ _ _ _ _ us hl => match us, hl with | [_, _, _], _ => rfl
theorem k10 : rowChk P rows r10 = true := by kernel_rfl
theorem b10 : BindN P r10 := fun _ _ _ _ _ _ us hl => match us, hl with | [_, _], _ => rfl
theorem k11 : rowChk P rows r11 = true := by kernel_rfl
theorem b11 : BindN P r11 := fun _ _ _ _ _ _ us hl => match us, hl with | [_], _ => rfl
theorem ks : ∀ r ∈ rows, rowChk P rows r = true := by
  intro r hr
  simp only [rows, List.mem_cons, List.not_mem_nil, or_false] at hr
  rcases hr with rfl | rfl | rfl | rfl | rfl | rfl | rfl | rfl | rfl | rfl | rfl | rfl
  · exact k0
  · exact k1
  · exact k2
  · exact k3
  · exact k4
  · exact k5
  · exact k6
  · exact k7
  · exact k8
  · exact k9
  · exact k10
  · exact k11
theorem bs : ∀ r ∈ rows, BindN P r := by
  intro r hr
  simp only [rows, List.mem_cons, List.not_mem_nil, or_false] at hr
  rcases hr with rfl | rfl | rfl | rfl | rfl | rfl | rfl | rfl | rfl | rfl | rfl | rfl
  · exact b0
  · exact b1
  · exact b2
  · exact b3
  · exact b4
  · exact b5
  · exact b6
  · exact b7
  · exact b8
  · exact b9
  · exact b10
  · exact b11
end L71

-- part: K71s
set_option maxHeartbeats 1000000
namespace L71
open PySem EW
abbrev T : Tab := tabOf rows
/-- ground terms -/
inductive Tm where
  | mk (f : Str) (ts : List Tm)
mutual
def Tm.d : Tm → D
  | .mk f ts => .tup (.str f :: Tm.ds ts)
def Tm.ds : List Tm → List D
  | [] => []
  | t :: ts => t.d :: Tm.ds ts
end
mutual
def Tm.size : Tm → Nat
  | .mk f ts => 1 + Tm.sizes ts
def Tm.sizes : List Tm → Nat
  | [] => 0
  | t :: ts => t.size + Tm.sizes ts
end
mutual
def Tm.dep : Tm → Nat
  | .mk f ts => 1 + Tm.deps ts
def Tm.deps : List Tm → Nat
  | [] => 0
  | t :: ts => max t.dep (Tm.deps ts)
end
theorem Tm.ds_map (ts : List Tm) : Tm.ds ts = ts.map Tm.d := by
  induction ts with
  | nil => rfl
  | cons t ts ih => simp [Tm.ds, ih]
def Tm.nm : Tm → Str
  | .mk f _ => f
def Tm.args : Tm → List Tm
  | .mk _ ts => ts
@[simp] theorem nm_mk (f : Str) (ts : List Tm) : (Tm.mk f ts).nm = f := rfl
@[simp] theorem args_mk (f : Str) (ts : List Tm) : (Tm.mk f ts).args = ts := rfl
theorem Tm.d_eq (t : Tm) : t.d = .tup (.str t.nm :: t.args.map Tm.d) := by
  obtain ⟨f, ts⟩ := t
  simp only [Tm.d, Tm.ds_map, nm_mk, args_mk]
@[simp] theorem rd_tm (st : St) (t : Tm) : rd st (.d t.d) = some (.d (.tup (.str t.nm :: t.args.map Tm.d))) := by rw [t.d_eq]; rfl
@[simp] theorem mapM_nil {α β : Type} (f : α → Option β) : ([] : List α).mapM f = some [] := rfl
theorem sp_is_whole (n : Nat) (h : List O) (t : Tm) : callN T (n + 1) "is_whole" [t.d] h = .ok (.d (.bl false)) h := by
  rw [callN_run T n h (fd := c_is_whole) rfl rfl rfl, runB_end]
  simp [c_is_whole, startS, isiE, isiW]
theorem sp_head (n : Nat) (h : List O) (t : Tm) : callN T (n + 2) "head" [t.d] h = .ok (.d (.tup [.str t.nm, .int t.args.length])) h := by
  rw [callN_run T (n + 1) h (fd := c_head) rfl rfl rfl, runB_end]
  simp [c_head, startS, sp_is_whole, mkTup, lim]
theorem sizes_map (ts : List Tm) : (Tm.sizes ts : Int) = (ts.map fun t => (t.size : Int)).sum := by
  induction ts with
  | nil => rfl
  | cons t ts ih => simp [Tm.sizes, ih]
theorem dep_lt {t : Tm} {ts : List Tm} (h : t ∈ ts) : t.dep ≤ Tm.deps ts := by
  induction ts with
  | nil => cases h
  | cons u us ih =>
    unfold Tm.deps
    rcases List.mem_cons.mp h with e | h
    · subst e
      omega
    · have := ih h
      omega
mutual
/-- sound names, no more than so many places -/
def Tm.ok : Tm → Prop
  | .mk f ts => PyData.strOk f = true ∧ ts.length ≤ 1000 ∧ Tm.oks ts
def Tm.oks : List Tm → Prop
  | [] => True
  | t :: ts => t.ok ∧ Tm.oks ts
end
theorem ok_mem {t : Tm} {ts : List Tm} (w : Tm.oks ts) (h : t ∈ ts) : t.ok := by
  induction ts with
  | nil => cases h
  | cons u us ih =>
    unfold Tm.oks at w
    rcases List.mem_cons.mp h with e | h
    · subst e
      exact w.1
    · exact ih w.2 h
theorem sp_count : ∀ (n : Nat) (t : Tm) (h : List O), t.dep < n → t.ok → callN T n "count_parts" [t.d] h = .ok (.d (.int t.size)) h
  | 0, t, h, hn, _ => by omega
  | n + 1, .mk f ts, h, hn, hw => by
    unfold Tm.dep at hn
    unfold Tm.ok at hw
    rw [callN_run T n h (fd := c_count_parts) rfl rfl rfl, runB_end]
    have hn1 : ∃ m, n = m + 1 := ⟨n - 1, by omega⟩
    obtain ⟨m, rfl⟩ := hn1
    have lc : ∀ s1 : Sl, ev (gam T (m + 1)) (.lc (.call "count_parts" [(.v 1)]) (.v 1) (.sl (.v 0) (.k (.int 1)) .no) .no) ⟨[.d (Tm.mk f ts).d, s1], h⟩ = .ok (.o (.lst (ts.map fun t => .int t.size))) ⟨[.d (Tm.mk f ts).d, s1], h⟩ := fun s1 => by
      refine ev_map (st1 := ⟨[.d (Tm.mk f ts).d, s1], h⟩) (v := .d (.tup (ts.map Tm.d))) ts Tm.d (fun t => .int t.size) (by simp) (by simp [items_d]) (by have := hw.2.1; simp only [lim]; omega) rfl fun t ht => ?_
      refine ⟨_, rfl, ?_, ?_⟩
      · have := dep_lt ht
        simp [wst, wipeS, Tg.vars, sp_count (m + 1) t h (by omega) (ok_mem hw.2.2 ht)]
      · simp [wst, wipeS, Tg.vars]
    have e : (sumD 0 (ts.map fun t => D.int t.size)) = some (Tm.sizes ts : Int) := by
      rw [sumD_map, sizes_map, Int.zero_add]
    simp [c_count_parts, startS, sp_is_whole, lc, e, Tm.size]
/-! keys -/
mutual
def Tm.key : Tm → D
  | .mk f ts => .tup (.int (1 + Tm.sizes ts : Nat) :: .str f :: .int ts.length :: Tm.keys ts)
def Tm.keys : List Tm → List D
  | [] => []
  | t :: ts => t.key :: Tm.keys ts
end
theorem keys_map (ts : List Tm) : Tm.keys ts = ts.map Tm.key := by
  induction ts with
  | nil => rfl
  | cons t ts ih => simp [Tm.keys, ih]
mutual
theorem d_pure : ∀ t : Tm, t.ok → t.d.pure = true
  | .mk f ts, h => by
    unfold Tm.ok at h
    simp [Tm.d, D.pure, D.pures, h.1, ds_pure ts h.2.2]
theorem ds_pure : ∀ ts : List Tm, Tm.oks ts → D.pures (Tm.ds ts) = true
  | [], _ => rfl
  | t :: ts, h => by
    unfold Tm.oks at h
    simp [Tm.ds, D.pures, d_pure t h.1, ds_pure ts h.2]
end
mutual
theorem key_pure : ∀ t : Tm, t.ok → t.key.pure = true
  | .mk f ts, h => by
    unfold Tm.ok at h
    simp [Tm.key, D.pure, D.pures, h.1, keys_pure ts h.2.2]
theorem keys_pure : ∀ ts : List Tm, Tm.oks ts → D.pures (Tm.keys ts) = true
  | [], _ => rfl
  | t :: ts, h => by
    unfold Tm.oks at h
    simp [Tm.keys, D.pures, key_pure t h.1, keys_pure ts h.2]
end
mutual
theorem d_depth : ∀ t : Tm, t.d.toP.depth ≤ t.dep
  | .mk f ts => by
    have := ds_depth ts
    simp [Tm.d, D.toP, D.toPs, PyData.depth, PyData.depthAll, Tm.dep]
    omega
theorem ds_depth : ∀ ts : List Tm, PyData.depthAll (D.toPs (Tm.ds ts)) ≤ Tm.deps ts
  | [] => Nat.le_refl _
  | t :: ts => by
    have h1 := d_depth t
    have h2 := ds_depth ts
    simp only [Tm.ds, D.toPs, PyData.depthAll, Tm.deps]
    omega
end
mutual
theorem key_depth : ∀ t : Tm, t.key.toP.depth ≤ t.dep
  | .mk f ts => by
    have := keys_depth ts
    simp [Tm.key, D.toP, D.toPs, PyData.depth, PyData.depthAll, Tm.dep]
    omega
theorem keys_depth : ∀ ts : List Tm, PyData.depthAll (D.toPs (Tm.keys ts)) ≤ Tm.deps ts
  | [] => Nat.le_refl _
  | t :: ts => by
    have h1 := key_depth t
    have h2 := keys_depth ts
    simp only [Tm.keys, D.toPs, PyData.depthAll, Tm.deps]
    omega
end
mutual
theorem key_alike : ∀ a b : Tm, PySem.W.alike a.key.toP b.key.toP = true
  | .mk f ts, .mk g us => by simp [Tm.key, D.toP, D.toPs, PySem.W.alike, PySem.W.alikeAll, keys_alike ts us]
theorem keys_alike : ∀ as bs : List Tm, PySem.W.alikeAll (D.toPs (Tm.keys as)) (D.toPs (Tm.keys bs)) = true
  | [], _ => by simp [Tm.keys, D.toPs, PySem.W.alikeAll]
  | _ :: _, [] => by simp [Tm.keys, D.toPs, PySem.W.alikeAll]
  | a :: as, b :: bs => by simp [Tm.keys, D.toPs, PySem.W.alikeAll, key_alike a b, keys_alike as bs]
end
mutual
theorem d_eqv : ∀ a b : Tm, PyData.eqv a.d.toP b.d.toP = true ↔ a = b
  | .mk f ts, .mk g us => by simp [Tm.d, D.toP, D.toPs, PyData.eqv, PyData.eqvAll, ds_eqv ts us]
theorem ds_eqv : ∀ as bs : List Tm, PyData.eqvAll (D.toPs (Tm.ds as)) (D.toPs (Tm.ds bs)) = true ↔ as = bs
  | [], [] => by simp [Tm.ds, D.toPs, PyData.eqvAll]
  | [], _ :: _ => by simp [Tm.ds, D.toPs, PyData.eqvAll]
  | _ :: _, [] => by simp [Tm.ds, D.toPs, PyData.eqvAll]
  | a :: as, b :: bs => by simp [Tm.ds, D.toPs, PyData.eqvAll, d_eqv a b, ds_eqv as bs]
end
mutual
theorem key_eqv : ∀ a b : Tm, PyData.eqv a.key.toP b.key.toP = true ↔ a = b
  | .mk f ts, .mk g us => by
    have z := keys_eqv ts us
    simp only [Tm.key, D.toP, D.toPs, PyData.eqv, PyData.eqvAll, Bool.and_eq_true, beq_iff_eq, z, Tm.mk.injEq]
    constructor
    · rintro ⟨_, h1, _, h2⟩
      exact ⟨h1, h2⟩
    · rintro ⟨rfl, rfl⟩
      exact ⟨rfl, rfl, rfl, rfl⟩
theorem keys_eqv : ∀ as bs : List Tm, PyData.eqvAll (D.toPs (Tm.keys as)) (D.toPs (Tm.keys bs)) = true ↔ as = bs
  | [], [] => by simp [Tm.keys, D.toPs, PyData.eqvAll]
  | [], _ :: _ => by simp [Tm.keys, D.toPs, PyData.eqvAll]
  | _ :: _, [] => by simp [Tm.keys, D.toPs, PyData.eqvAll]
  | a :: as, b :: bs => by simp [Tm.keys, D.toPs, PyData.eqvAll, key_eqv a b, keys_eqv as bs]
end
/-- b's key is less than a's -/
def klt (a b : Tm) : Bool := PySem.W.dataLt b.key.toP a.key.toP
def kls (as bs : List Tm) : Bool := PySem.W.dataLt (.tuple (D.toPs (Tm.keys bs))) (.tuple (D.toPs (Tm.keys as)))
theorem kls_cons (a b : Tm) (as bs : List Tm) : kls (a :: as) (b :: bs) = if PyData.eqv a.d.toP b.d.toP = true then kls as bs else klt a b := by
  unfold kls klt
  simp only [Tm.keys, D.toPs]
  by_cases h : PyData.eqv a.d.toP b.d.toP = true
  · rw [if_pos h]
    exact lt_yes (key_alike b a) ((key_eqv b a).mpr ((d_eqv a b).mp h).symm)
  · rw [if_neg h]
    refine lt_no (key_alike b a) ?_
    cases z : PyData.eqv b.key.toP a.key.toP with
    | false => rfl
    | true => exact (h ((d_eqv a b).mpr ((key_eqv b a).mp z).symm)).elim
theorem lt_int_str (i j : Int) (x y : Str) : (PySem.W.alike (.int i) (.int j) = true) ∧ PySem.W.alike (.str x) (.str y) = true := ⟨rfl, rfl⟩
theorem klt_eq (a b : Tm) : klt a b = if (a.size : Int) = b.size then (if PyData.eqvAll [.str a.nm, .int a.args.length] [.str b.nm, .int b.args.length] = true then kls a.args b.args else PySem.W.dataLt (.tuple [.str b.nm, .int b.args.length]) (.tuple [.str a.nm, .int a.args.length])) else decide ((b.size : Int) < a.size) := by
  obtain ⟨f, ts⟩ := a
  obtain ⟨g, us⟩ := b
  have e1 : (Tm.mk f ts).size = 1 + Tm.sizes ts := by rw [Tm.size]
  have e2 : (Tm.mk g us).size = 1 + Tm.sizes us := by rw [Tm.size]
  rw [e1, e2]
  unfold klt kls
  simp only [Tm.key, D.toP, D.toPs, nm_mk, args_mk]
  generalize ((1 + Tm.sizes ts : Nat) : Int) = m
  generalize ((1 + Tm.sizes us : Nat) : Int) = n
  change PySem.W.dataLt (.tuple (.int n :: .str g :: .int us.length :: D.toPs (Tm.keys us))) (.tuple (.int m :: .str f :: .int ts.length :: D.toPs (Tm.keys ts))) =
    if m = n then (if PyData.eqvAll [.str f, .int ts.length] [.str g, .int us.length] = true then PySem.W.dataLt (.tuple (D.toPs (Tm.keys us))) (.tuple (D.toPs (Tm.keys ts))) else PySem.W.dataLt (.tuple [.str g, .int us.length]) (.tuple [.str f, .int ts.length])) else decide (n < m)
  by_cases h1 : m = n
  · subst h1
    rw [if_pos rfl, lt_yes rfl (by simp [PyData.eqv])]
    by_cases h2 : f = g
    · subst h2
      rw [lt_yes rfl (by simp [PyData.eqv])]
      by_cases h3 : (ts.length : Int) = us.length
      · rw [if_pos (by simp [PyData.eqvAll, PyData.eqv]; exact_mod_cast h3), lt_yes rfl (by rw [h3]; simp [PyData.eqv])]
      · rw [if_neg (by simp [PyData.eqvAll, PyData.eqv]; intro z; exact h3 (by exact_mod_cast z)), lt_no rfl (by simp [PyData.eqv]; intro z; exact h3 (by exact_mod_cast z.symm)), lt_yes rfl (by simp [PyData.eqv]), lt_no rfl (by simp [PyData.eqv]; intro z; exact h3 (by exact_mod_cast z.symm))]
    · rw [if_neg (by simp [PyData.eqvAll, PyData.eqv, h2]), lt_no rfl (by simp [PyData.eqv]; exact fun z => h2 z.symm), lt_no rfl (by simp [PyData.eqv]; exact fun z => h2 z.symm)]
  · rw [if_neg h1, lt_no rfl (by simp only [PyData.eqv, beq_eq_false_iff_ne]; exact fun z => h1 z.symm), PySem.W.dataLt_int]
/-! beyond -/
theorem heads_eq (a b : Tm) (ha : a.ok) (hb : b.ok) : eqW (.d (.tup [.str a.nm, .int a.args.length])) (.d (.tup [.str b.nm, .int b.args.length])) = some (PyData.eqvAll [.str a.nm, .int a.args.length] [.str b.nm, .int b.args.length]) := by
  obtain ⟨f, ts⟩ := a
  obtain ⟨g, us⟩ := b
  unfold Tm.ok at ha hb
  exact eqW_tup (by simp [D.pures, D.pure, ha.1]) (by simp [D.pures, D.pure, hb.1]) (by simp [D.toP, D.toPs, PyData.depth, PyData.depthAll, deepest])
theorem heads_lt (a b : Tm) (ha : a.ok) (hb : b.ok) : ltW (.d (.tup [.str b.nm, .int b.args.length])) (.d (.tup [.str a.nm, .int a.args.length])) = some (PySem.W.dataLt (.tuple [.str b.nm, .int b.args.length]) (.tuple [.str a.nm, .int a.args.length])) := by
  obtain ⟨f, ts⟩ := a
  obtain ⟨g, us⟩ := b
  unfold Tm.ok at ha hb
  exact ltW_tup (by simp [D.pures, D.pure, hb.1]) (by simp [D.pures, D.pure, ha.1]) (by simp [D.toPs, D.toP, PySem.W.alikeAll, PySem.W.alike]) (by simp [D.toP, D.toPs, PyData.depth, PyData.depthAll, deepest])
theorem terms_eq (a b : Tm) (ha : a.ok) (hb : b.ok) (h : a.dep ≤ 140) : eqW (.d (.tup (.str a.nm :: a.args.map Tm.d))) (.d (.tup (.str b.nm :: b.args.map Tm.d))) = some (PyData.eqv a.d.toP b.d.toP) := by
  have e := eqW_tup (xs := .str a.nm :: a.args.map Tm.d) (ys := .str b.nm :: b.args.map Tm.d) (by have z := d_pure a ha; rw [a.d_eq] at z; simpa [D.pure] using z) (by have z := d_pure b hb; rw [b.d_eq] at z; simpa [D.pure] using z)
    (by have z := d_depth a; rw [a.d_eq] at z; exact Nat.le_trans z (Nat.le_trans h (by decide)))
  rw [e, a.d_eq, b.d_eq]
  simp only [D.toP, PyData.eqv]
def bBody : List S := [.ife (.cmp .NotEq (.v 4) (.v 5))
       [.ret (.call "beyond" [(.v 4), (.v 5)])]
       []]
theorem oks_cons {a : Tm} {as : List Tm} (h : Tm.oks (a :: as)) : a.ok ∧ Tm.oks as := by unfold Tm.oks at h; exact h
open Classical in
theorem beyond_loop {m : Nat} {h : List O} {stay : EW.St → Prop} (hst : ∀ s, stay s) (sa sb sc sd : Sl) (ih : ∀ (a b : Tm), a.dep + 3 ≤ m → b.dep + 3 ≤ m → a.dep ≤ 140 → a.ok → b.ok → callN T m "beyond" [a.d, b.d] h = .ok (.d (.bl (klt a b))) h) :
    ∀ (as bs : List Tm) (s4 s5 : Sl), as.length = bs.length → (∀ a ∈ as, a.dep + 3 ≤ m ∧ a.dep ≤ 140 ∧ a.ok) → (∀ b ∈ bs, b.dep + 3 ≤ m ∧ b.ok) →
      ∃ s4' s5' : Sl, foL stay (.tup [(.v 4), (.v 5)]) (exs (gam T m) bBody) (List.zipWith (fun x y => .tup [x, y]) (as.map Tm.d) (bs.map Tm.d)) ⟨[sa, sb, sc, sd, s4, s5], h⟩ =
        if as = bs then Out.ok Fl.nx ⟨[sa, sb, sc, sd, s4', s5'], h⟩ else Out.ok (Fl.rt (EV.d (D.bl (kls as bs)))) ⟨[sa, sb, sc, sd, s4', s5'], h⟩
  | [], [], s4, s5, _, _, _ => ⟨s4, s5, by simp [foL_nil (hst _)]⟩
  | [], _ :: _, s4, s5, hl, _, _ => by simp at hl
  | _ :: _, [], s4, s5, hl, _, _ => by simp at hl
  | a :: as, b :: bs, s4, s5, hl, h1, h2 => by
    obtain ⟨a1, a2, a3⟩ := h1 a (by simp)
    obtain ⟨b1, b2⟩ := h2 b (by simp)
    obtain ⟨s4', s5', z⟩ := beyond_loop hst sa sb sc sd ih as bs (.d a.d) (.d b.d) (by simpa using hl) (fun x hx => h1 x (by simp [hx])) (fun x hx => h2 x (by simp [hx]))
    have hb : bindD (.tup [(.v 4), (.v 5)]) (.tup [a.d, b.d]) ⟨[sa, sb, sc, sd, s4, s5], h⟩ = some ⟨[sa, sb, sc, sd, .d a.d, .d b.d], h⟩ := rfl
    rw [List.map_cons, List.map_cons, List.zipWith_cons_cons, foL_cons (hst _) hb]
    have te := terms_eq a b a3 b2 a2
    by_cases e : a = b
    · have e' : PyData.eqv a.d.toP b.d.toP = true := (d_eqv a b).mpr e
      refine ⟨s4', s5', ?_⟩
      have hbody : exs (gam T m) bBody ⟨[sa, sb, sc, sd, .d a.d, .d b.d], h⟩ = .ok .nx ⟨[sa, sb, sc, sd, .d a.d, .d b.d], h⟩ := by simp [bBody, te, e']
      rw [kls_cons, if_pos e', hbody]
      simp only [Out.bind_ok]
      rw [z]
      subst e
      by_cases e3 : as = bs
      · rw [if_pos e3, if_pos (by rw [e3])]
      · rw [if_neg e3, if_neg (by simp [e3])]
    · have e' : PyData.eqv a.d.toP b.d.toP = false := by
        cases q : PyData.eqv a.d.toP b.d.toP with
        | false => rfl
        | true => exact (e ((d_eqv a b).mp q)).elim
      refine ⟨.d a.d, .d b.d, ?_⟩
      have hbody : exs (gam T m) bBody ⟨[sa, sb, sc, sd, .d a.d, .d b.d], h⟩ = .ok (.rt (.d (.bl (klt a b)))) ⟨[sa, sb, sc, sd, .d a.d, .d b.d], h⟩ := by simp [bBody, te, e', ih a b a1 b1 a2 a3 b2]
      rw [kls_cons, if_neg (show ¬ (PyData.eqv a.d.toP b.d.toP = true) from by rw [e']; decide), hbody, if_neg (show ¬ (a :: as = b :: bs) from fun z => e (by injection z))]
      rfl
theorem kls_self : ∀ as : List Tm, kls as as = false
  | [] => lt_nil
  | a :: as => by rw [kls_cons, if_pos ((d_eqv a a).mpr rfl), kls_self as]
theorem head_args {a b : Tm} (h : PyData.eqvAll [.str a.nm, .int a.args.length] [.str b.nm, .int b.args.length] = true) : a.args.length = b.args.length := by
  simp [PyData.eqvAll, PyData.eqv] at h
  have := h.2
  omega
theorem dep_args {a x : Tm} (h : x ∈ a.args) : x.dep + 1 ≤ a.dep := by
  obtain ⟨f, ts⟩ := a
  have := dep_lt (show x ∈ ts from h)
  have e : (Tm.mk f ts).dep = 1 + Tm.deps ts := by rw [Tm.dep]
  omega
theorem ok_args {a x : Tm} (k : a.ok) (h : x ∈ a.args) : x.ok := by
  obtain ⟨f, ts⟩ := a
  unfold Tm.ok at k
  exact ok_mem k.2.2 h
theorem sp_beyond : ∀ (n : Nat) (a b : Tm) (h : List O), a.dep + 3 ≤ n → b.dep + 3 ≤ n → a.dep ≤ 140 → a.ok → b.ok → callN T n "beyond" [a.d, b.d] h = .ok (.d (.bl (klt a b))) h := by
  intro n
  induction n with
  | zero => intro a b h h1; omega
  | succ n ih =>
    intro a b h h1 h2 h3 ha hb
    have hn1 : ∃ m, n = m + 2 := ⟨n - 2, by omega⟩
    obtain ⟨m, rfl⟩ := hn1
    rw [callN_run T (m + 2) h (fd := c_beyond) rfl rfl rfl, runB_end, klt_eq]
    have ca := sp_count (m + 2) a h (by omega) ha
    have cb := sp_count (m + 2) b h (by omega) hb
    by_cases e1 : (a.size : Int) = b.size
    · rw [if_pos e1]
      have e1' : a.size = b.size := by exact_mod_cast e1
      cases e2 : PyData.eqvAll [.str a.nm, .int a.args.length] [.str b.nm, .int b.args.length] with
      | false => simp [c_beyond, startS, ca, cb, sp_head, heads_eq a b ha hb, heads_lt a b ha hb, e1', e2]
      | true =>
        rw [if_pos rfl]
        have hl := head_args e2
        obtain ⟨s4', s5', z⟩ := beyond_loop (m := m + 2) (h := h) (stay := fun s => items s (.it .zip [.d (.tup (a.args.map Tm.d)), .d (.tup (b.args.map Tm.d))]) = some (List.zipWith (fun x y => .tup [x, y]) (a.args.map Tm.d) (b.args.map Tm.d)))
          (fun s => by simp [items, Wv.isTup]) (.d a.d) (.d b.d) (.d (.int b.size)) (.d (.int b.size)) (fun a b => ih a b h) a.args b.args .un .un hl
          (fun x hx => by have := dep_args hx; exact ⟨by omega, by omega, ok_args ha hx⟩) (fun x hx => by have := dep_args hx; exact ⟨by omega, ok_args hb hx⟩)
        have hf := ex_for (G := gam T (m + 2)) (tg := .tup [(.v 4), (.v 5)]) (src := .it .zip [(.sl (.v 0) (.k (.int 1)) .no), (.sl (.v 1) (.k (.int 1)) .no)]) (b := bBody) (st := ⟨[.d a.d, .d b.d, .d (.int b.size), .d (.int b.size), .un, .un], h⟩) (st1 := ⟨[.d a.d, .d b.d, .d (.int b.size), .d (.int b.size), .un, .un], h⟩)
          (v := .it .zip [.d (.tup (a.args.map Tm.d)), .d (.tup (b.args.map Tm.d))]) (xs := List.zipWith (fun x y => .tup [x, y]) (a.args.map Tm.d) (b.args.map Tm.d)) (by simp) (by simp [items, Wv.isTup]) rfl
        rw [z] at hf
        unfold bBody at hf
        by_cases e3 : a.args = b.args
        · rw [if_pos e3] at hf
          simp [c_beyond, startS, ca, cb, sp_head, heads_eq a b ha hb, heads_lt a b ha hb, e1', e2, hf]
          rw [e3, kls_self]
        · rw [if_neg e3] at hf
          simp [c_beyond, startS, ca, cb, sp_head, heads_eq a b ha hb, heads_lt a b ha hb, e1', e2, hf]
    · rw [if_neg e1]
      have e1' : ¬ a.size = b.size := fun z => e1 (by exact_mod_cast z)
      simp [c_beyond, startS, ca, cb, e1, e1']
/-! the law's key -/
theorem sp_key : ∀ (n : Nat) (t : Tm) (h : List O), t.dep < n → t.ok → callN T n "_law_key" [t.d] h = .ok (.d t.key) h
  | 0, t, h, hn, _ => by omega
  | n + 1, .mk f ts, h, hn, hw => by
    unfold Tm.dep at hn
    unfold Tm.ok at hw
    rw [callN_run T n h (fd := c_law_key) rfl rfl rfl, runB_end]
    have lc : ∀ s1 s2 s3 s4 : Sl, ev (gam T n) (.lc (.call "_law_key" [(.v 2)]) (.v 2) (.sl (.v 0) (.k (.int 1)) .no) .no) ⟨[.d (Tm.mk f ts).d, s1, s2, s3, s4], h⟩ = .ok (.o (.lst (ts.map Tm.key))) ⟨[.d (Tm.mk f ts).d, s1, s2, s3, s4], h⟩ := fun s1 s2 s3 s4 => by
      refine ev_map (st1 := ⟨[.d (Tm.mk f ts).d, s1, s2, s3, s4], h⟩) (v := .d (.tup (ts.map Tm.d))) ts Tm.d Tm.key (by simp) (by simp [items_d]) (by have := hw.2.1; simp only [lim]; omega) rfl fun t ht => ?_
      refine ⟨_, rfl, ?_, ?_⟩
      · have := dep_lt ht
        simp [wst, wipeS, Tg.vars, sp_key n t h (by omega) (ok_mem hw.2.2 ht)]
      · simp [wst, wipeS, Tg.vars]
    have lc2 : ∀ s2 s3 s4 : Sl, ev (gam T n) (.lc (.idx (.v 4) (.k (.int 0))) (.v 4) (.v 1) .no) ⟨[.d (Tm.mk f ts).d, .o (.lst (ts.map Tm.key)), s2, s3, s4], h⟩ = .ok (.o (.lst (ts.map fun t => .int t.size))) ⟨[.d (Tm.mk f ts).d, .o (.lst (ts.map Tm.key)), s2, s3, s4], h⟩ := fun s2 s3 s4 => by
      refine ev_map (st1 := ⟨[.d (Tm.mk f ts).d, .o (.lst (ts.map Tm.key)), s2, s3, s4], h⟩) (v := .pl 1) ts Tm.key (fun t => .int t.size) (by simp) (by simp [items]) (by have := hw.2.1; simp only [lim]; omega) rfl fun t ht => ?_
      refine ⟨_, rfl, ?_, ?_⟩
      · obtain ⟨g, us⟩ := t
        simp [wst, wipeS, Tg.vars, Tm.key, Tm.size]
      · simp [wst, wipeS, Tg.vars]
    have e : (sumD 0 (ts.map fun t => D.int t.size)) = some (Tm.sizes ts : Int) := by
      rw [sumD_map, sizes_map, Int.zero_add]
    have hl : 3 + ts.length ≤ 1000000 := by
      have := hw.2.1
      omega
    simp [c_law_key, startS, lc, lc2, e, mkLst, lim, Tm.key, keys_map, hl]
/-! what is asked -/
theorem keys_lt (a b : Tm) (ha : a.ok) (hb : b.ok) (h : b.dep ≤ 140) (st : EW.St) : two (cmpE .Gt) (rd st (.d a.key)) (rd st (.d b.key)) = some (.d (.bl (klt a b))) := by
  obtain ⟨f, ts⟩ := a
  obtain ⟨g, us⟩ := b
  have pa := key_pure _ ha
  have pb := key_pure _ hb
  have al := key_alike (.mk g us) (.mk f ts)
  have dp := Nat.le_trans (key_depth (.mk g us)) h
  unfold klt
  unfold Tm.key at *
  have z := ltW_tup (xs := .int (1 + Tm.sizes us : Nat) :: .str g :: .int us.length :: Tm.keys us) (ys := .int (1 + Tm.sizes ts : Nat) :: .str f :: .int ts.length :: Tm.keys ts) (by simpa [D.pure] using pb) (by simpa [D.pure] using pa) (by simpa only [D.toP, PySem.W.alike] using al) (Nat.le_trans dp (by decide))
  simp only [rd_tup, two_some, cmp_gt, z, Option.map_some, D.toP]
theorem sp_asked (n : Nat) (a b : Tm) (h : List O) (h1 : a.dep + 4 ≤ n) (h2 : b.dep + 4 ≤ n) (h3 : a.dep ≤ 140) (h4 : b.dep ≤ 140) (ha : a.ok) (hb : b.ok) : callN T n "_law_asked" [a.d, b.d] h = .ok (.d (.bl true)) h := by
  have hn1 : ∃ m, n = m + 1 := ⟨n - 1, by omega⟩
  obtain ⟨m, rfl⟩ := hn1
  rw [callN_run T m h (fd := c_law_asked) rfl rfl rfl, runB_end]
  have ka := sp_key m a h (by omega) ha
  have kb := sp_key m b h (by omega) hb
  have b1 := sp_beyond m a b h (by omega) (by omega) h3 ha hb
  have b2 := sp_beyond m b a h (by omega) (by omega) h4 hb ha
  have te := terms_eq a b ha hb h3
  have l1 := fun st => keys_lt a b ha hb h4 st
  have l2 := fun st => keys_lt b a hb ha h3 st
  have tot : klt a b = false → klt b a = false → PyData.eqv a.d.toP b.d.toP = true := fun e1 e2 => by
    have z := lt_tot (key_alike a b) e2 e1
    exact (d_eqv a b).mpr ((key_eqv a b).mp z)
  have el : ∀ p q : Bool, eqW (.o (.lst [.bl p, .bl q])) (.o (.lst [.bl p, .bl q])) = some true := fun p q => by
    rw [eqW_lst (by simp [D.pures, D.pure]) (by simp [D.pures, D.pure]) (by simp [D.toP, D.toPs, PyData.depth, PyData.depthAll, deepest])]
    simp [D.toPs, D.toP, PyData.eqvAll, PyData.eqv]
  simp [c_law_asked, startS, ka, kb, b1, b2, mkLst, lim, isiE, isiW, l1, l2, el, brn_some]
  cases q1 : klt a b with
  | true => simp
  | false =>
    cases q2 : klt b a with
    | true => simp
    | false => simp [te, tot q1 q2]
/-! terms turned -/
def dNames (ns : List Str) : List D := ns.map D.str
theorem mk_ok {f : Str} {ts : List Tm} (h1 : PyData.strOk f = true) (h2 : ts.length ≤ 1000) (h3 : ∀ t ∈ ts, t.ok) : (Tm.mk f ts).ok := by
  have key : ∀ us : List Tm, (∀ t ∈ us, t.ok) → Tm.oks us := fun us => by
    induction us with
    | nil => intro _; trivial
    | cons u us ih => intro h; exact ⟨h u (by simp), ih fun t ht => h t (by simp [ht])⟩
  exact ⟨h1, h2, key ts h3⟩
theorem mk_dep {f : Str} {ts : List Tm} {k : Nat} (h : ∀ t ∈ ts, t.dep ≤ k) : (Tm.mk f ts).dep ≤ k + 1 := by
  have key : ∀ us : List Tm, (∀ t ∈ us, t.dep ≤ k) → Tm.deps us ≤ k := fun us => by
    induction us with
    | nil => intro _; exact Nat.zero_le _
    | cons u us ih =>
      intro h
      have h1 := h u (by simp)
      have h2 := ih fun t ht => h t (by simp [ht])
      unfold Tm.deps
      omega
  have := key ts h
  have e : (Tm.mk f ts).dep = 1 + Tm.deps ts := by rw [Tm.dep]
  omega
theorem ok_nm {t : Tm} (h : t.ok) : PyData.strOk t.nm = true := by
  obtain ⟨f, ts⟩ := t
  exact h.1
theorem ok_len {t : Tm} (h : t.ok) : t.args.length ≤ 1000 := by
  obtain ⟨f, ts⟩ := t
  exact h.2.1
theorem sp_turned (n : Nat) (t : Tm) (a : Nat) (ns : List Str) (c : Int) (h : List O) (hr : h[a]? = some (.lst (dNames ns))) (hl : ns.length = 4) (hc : 0 ≤ c) (hk : t.ok) (hns : ∀ x ∈ ns, PyData.strOk x = true) :
    ∃ u : Tm, callN T (n + 1) "_law_turned" [t.d, .ref a, .int c] h = .ok (.d u.d) h ∧ u.ok ∧ u.dep ≤ t.dep := by
  obtain ⟨f, ts⟩ := t
  have hk2 := hk.2.1
  by_cases c0 : c % 3 = 0
  · have hi : (c / 3 % 4).toNat < ns.length := by omega
    refine ⟨.mk ns[(c / 3 % 4).toNat] ts, ?_, mk_ok (hns _ (List.getElem_mem hi)) hk.2.1 (fun u hu => ok_args hk hu), ?_⟩
    · rw [callN_run T n h (fd := c_law_turned) rfl rfl rfl, runB_end]
      have at' : L2.atI (dNames ns) (c / 3 % 4) = some (.str ns[(c / 3 % 4).toNat]) := by
        rw [atI_int _ _ (by omega) (by simp [dNames]; omega)]
        simp [dNames]
      have hll : (dNames ns).length = 4 := by simp [dNames, hl]
      have hl4 : 1 + ts.length ≤ 1000000 := by omega
      simp [c_law_turned, startS, c0, hr, at', hll, mkTup, lim, hl4, Tm.d, Tm.ds_map]
    · have e : ∀ g, (Tm.mk g ts).dep = 1 + Tm.deps ts := fun g => by rw [Tm.dep]
      rw [e, e]
      exact Nat.le_refl _
  · by_cases c1 : c % 3 = 1
    · refine ⟨.mk f ts.reverse, ?_, mk_ok hk.1 (by simpa using hk2) (fun u hu => ok_args hk (by simpa using hu)), ?_⟩
      · rw [callN_run T n h (fd := c_law_turned) rfl rfl rfl, runB_end]
        have hl4 : 1 + ts.length ≤ 1000000 := by omega
        simp [c_law_turned, startS, c0, c1, lim, hl4, Tm.d, Tm.ds_map]
      · have h1 := mk_dep (f := f) (ts := ts.reverse) (k := Tm.deps ts) fun u hu => dep_lt (by simpa using hu)
        have e : (Tm.mk f ts).dep = 1 + Tm.deps ts := by rw [Tm.dep]
        omega
    · refine ⟨.mk f (ts.take (ts.length - 1)), ?_, mk_ok hk.1 (by simp; omega) (fun u hu => ok_args hk (List.mem_of_mem_take hu)), ?_⟩
      · rw [callN_run T n h (fd := c_law_turned) rfl rfl rfl, runB_end]
        have e : (if (1 : Int) < (ts.length : Int) then (ts.length : Int) else 1) = ((max 1 ts.length : Nat) : Int) := by
          split <;> omega
        have e2 : (D.str f :: ts.map Tm.d).take (max 1 ts.length) = D.str f :: (ts.take (ts.length - 1)).map Tm.d := by
          have : max 1 ts.length = (ts.length - 1) + 1 := by omega
          rw [this, List.take_succ_cons, List.map_take]
        simp [c_law_turned, startS, c0, c1, e, cut_take, e2, Tm.d, Tm.ds_map]
      · have h1 := mk_dep (f := f) (ts := ts.take (ts.length - 1)) (k := Tm.deps ts) fun u hu => dep_lt (List.mem_of_mem_take hu)
        have e : (Tm.mk f ts).dep = 1 + Tm.deps ts := by rw [Tm.dep]
        omega
/-! the script's numbers -/
theorem sp_cell (n : Nat) (ns : List Int) (k : Nat) (h : List O) : ∃ z : Int, callN T (n + 1) "_law_cell" [.fz (ns.map D.int), .int k] h = .ok (.d (.int z)) h := by
  by_cases hk : k < ns.length
  · refine ⟨ns[k], ?_⟩
    rw [callN_run T n h (fd := c_law_cell) rfl rfl rfl, runB_end]
    have e : L2.atI (ns.map D.int) (k : Int) = some (.int ns[k]) := by
      rw [atI_nat _ _ (by simpa using hk)]
      simp
    have hk' : (k : Int) < (ns.length : Int) := by omega
    simp [c_law_cell, startS, hk, hk', e]
  · refine ⟨0, ?_⟩
    rw [callN_run T n h (fd := c_law_cell) rfl rfl rfl, runB_end]
    have hk' : ¬ (k : Int) < (ns.length : Int) := by omega
    simp [c_law_cell, startS, hk, hk']
theorem sp_mixed (n : Nat) (c : Int) (k : Nat) (h : List O) (h0 : 0 ≤ c) (hk : k ≤ 1000) : ∃ z : Int, 0 ≤ z ∧ z < 2 ^ 200 ∧ callN T (n + 1) "_law_mixed" [.int c, .int k] h = .ok (.d (.int z)) h := by
  have hm : 0 ≤ c % 2147483629 ∧ c % 2147483629 < 2147483629 := by omega
  have s1 : sm (c % 2147483629 + 7 * (k : Int) + 3) := sm_of (by omega) (by omega)
  have s2 : sm (k : Int) := sm_of (by omega) (by omega)
  have l7 : sm 7 := by decide
  have l48 : sm 48271 := by decide
  have l69 : sm 69621 := by decide
  have l11 : sm 11 := by decide
  have l21 : sm 2147483647 := by decide
  have lp := foL_inv (stay := fun s => items s (.it .range [.d (.int 6)]) = some (rangeD 0 6)) (tg := .v 4) (xs := rangeD 0 6)
    (b := exs (gam T n) [.asg (.v 2) (.bin .Mod (.bin .Add (.bin .Add (.bin .Mult (.v 2) (.k (.int 69621))) (.bin .Mult (.k (.int 11)) (.v 4))) (.k (.int 5))) (.k (.int 2147483647))),
      .asg (.v 3) (.bin .Add (.bin .Mult (.v 3) (.k (.int 2147483647))) (.v 2))])
    (fun i s => ∃ (a f : Int) (s4 : Sl), s = ⟨[.d (.int c), .d (.int k), .d (.int a), .d (.int f), s4], h⟩ ∧ 0 ≤ a ∧ a < 2147483647 ∧ 0 ≤ f ∧ f < ((2147483648 ^ i : Nat) : Int))
    (fun i s _ _ => by simp [items, lim]) (fun i x s hx hI => by
      obtain ⟨a, f, s4, rfl, a0, a1, f0, f1⟩ := hI
      have hi : i < 6 := by
        have := (List.getElem?_eq_some_iff.mp hx).1
        rw [rangeD_length] at this
        exact this
      rw [rangeD_get 6 0 i hi, Int.zero_add] at hx
      cases hx
      have fb : 2147483648 ^ i ≤ 2147483648 ^ 5 := Nat.pow_le_pow_right (by decide) (by omega)
      have sa : sm a := sm_of a0 (by omega)
      have sf : sm f := sm_of f0 (by omega)
      have si : sm (i : Int) := sm_of (by omega) (by omega)
      have hp : 2147483648 ^ (i + 1) = 2147483648 ^ i * 2147483648 := Nat.pow_succ _ _
      refine ⟨_, ⟨[.d (.int c), .d (.int k), .d (.int ((a * 69621 + 11 * i + 5) % 2147483647)), .d (.int (f * 2147483647 + (a * 69621 + 11 * i + 5) % 2147483647)), .d (.int i)], h⟩, rfl, .inl ?_, _, _, _, rfl, by omega, by omega, by omega, by omega⟩
      simp [sa, sf, si, l69, l11, l21])
    (st := ⟨[.d (.int c), .d (.int k), .d (.int ((c % 2147483629 + 7 * k + 3) * 48271 % 2147483647)), .d (.int 0), .un], h⟩) ⟨_, _, _, rfl, by omega, by omega, by omega, by decide⟩
  obtain ⟨s', e1, a, f, s4, rfl, a0, a1, f0, f1⟩ := lp
  rw [rangeD_length] at f1
  refine ⟨f, f0, by omega, ?_⟩
  have e2 := ex_for (G := gam T n) (tg := .v 4) (src := .it .range [(.k (.int 6))]) (st := ⟨[.d (.int c), .d (.int k), .d (.int ((c % 2147483629 + 7 * k + 3) * 48271 % 2147483647)), .d (.int 0), .un], h⟩) (st1 := ⟨[.d (.int c), .d (.int k), .d (.int ((c % 2147483629 + 7 * k + 3) * 48271 % 2147483647)), .d (.int 0), .un], h⟩)
    (v := .it .range [.d (.int 6)]) (xs := rangeD 0 6) (by simp) (by simp [items, lim]) rfl |>.trans e1
  rw [callN_run T n h (fd := c_law_mixed) rfl rfl rfl, runB_end]
  simp [c_law_mixed, startS, s1, s2, l7, l48, e2]
/-! the drawn terms -/
theorem sp_term (a : Nat) (ns : List Str) (h : List O) (hr : h[a]? = some (.lst (dNames ns))) (hl : ns.length = 4) (hns : ∀ x ∈ ns, PyData.strOk x = true) :
    ∀ (deep n : Nat) (num : Int), 0 ≤ num → num < 2 ^ 200 → deep ≤ 10 → ∃ (num' : Int) (t : Tm), callN T (n + deep + 1) "_law_term" [.int num, .ref a, .int deep, .int 3] h = .ok (.d (.tup [.int num', t.d])) h ∧ 0 ≤ num' ∧ num' < 2 ^ 200 ∧ t.ok ∧ t.dep ≤ deep + 1 := by
  intro deep
  have hll : (dNames ns).length = 4 := by simp [dNames, hl]
  have atN : ∀ i : Int, 0 ≤ i → i < 4 → ∃ x, x ∈ ns ∧ L2.atI (dNames ns) i = some (.str x) := fun i h0 h1 => by
    refine ⟨ns[i.toNat]'(by omega), List.getElem_mem _, ?_⟩
    rw [atI_int _ _ h0 (by omega)]
    simp [dNames]
  induction deep with
  | zero =>
    intro n num h0 h1 _
    have sn : sm num := sm_of h0 (by omega)
    obtain ⟨x, hx, e⟩ := atN (num % 4) (by omega) (by omega)
    refine ⟨num / 4, .mk x [], ?_, by omega, by omega, mk_ok (hns x hx) (by simp) (fun t ht => by simp at ht), mk_dep (k := 0) fun t ht => by simp at ht⟩
    rw [Nat.add_zero, callN_run T n h (fd := c_law_term) rfl rfl rfl, runB_end]
    have e2 := ex_for (G := gam T n) (tg := .v 7) (src := .it .range [(.v 5)]) (b := [.asg (.tup [(.v 0), (.v 8)]) (.call "_law_term" [(.v 0), (.v 1), (.bin .Sub (.v 2) (.k (.int 1))), (.v 3)]),
      .ex (.meth "append" (.v 6) [(.v 8)])]) (st := ⟨[.d (.int (num / 4)), .d (.ref a), .d (.int 0), .d (.int 3), .d (.int (num % 4)), .d (.int 0), .o (.lst [.str x]), .un, .un], h⟩) (st1 := ⟨[.d (.int (num / 4)), .d (.ref a), .d (.int 0), .d (.int 3), .d (.int (num % 4)), .d (.int 0), .o (.lst [.str x]), .un, .un], h⟩) (v := .it .range [.d (.int 0)]) (xs := []) (by simp) (by simp [items, lim, rangeD]) rfl
    rw [foL_nil (by simp [items, lim, rangeD])] at e2
    simp [c_law_term, startS, hr, hll, bits_ok sn, e, mkLst, lim, e2, mkTup, Tm.d, Tm.ds]
  | succ deep ih =>
    intro n num h0 h1 hd
    have sn : sm num := sm_of h0 (by omega)
    have sn2 : sm (num / 4) := sm_of (by omega) (by omega)
    obtain ⟨x, hx, e⟩ := atN (num % 4) (by omega) (by omega)
    obtain ⟨p, hp, hp4⟩ : ∃ p : Nat, num / 4 % 4 = (p : Int) ∧ p < 4 := ⟨(num / 4 % 4).toNat, by omega, by omega⟩
    have e0 : n + (deep + 1) + 1 = (n + deep + 1) + 1 := by omega
    have lp := foL_inv (stay := fun s => items s (.it .range [.d (.int p)]) = some (rangeD 0 p)) (tg := .v 7) (xs := rangeD 0 p)
      (b := exs (gam T (n + deep + 1)) [.asg (.tup [(.v 0), (.v 8)]) (.call "_law_term" [(.v 0), (.v 1), (.bin .Sub (.v 2) (.k (.int 1))), (.v 3)]),
        .ex (.meth "append" (.v 6) [(.v 8)])])
      (fun i s => ∃ (m : Int) (ts : List Tm) (s7 s8 : Sl), s = ⟨[.d (.int m), .d (.ref a), .d (.int ((deep : Int) + 1)), .d (.int 3), .d (.int (num % 4)), .d (.int p), .o (.lst (.str x :: ts.map Tm.d)), s7, s8], h⟩ ∧ 0 ≤ m ∧ m < 2 ^ 200 ∧ ts.length = i ∧ ∀ t ∈ ts, t.ok ∧ t.dep ≤ deep + 1)
      (fun i s _ _ => by
        have : (p : Int) ≤ 1000000 ∧ -1000000 ≤ (p : Int) := by omega
        simp [items, lim, this]) (fun i y s hy hI => by
        obtain ⟨m, ts, s7, s8, rfl, m0, m1, hts, hok⟩ := hI
        have hi : i < p := by
          have := (List.getElem?_eq_some_iff.mp hy).1
          rw [rangeD_length] at this
          exact this
        rw [rangeD_get p 0 i hi, Int.zero_add] at hy
        cases hy
        obtain ⟨m', t, e1, b0, b1, b2, b3⟩ := ih n m m0 m1 (by omega)
        have ed : (deep : Int) + 1 - 1 = (deep : Int) := by omega
        have hl3 : ts.length + 1 < 1000000 := by omega
        refine ⟨_, ⟨[.d (.int m'), .d (.ref a), .d (.int ((deep : Int) + 1)), .d (.int 3), .d (.int (num % 4)), .d (.int p), .o (.lst (.str x :: (ts ++ [t]).map Tm.d)), .d (.int i), .d t.d], h⟩, rfl, .inl ?_, m', ts ++ [t], _, _, rfl, b0, b1, by simp [hts], fun u hu => ?_⟩
        · simp [ed, e1, lim, hl3]
        · rcases List.mem_append.mp hu with z | z
          · exact hok u z
          · have z' : u = t := by simpa using z
            subst z'
            exact ⟨b2, b3⟩)
      (st := ⟨[.d (.int (num / 4 / 4)), .d (.ref a), .d (.int ((deep : Int) + 1)), .d (.int 3), .d (.int (num % 4)), .d (.int p), .o (.lst [.str x]), .un, .un], h⟩) ⟨_, [], _, _, rfl, by omega, by omega, rfl, fun t ht => by simp at ht⟩
    obtain ⟨s', e1, m, ts, s7, s8, rfl, m0, m1, hts, hok⟩ := lp
    rw [rangeD_length] at hts
    have hpl : (p : Int) ≤ 1000000 ∧ -1000000 ≤ (p : Int) := by omega
    have e2 := (ex_for (G := gam T (n + deep + 1)) (tg := .v 7) (src := .it .range [(.v 5)]) (st := ⟨[.d (.int (num / 4 / 4)), .d (.ref a), .d (.int ((deep : Int) + 1)), .d (.int 3), .d (.int (num % 4)), .d (.int p), .o (.lst [.str x]), .un, .un], h⟩) (st1 := ⟨[.d (.int (num / 4 / 4)), .d (.ref a), .d (.int ((deep : Int) + 1)), .d (.int 3), .d (.int (num % 4)), .d (.int p), .o (.lst [.str x]), .un, .un], h⟩) (v := .it .range [.d (.int p)]) (xs := rangeD 0 p) (by simp) (by simp [items, lim, hpl]) rfl).trans e1
    refine ⟨m, .mk x ts, ?_, m0, m1, mk_ok (hns x hx) (by omega) (fun t ht => (hok t ht).1), mk_dep fun t ht => (hok t ht).2⟩
    rw [e0, callN_run T (n + deep + 1) h (fd := c_law_term) rfl rfl rfl, runB_end]
    have hd0 : (0 : Int) < (deep : Int) + 1 := by omega
    have hl5 : ts.length + 1 ≤ 1000000 := by omega
    simp [c_law_term, startS, hr, hll, bits_ok sn, bits_ok sn2, e, mkLst, lim, hp, hd0, e2, mkTup, Tm.d, Tm.ds_map]
/-! the names -/
abbrev letters : Str := Str.ofString "abcdefghijklmnopqrstuvwxyz"
theorem letters_word : Word letters 26 := by constructor <;> decide +kernel
theorem letters_len : letters.cps.toList.length = 26 := by decide +kernel
def nBody : List S := [.asg (.v 8) (.bin .Add (.bin .FloorDiv (.bin .FloorDiv (.v 0) (.k (.int 64))) (.bin .Add (.bin .Mult (.v 7) (.v 7)) (.k (.int 1)))) (.bin .Mult (.k (.int 3)) (.v 7))),
      .ife (.cmp .Eq (.v 7) (.v 3))
         [.asg (.v 8) (.bin .Add (.v 8) (.v 5))]
         [],
      .asg (.v 6) (.bin .Add (.v 6) (.idx (.v 1) (.bin .Mod (.v 8) (.k (.int 26)))))]
theorem names_in (G : Gam) (c at_ : Int) (sz tn : Nat) (own : O) (h : List O) (h0 : 0 ≤ c) (h1 : c < 2 ^ 100) (hs : sz ≤ 8) (ht : tn ≤ 4) (s7 s8 : Sl) :
    ∃ (nm : Str) (s7' s8' : Sl), ex G (.for_ (.v 7) (.it .range [(.v 2)]) nBody) ⟨[.d (.int c), .d (.str letters), .d (.int sz), .d (.int at_), .o own, .d (.int tn), .d (.str (Str.ofString "")), s7, s8], h⟩ =
      .ok .nx ⟨[.d (.int c), .d (.str letters), .d (.int sz), .d (.int at_), .o own, .d (.int tn), .d (.str nm), s7', s8'], h⟩ ∧ Word nm 8 := by
  have hpl : (sz : Int) ≤ 1000000 ∧ -1000000 ≤ (sz : Int) := by omega
  have lp := foL_inv (stay := fun s => items s (.it .range [.d (.int sz)]) = some (rangeD 0 sz)) (tg := .v 7) (xs := rangeD 0 sz) (b := exs G nBody)
    (fun i s => ∃ (nm : Str) (s7' s8' : Sl), s = ⟨[.d (.int c), .d (.str letters), .d (.int sz), .d (.int at_), .o own, .d (.int tn), .d (.str nm), s7', s8'], h⟩ ∧ Word nm i)
    (fun i s _ _ => by simp [items, lim, hpl]) (fun i y s hy hI => by
      obtain ⟨nm, s7', s8', rfl, hw⟩ := hI
      have hi : i < sz := by
        have := (List.getElem?_eq_some_iff.mp hy).1
        rw [rangeD_length] at this
        exact this
      rw [rangeD_get sz 0 i hi, Int.zero_add] at hy
      cases hy
      have ii : (i : Int) * i = ((i * i : Nat) : Int) := by simp
      have i2 : i * i ≤ 64 := Nat.mul_le_mul (by omega : i ≤ 8) (by omega : i ≤ 8)
      have si : sm (i : Int) := sm_of (by omega) (by omega)
      have s3 : sm 3 := by decide
      have q1 : (0 : Int) < (i : Int) * i + 1 := by omega
      have q2 : (i : Int) * i + 1 ≤ 2 ^ 64 := by omega
      have qd := bin_fdiv' (c / 64) ((i : Int) * i + 1) q1 q2
      have pos : 0 ≤ c / 64 / ((i : Int) * i + 1) := Int.ediv_nonneg (by omega) (by omega)
      have fin : ∀ z : Int, 0 ≤ z → ∃ ch, L2.atI letters.cps.toList (z % 26) = some ch := fun z hz => str_at letters_len (by omega) (by omega)
      have ll : letters.length ≤ 1000000 := by decide +kernel
      have wl := hw.2
      by_cases e : (i : Int) = at_
      · obtain ⟨ch, hc⟩ := fin (c / 64 / ((i : Int) * i + 1) + 3 * i + tn) (by omega)
        have w2 := hw.app (letters_word.at hc)
        have wl2 : nm.length + 1 ≤ 1000000 := by omega
        refine ⟨_, ⟨[.d (.int c), .d (.str letters), .d (.int sz), .d (.int at_), .o own, .d (.int tn), .d (.str (nm ++ ⟨#[ch]⟩)), .d (.int i), .d (.int (c / 64 / ((i : Int) * i + 1) + 3 * i + tn))], h⟩, rfl, .inl ?_, _, _, _, rfl, w2⟩
        have l1 : Str.length ⟨#[ch]⟩ = 1 := rfl
        subst e
        simp [nBody, si, s3, qd, ll, lim, hc, l1, wl2]
      · obtain ⟨ch, hc⟩ := fin (c / 64 / ((i : Int) * i + 1) + 3 * i) (by omega)
        have w2 := hw.app (letters_word.at hc)
        have wl2 : nm.length + 1 ≤ 1000000 := by omega
        refine ⟨_, ⟨[.d (.int c), .d (.str letters), .d (.int sz), .d (.int at_), .o own, .d (.int tn), .d (.str (nm ++ ⟨#[ch]⟩)), .d (.int i), .d (.int (c / 64 / ((i : Int) * i + 1) + 3 * i))], h⟩, rfl, .inl ?_, _, _, _, rfl, w2⟩
        have l1 : Str.length ⟨#[ch]⟩ = 1 := rfl
        simp [nBody, si, s3, qd, ll, lim, hc, l1, wl2, e])
    (st := ⟨[.d (.int c), .d (.str letters), .d (.int sz), .d (.int at_), .o own, .d (.int tn), .d (.str (Str.ofString "")), s7, s8], h⟩) ⟨_, _, _, rfl, Word.nil⟩
  obtain ⟨s', e1, nm, s7', s8', rfl, hw⟩ := lp
  rw [rangeD_length] at hw
  exact ⟨nm, s7', s8', (ex_for (G := G) (tg := .v 7) (src := .it .range [(.v 2)]) (b := nBody) (st1 := ⟨[.d (.int c), .d (.str letters), .d (.int sz), .d (.int at_), .o own, .d (.int tn), .d (.str (Str.ofString "")), s7, s8], h⟩) (v := .it .range [.d (.int sz)]) (xs := rangeD 0 sz) (by simp) (by simp [items, lim, hpl]) rfl).trans e1, hw.mono hs⟩
def oBody : List S := [.asg (.v 6) (.k (.str "")),
    .for_ (.v 7) (.it .range [(.v 2)]) nBody,
    .ex (.meth "append" (.v 4) [(.v 6)])]
theorem names_out (G : Gam) (c at_ : Int) (sz : Nat) (h : List O) (h0 : 0 ≤ c) (h1 : c < 2 ^ 100) (hs : sz ≤ 8) :
    ∃ (ns : List Str) (s5 s6 s7 s8 : Sl), ex G (.for_ (.v 5) (.it .range [(.k (.int 4))]) oBody) ⟨[.d (.int c), .d (.str letters), .d (.int sz), .d (.int at_), .o (.lst []), .un, .un, .un, .un], h⟩ =
      .ok .nx ⟨[.d (.int c), .d (.str letters), .d (.int sz), .d (.int at_), .o (.lst (dNames ns)), s5, s6, s7, s8], h⟩ ∧ ns.length = 4 ∧ ∀ x ∈ ns, Word x 8 := by
  have lp := foL_inv (stay := fun s => items s (.it .range [.d (.int 4)]) = some (rangeD 0 4)) (tg := .v 5) (xs := rangeD 0 4) (b := exs G oBody)
    (fun i s => ∃ (ns : List Str) (s5 s6 s7 s8 : Sl), s = ⟨[.d (.int c), .d (.str letters), .d (.int sz), .d (.int at_), .o (.lst (dNames ns)), s5, s6, s7, s8], h⟩ ∧ ns.length = i ∧ ∀ x ∈ ns, Word x 8)
    (fun i s _ _ => by simp [items, lim]) (fun i y s hy hI => by
      obtain ⟨ns, s5, s6, s7, s8, rfl, hl, hw⟩ := hI
      have hi : i < 4 := by
        have := (List.getElem?_eq_some_iff.mp hy).1
        rw [rangeD_length] at this
        exact this
      rw [rangeD_get 4 0 i hi, Int.zero_add] at hy
      cases hy
      obtain ⟨nm, s7', s8', e1, hnm⟩ := names_in G c at_ sz i (.lst (dNames ns)) h h0 h1 hs (by omega) s7 s8
      have hll : (dNames ns).length < 1000000 := by simp [dNames]; omega
      refine ⟨_, ⟨[.d (.int c), .d (.str letters), .d (.int sz), .d (.int at_), .o (.lst (dNames (ns ++ [nm]))), .d (.int i), .d (.str nm), s7', s8'], h⟩, rfl, .inl ?_, _, _, _, _, _, rfl, by simp [hl], fun x hx => ?_⟩
      · simp [oBody, e1, lim, hll]
        simp [dNames]
      · rcases List.mem_append.mp hx with z | z
        · exact hw x z
        · have z' : x = nm := by simpa using z
          rw [z']
          exact hnm)
    (st := ⟨[.d (.int c), .d (.str letters), .d (.int sz), .d (.int at_), .o (.lst []), .un, .un, .un, .un], h⟩) ⟨[], _, _, _, _, rfl, rfl, fun x hx => by simp at hx⟩
  obtain ⟨s', e1, ns, s5, s6, s7, s8, rfl, hl, hw⟩ := lp
  rw [rangeD_length] at hl
  exact ⟨ns, s5, s6, s7, s8, (ex_for (G := G) (tg := .v 5) (src := .it .range [(.k (.int 4))]) (b := oBody) (st1 := ⟨[.d (.int c), .d (.str letters), .d (.int sz), .d (.int at_), .o (.lst []), .un, .un, .un, .un], h⟩) (v := .it .range [.d (.int 4)]) (xs := rangeD 0 4) (by simp) (by simp [items, lim]) rfl).trans e1, hl, hw⟩
theorem names_map (G : Gam) (ns : List Str) (s0 s1 s2 s3 s5 s6 s7 s8 : Sl) (h : List O) (hl : ns.length = 4) (hw : ∀ x ∈ ns, Word x 8) :
    ∃ ms : List Str, ev G (.lc (.bin .Add (.v 6) (.sl (.v 6) .no (.v 7))) (.tup [(.v 7), (.v 6)]) (.it .enumerate [(.v 4)]) .no) ⟨[s0, s1, s2, s3, .o (.lst (dNames ns)), s5, s6, s7, s8], h⟩ =
      .ok (.o (.lst (dNames ms))) ⟨[s0, s1, s2, s3, .o (.lst (dNames ns)), s5, s6, s7, s8], h⟩ ∧ ms.length = 4 ∧ ∀ x ∈ ms, PyData.strOk x = true := by
  obtain ⟨a, b, c, d, rfl⟩ : ∃ a b c d, ns = [a, b, c, d] := by
    match ns, hl with
    | [a, b, c, d], _ => exact ⟨a, b, c, d, rfl⟩
  refine ⟨([(0, a), (1, b), (2, c), (3, d)] : List (Int × Str)).map fun p => p.2 ++ ⟨(cut p.2.cps.toList none (some p.1)).toArray⟩, ?_, rfl, fun x hx => ?_⟩
  · have z := ev_map (G := G) (elt := .bin .Add (.v 6) (.sl (.v 6) .no (.v 7))) (src := .it .enumerate [(.v 4)]) (tg := .tup [(.v 7), (.v 6)]) (st := ⟨[s0, s1, s2, s3, .o (.lst (dNames [a, b, c, d])), s5, s6, s7, s8], h⟩) (st1 := ⟨[s0, s1, s2, s3, .o (.lst (dNames [a, b, c, d])), s5, s6, s7, s8], h⟩) (v := .it .enumerate [.pl 4])
      ([(0, a), (1, b), (2, c), (3, d)] : List (Int × Str)) (fun p => .tup [.int p.1, .str p.2]) (fun p => .str (p.2 ++ ⟨(cut p.2.cps.toList none (some p.1)).toArray⟩)) (by simp) (by simp [items, dNames, enumD]) (by simp [lim]) rfl (fun p hp => by
        refine ⟨_, rfl, ?_, by simp [wst, wipeS, Tg.vars, Tg.varss]⟩
        have hm : p.2 ∈ [a, b, c, d] := by
          simp at hp
          rcases hp with rfl | rfl | rfl | rfl <;> simp
        have w := hw _ hm
        have w2 := w.cut none (some p.1)
        have l1 : p.2.length ≤ 1000000 := by have := w.2; omega
        have l2 : p.2.length + Str.length ⟨(cut p.2.cps.toList none (some p.1)).toArray⟩ ≤ 1000000 := by
          have := w.2
          have := w2.2
          omega
        simp [wst, wipeS, Tg.vars, Tg.varss, lim, l1, l2])
    rw [z]
    rfl
  · obtain ⟨p, hp, rfl⟩ := List.mem_map.mp hx
    have hm : p.2 ∈ [a, b, c, d] := by
      simp at hp
      rcases hp with rfl | rfl | rfl | rfl <;> simp
    exact ((hw _ hm).app ((hw _ hm).cut none (some p.1))).1
theorem sp_names (n : Nat) (c : Int) (h : List O) (h0 : 0 ≤ c) (h1 : c < 2 ^ 100) : ∃ ns : List Str, callN T (n + 1) "_law_names" [.int c] h = .ok (.o (.lst (dNames ns))) h ∧ ns.length = 4 ∧ ∀ x ∈ ns, PyData.strOk x = true := by
  obtain ⟨sz, hsz, hs1, hs8⟩ : ∃ sz : Nat, 1 + c % 8 = (sz : Int) ∧ 1 ≤ sz ∧ sz ≤ 8 := ⟨(1 + c % 8).toNat, by omega, by omega, by omega⟩
  obtain ⟨ns, s5, s6, s7, s8, e1, hl, hw⟩ := names_out (gam T n) c (c / 8 % sz) sz h h0 h1 hs8
  obtain ⟨ms, e2, hl2, hw2⟩ := names_map (gam T n) ns (.d (.int c)) (.d (.str letters)) (.d (.int sz)) (.d (.int (c / 8 % sz))) s5 s6 s7 s8 h hl hw
  have qm := bin_mod' (c / 8) sz (by omega)
  unfold oBody nBody at e1
  by_cases hc : c / 64 % 3 = 1 ∧ (sz : Int) < 5
  · refine ⟨ms, ?_, hl2, hw2⟩
    rw [callN_run T n h (fd := c_law_names) rfl rfl rfl, runB_end]
    simp [c_law_names, startS, hsz, qm, mkLst, lim, e1, e2, hc]
  · refine ⟨ns, ?_, hl, fun x hx => (hw x hx).1⟩
    rw [callN_run T n h (fd := c_law_names) rfl rfl rfl, runB_end]
    by_cases hc1 : c / 64 % 3 = 1
    · have hc2 : ¬ (sz : Int) < 5 := fun z => hc ⟨hc1, z⟩
      simp [c_law_names, startS, hsz, qm, mkLst, lim, e1, hc1, hc2]
    · simp [c_law_names, startS, hsz, qm, mkLst, lim, e1, hc1]
end L71

-- part: K71l
set_option maxHeartbeats 1000000
namespace L71
open PySem EW
/-- nothing is told of the heap behind the law -/
theorem gc_bl (h h' : List O) (b : Bool) : ∃ h2, gc h (.ok (.d (.bl b)) h') = .ok (.d (.bl b)) h2 := by
  unfold gc
  simp only
  by_cases e : h'.take h.length = h
  · rw [if_pos e]
    by_cases l : (EV.d (D.bl b)).lt h.length = true
    · rw [if_pos l]
      exact ⟨_, rfl⟩
    · rw [if_neg l]
      exact ⟨_, rfl⟩
  · rw [if_neg e]
    exact ⟨_, rfl⟩
noncomputable abbrev GL : Gam := gam T 199
def jBody : List S := [.asg (.v 5) (.tup [(.idx (.v 1) (.bin .Mod (.bin .Add (.bin .FloorDiv (.v 4) (.k (.int 255))) (.bin .Mult (.v 6) (.v 6))) (.k (.int 4)))), (.v 5)])]
/-- heads about a term -/
theorem about (ns : List Str) (hl : ns.length = 4) (hns : ∀ x ∈ ns, PyData.strOk x = true) (c : Int) (h0 : 0 ≤ c) (h1 : c < 2 ^ 100) (t : Tm) (ht : t.ok) (hd : t.dep ≤ 4) (s0 s2 s3 s6 : Sl) :
    ∃ (u : Tm) (s6' : Sl), ex GL (.for_ (.v 6) (.it .range [(.bin .Mod (.bin .FloorDiv (.v 4) (.k (.int 5))) (.k (.int 51)))]) jBody) ⟨[s0, .d (.ref 0), s2, s3, .d (.int c), .d t.d, s6], [.lst (dNames ns)]⟩ =
      .ok .nx ⟨[s0, .d (.ref 0), s2, s3, .d (.int c), .d u.d, s6'], [.lst (dNames ns)]⟩ ∧ u.ok ∧ u.dep ≤ 60 := by
  obtain ⟨p, hp, hp51⟩ : ∃ p : Nat, c / 5 % 51 = (p : Int) ∧ p < 51 := ⟨(c / 5 % 51).toNat, by omega, by omega⟩
  have hpl : (p : Int) ≤ 1000000 ∧ -1000000 ≤ (p : Int) := by omega
  have lp := foL_inv (stay := fun s => items s (.it .range [.d (.int p)]) = some (rangeD 0 p)) (tg := .v 6) (xs := rangeD 0 p) (b := exs GL jBody)
    (fun i s => ∃ (u : Tm) (s6' : Sl), s = ⟨[s0, .d (.ref 0), s2, s3, .d (.int c), .d u.d, s6'], [.lst (dNames ns)]⟩ ∧ u.ok ∧ u.dep ≤ 4 + i)
    (fun i s _ _ => by simp [items, lim, hpl]) (fun i y s hy hI => by
      obtain ⟨u, s6', rfl, hu, hud⟩ := hI
      have hi : i < p := by
        have := (List.getElem?_eq_some_iff.mp hy).1
        rw [rangeD_length] at this
        exact this
      rw [rangeD_get p 0 i hi, Int.zero_add] at hy
      cases hy
      have si : sm (i : Int) := sm_of (by omega) (by omega)
      have hz : 0 ≤ (c / 255 + (i : Int) * i) % 4 ∧ (c / 255 + (i : Int) * i) % 4 < 4 := by omega
      have at' : L2.atI (dNames ns) ((c / 255 + (i : Int) * i) % 4) = some (.str (ns[((c / 255 + (i : Int) * i) % 4).toNat]'(by omega))) := by
        rw [atI_int _ _ hz.1 (by simp [dNames]; omega)]
        simp [dNames]
      refine ⟨_, ⟨[s0, .d (.ref 0), s2, s3, .d (.int c), .d (Tm.mk (ns[((c / 255 + (i : Int) * i) % 4).toNat]'(by omega)) [u]).d, .d (.int i)], [.lst (dNames ns)]⟩, rfl, .inl ?_, _, _, rfl, mk_ok (hns _ (List.getElem_mem _)) (by simp) (fun t ht => by
        have e : t = u := by simpa using ht
        rw [e]
        exact hu), ?_⟩
      · simp [jBody, si, at', mkTup, lim, Tm.d, Tm.ds]
      · have := mk_dep (f := ns[((c / 255 + (i : Int) * i) % 4).toNat]'(by omega)) (ts := [u]) (k := 4 + i) fun t ht => by
          have e : t = u := by simpa using ht
          rw [e]
          exact hud
        omega)
    (st := ⟨[s0, .d (.ref 0), s2, s3, .d (.int c), .d t.d, s6], [.lst (dNames ns)]⟩) ⟨_, _, rfl, ht, by omega⟩
  obtain ⟨s', e1, u, s6', rfl, hu, hud⟩ := lp
  rw [rangeD_length] at hud
  exact ⟨u, s6', (ex_for (G := GL) (tg := .v 6) (src := .it .range [(.bin .Mod (.bin .FloorDiv (.v 4) (.k (.int 5))) (.k (.int 51)))]) (b := jBody) (st1 := ⟨[s0, .d (.ref 0), s2, s3, .d (.int c), .d t.d, s6], [.lst (dNames ns)]⟩) (v := .it .range [.d (.int p)]) (xs := rangeD 0 p) (by simp [hp]) (by simp [items, lim, hpl]) rfl).trans e1, hu, by omega⟩
def kBody : List S := [.asg (.v 4) (.bin .Mod (.call "_law_cell" [(.v 0), (.v 3)]) (.bin .Pow (.k (.int 10)) (.k (.int 20)))),
    .asg (.v 5) (.idx (.call "_law_term" [(.call "_law_mixed" [(.v 4), (.v 3)]), (.v 1), (.k (.int 3)), (.k (.int 3))]) (.k (.int 1))),
    .ife (.cmp .Eq (.bin .Mod (.v 4) (.k (.int 5))) (.k (.int 2)))
       [.for_ (.v 6) (.it .range [(.bin .Mod (.bin .FloorDiv (.v 4) (.k (.int 5))) (.k (.int 51)))]) jBody]
       [],
    .ife (.or (.not (.call "_law_asked" [(.v 5), (.v 2)])) (.not (.call "_law_asked" [(.v 5), (.v 5)])))
       [.ret (.k (.bl false))]
       [],
    .ife (.not (.call "_law_asked" [(.v 5), (.call "_law_turned" [(.v 5), (.v 1), (.bin .FloorDiv (.v 4) (.k (.int 5)))])]))
       [.ret (.k (.bl false))]
       [],
    .asg (.v 2) (.v 5)]
/-- where the names stand -/
def NamesAt (ns : List Str) (s1 : Sl) (h : List O) : Prop := (s1 = .o (.lst (dNames ns)) ∧ h = []) ∨ (s1 = .d (.ref 0) ∧ h = [.lst (dNames ns)])
theorem turn (ns : List Str) (hl : ns.length = 4) (hns : ∀ x ∈ ns, PyData.strOk x = true) (scr : List Int) (s1 : Sl) (h : List O) (hn : NamesAt ns s1 h) (b : Tm) (hb : b.ok) (hbd : b.dep ≤ 60) (k : Nat) (hk : k ≤ 1000) (s4 s5 s6 : Sl) :
    ∃ (u : Tm) (s4' s5' s6' : Sl), exs GL kBody ⟨[.d (.fz (scr.map D.int)), s1, .d b.d, .d (.int k), s4, s5, s6], h⟩ =
      .ok .nx ⟨[.d (.fz (scr.map D.int)), .d (.ref 0), .d u.d, .d (.int k), s4', s5', s6'], [.lst (dNames ns)]⟩ ∧ u.ok ∧ u.dep ≤ 60 := by
  obtain ⟨z, ez⟩ := sp_cell 198 scr k h
  obtain ⟨c, hc, c0, c1⟩ : ∃ c : Int, z % 100000000000000000000 = c ∧ 0 ≤ c ∧ c < 2 ^ 100 := ⟨_, rfl, by omega, by omega⟩
  obtain ⟨y, y0, y1, ey⟩ := sp_mixed 198 c k h c0 hk
  obtain ⟨m, t, et, _, _, ht, htd⟩ := sp_term 0 ns [.lst (dNames ns)] rfl hl hns 3 195 y y0 y1 (by omega)
  have et : callN T 199 "_law_term" [.int y, .ref 0, .int 3, .int 3] [.lst (dNames ns)] = .ok (.d (.tup [.int m, t.d])) [.lst (dNames ns)] := et
  -- behind the first two rows
  have row2 : ∃ s4' : Sl, exs GL kBody ⟨[.d (.fz (scr.map D.int)), s1, .d b.d, .d (.int k), s4, s5, s6], h⟩ = exs GL (kBody.drop 2) ⟨[.d (.fz (scr.map D.int)), .d (.ref 0), .d b.d, .d (.int k), .d (.int c), .d t.d, s6], [.lst (dNames ns)]⟩ := by
    refine ⟨s4, ?_⟩
    rcases hn with ⟨rfl, rfl⟩ | ⟨rfl, rfl⟩
    · simp [kBody, ez, hc, ey, et]
    · simp [kBody, ez, hc, ey, et]
  obtain ⟨_, r2⟩ := row2
  have row3 : ∃ (u : Tm) (s6' : Sl), ex GL (.ife (.cmp .Eq (.bin .Mod (.v 4) (.k (.int 5))) (.k (.int 2)))
       [.for_ (.v 6) (.it .range [(.bin .Mod (.bin .FloorDiv (.v 4) (.k (.int 5))) (.k (.int 51)))]) jBody]
       []) ⟨[.d (.fz (scr.map D.int)), .d (.ref 0), .d b.d, .d (.int k), .d (.int c), .d t.d, s6], [.lst (dNames ns)]⟩ =
      .ok .nx ⟨[.d (.fz (scr.map D.int)), .d (.ref 0), .d b.d, .d (.int k), .d (.int c), .d u.d, s6'], [.lst (dNames ns)]⟩ ∧ u.ok ∧ u.dep ≤ 60 := by
    by_cases h5 : c % 5 = 2
    · obtain ⟨u, s6', e, hu, hud⟩ := about ns hl hns c c0 c1 t ht htd (.d (.fz (scr.map D.int))) (.d b.d) (.d (.int k)) s6
      exact ⟨u, s6', by simp [h5, e], hu, hud⟩
    · exact ⟨t, s6, by simp [h5], ht, by omega⟩
  obtain ⟨u, s6', r3, hu, hud⟩ := row3
  obtain ⟨w, ew, hw, hwd⟩ := sp_turned 198 u 0 ns (c / 5) [.lst (dNames ns)] rfl hl (by omega) hu hns
  have a1 := sp_asked 199 u b [.lst (dNames ns)] (by omega) (by omega) (by omega) (by omega) hu hb
  have a2 := sp_asked 199 u u [.lst (dNames ns)] (by omega) (by omega) (by omega) (by omega) hu hu
  have a3 := sp_asked 199 u w [.lst (dNames ns)] (by omega) (by omega) (by omega) (by omega) hu hw
  refine ⟨u, .d (.int c), .d u.d, s6', ?_, hu, hud⟩
  rw [r2]
  show exs GL (_ :: _) _ = _
  rw [exs_cons, r3]
  simp [a1, a2, a3, ew]
theorem range_items (s : EW.St) (hi : Int) (h0 : 0 ≤ hi) (h1 : hi ≤ 1000) : items s (.it .range [.d (.int 1), .d (.int hi)]) = some (rangeD 1 (hi - 1).toNat) := by
  have : hi ≤ 1152921504606846976 := by omega
  have : -1152921504606846976 ≤ hi := by omega
  simp [items]
  omega
theorem says : LawSays T 200 "law" := by
  intro scr hlen hbits
  obtain ⟨z, ez⟩ := sp_cell 198 scr 0 []
  obtain ⟨c, hc, c0, c1⟩ : ∃ c : Int, z % 100000000000000000000 = c ∧ 0 ≤ c ∧ c < 2 ^ 100 := ⟨_, rfl, by omega, by omega⟩
  obtain ⟨ns, en, hl, hns⟩ := sp_names 198 c [] c0 c1
  obtain ⟨x, hx, ex0⟩ : ∃ x, x ∈ ns ∧ L2.atI (dNames ns) 0 = some (.str x) := by
    refine ⟨ns[0]'(by omega), List.getElem_mem _, ?_⟩
    have := atI_nat (dNames ns) 0 (by simp [dNames]; omega)
    simpa [dNames] using this
  obtain ⟨hi, hhi, hi1, hi2⟩ : ∃ hi : Int, (if (if (scr.length : Int) > 2 then (scr.length : Int) else 2) < 101 then (if (scr.length : Int) > 2 then (scr.length : Int) else 2) else 101) = hi ∧ 2 ≤ hi ∧ hi ≤ 101 := by
    refine ⟨_, rfl, ?_, ?_⟩ <;> (repeat' split) <;> omega
  have b0 : (Tm.mk x []).ok := mk_ok (hns x hx) (by simp) (fun t ht => by simp at ht)
  have bd : (Tm.mk x []).dep ≤ 60 := by
    have := mk_dep (f := x) (ts := []) (k := 0) fun t ht => by simp at ht
    omega
  have lp := foL_inv (stay := fun s => items s (.it .range [.d (.int 1), .d (.int hi)]) = some (rangeD 1 (hi - 1).toNat)) (tg := .v 3) (xs := rangeD 1 (hi - 1).toNat) (b := exs GL kBody)
    (fun i s => ∃ (s1 : Sl) (h : List O) (b : Tm) (s3 s4 s5 s6 : Sl), s = ⟨[.d (.fz (scr.map D.int)), s1, .d b.d, s3, s4, s5, s6], h⟩ ∧ NamesAt ns s1 h ∧ b.ok ∧ b.dep ≤ 60)
    (fun i s _ _ => range_items s hi (by omega) (by omega)) (fun i y s hy hI => by
      obtain ⟨s1, h, b, s3, s4, s5, s6, rfl, hn, hb, hbd⟩ := hI
      have hi' : i < (hi - 1).toNat := by
        have := (List.getElem?_eq_some_iff.mp hy).1
        rw [rangeD_length] at this
        exact this
      rw [rangeD_get _ 1 i hi'] at hy
      cases hy
      obtain ⟨u, s4', s5', s6', e, hu, hud⟩ := turn ns hl hns scr s1 h hn b hb hbd (1 + i) (by omega) s4 s5 s6
      have ec : ((1 + i : Nat) : Int) = 1 + (i : Int) := by omega
      rw [ec] at e
      exact ⟨_, _, rfl, .inl e, _, _, _, _, _, _, _, rfl, .inr ⟨rfl, rfl⟩, hu, hud⟩)
    (st := ⟨[.d (.fz (scr.map D.int)), .o (.lst (dNames ns)), .d (Tm.mk x []).d, .un, .un, .un, .un], []⟩) ⟨_, _, _, _, _, _, _, rfl, .inl ⟨rfl, rfl⟩, b0, bd⟩
  obtain ⟨s', e1, s1, h, b, s3, s4, s5, s6, rfl, _, _, _⟩ := lp
  have e2 := (ex_for (G := GL) (tg := .v 3) (src := .it .range [(.k (.int 1)), (.bi .min [(.k (.int 101)), (.bi .max [(.k (.int 2)), (.bi .len [(.v 0)])])])]) (b := kBody) (st := ⟨[.d (.fz (scr.map D.int)), .o (.lst (dNames ns)), .d (Tm.mk x []).d, .un, .un, .un, .un], []⟩) (st1 := ⟨[.d (.fz (scr.map D.int)), .o (.lst (dNames ns)), .d (Tm.mk x []).d, .un, .un, .un, .un], []⟩)
    (v := .it .range [.d (.int 1), .d (.int hi)]) (xs := rangeD 1 (hi - 1).toNat) (by simp [hhi]) (range_items _ hi (by omega) (by omega)) rfl).trans e1
  have run : exs GL c_law.body ⟨startS c_law.n [.fz (scr.map D.int)], []⟩ = .ok (.rt (.d (.bl true))) ⟨[.d (.fz (scr.map D.int)), s1, .d b.d, s3, s4, s5, s6], h⟩ := by
    have hd : (Tm.mk x []).d = .tup [.str x] := rfl
    have ez : callN T 199 "_law_cell" [.fz (scr.map D.int), .int 0] [] = .ok (.d (.int z)) [] := ez
    rw [hd] at e2
    unfold kBody jBody at e2
    simp [c_law, startS, ez, hc, en, ex0, mkTup, lim, e2]
  obtain ⟨h2, e3⟩ := gc_bl [] h true
  refine ⟨h2, ?_⟩
  rw [callN_run T 199 [] (fd := c_law) rfl rfl rfl, runB_end, run]
  exact e3
end L71

-- part: K71j
set_option maxHeartbeats 0
namespace L71
open PySem PySem.Spec PyProof.Rows L2 EW

/-! the head -/
def dds : List He.DefD := rows.map (EW.Row.dd P)
abbrev hk : PySem.W.Hook := He.hookD 4 (fas rows) dds
def ob (s : PySem.W.SharedT) : He.AlD := He.obsDG 4 (fas rows) dds (HandSHeadRun.getT s)
theorem ob_eq (s : PySem.W.SharedT) : ob s = hk.obs s.abs := He.obsDG_eq (HandSHeadRun.getT_eq s)
abbrev R : PySem.W.OpenRow := PySem.W.OpenLaw.row PySem.Challenge.rw_endwise_k71_beyond
def others : List Str := ["is_whole", "head", "count_parts", "beyond", "_law_cell", "_law_mixed", "_law_names", "_law_term", "_law_key", "_law_turned", "_law_asked"]
theorem run (w : World) : HandSHeadRun.RunEq R (PySem.W.view R.prog [14]) hk ob 4000 others w := by
  intro os
  kernel_rfl
end L71
open PySem PySem.W PySem.Calls PyProof.Rows
theorem PySem.Challenge.cw_endwise_k71_beyond_holds : PySem.Challenge.rw_endwise_k71_beyond.Holds := by
  w_on; o_law
  refine HandSHeadRun.head_any (r := OpenLaw.row PySem.Challenge.rw_endwise_k71_beyond) (q := view (OpenLaw.row PySem.Challenge.rw_endwise_k71_beyond).prog [14]) (H := L71.hk) (ob := L71.ob) (M := 4000) (loose := L71.others) (d := HandSHeadRun.topDef (OpenLaw.row PySem.Challenge.rw_endwise_k71_beyond).prog 14) (kwd := []) L71.ob_eq
    (by kernel_rfl) (fun s => by kernel_rfl) L71.run (by kernel_rfl) (by kernel_rfl) (by kernel_rfl) (by rfl) (by first | assumption | decide +kernel) (by decide +kernel) ⟨rfl, rfl, rfl, rfl, rfl, by decide +kernel⟩ ?hw ?hc
  case hw => w_witness2
  case hc =>
    refine EW.walk_sized (l := PySem.Challenge.rw_endwise_k71_beyond) (n := 63) (k := 200) (x := "_law_script") (CX := fun w => L2.CX PySem.Challenge.rw_endwise_k71_beyond.prog w) rfl (by decide) (by kernel_rfl) ⟨rfl, by decide, by decide⟩ ?F (fun _ _ _ _ _ z => EW.cx_no z)
    intro w mg fa h Y G hmg0
    obtain ⟨K, KX, c⟩ := Y
    have hmg : mg (PySem.Str.ofString "law") = some (.ref fa) := by
      have e : (HandSHeadRun.topDef (OpenLaw.row PySem.Challenge.rw_endwise_k71_beyond).prog 14).name = PySem.Str.ofString "law" := by kernel_rfl
      rw [← e]
      exact hmg0
    exact EW.head_F (P := PySem.Challenge.rw_endwise_k71_beyond.prog) (rows := L71.rows) (n := 199) KX G c L71.bs L71.ks 11 L71.r11 rfl rfl rfl rfl rfl L71.says hmg
