import PyProof.Rows.All
import Wide.All
import OpenK.AllK
import Wide.FinOn
import HandS.ForMost
import HandS.Exc
import HandS.ExcOwn
import HandS.CallSlots
import HandS.Star
import HandS.Wide
import HandS.WideBits
import HandS.Flow
import HandS.Style
import HandS.FStr
import HandS.IsInst
import HandS.Property
import HandS.TupAny
import HandS.Deep
import HandS.HeadHook2
import HandS.TryOnly
import HandS.TryMany
import HandS.TryElse
import HandS.Rev
import HandS.Zip
import HandS.Comp
import HandS.ExcInit
import HandS.Small
import HandS.ClsMeth
import KE.KOpsOwn
import KE.GoesMore
import PyProof.EnumMake
import PySem.Str
import PySem.Syntax
import HandS.Lambda
import HandS.ExcField
import HandS.Defaults
import KE.KCallOwn
import PyProof.InstEq
import HandS.WideMore
import KE.KTupSum
import HandS.RaiseMore
import HandS.HotCalls
import HandS.SuiteRaise
import HandS.RaiseFrom
import KE.DatumOrd
import PyProof.Rows.CallKwBuiltin
import KE.KStateDown
import HandS.Ends
import HandS.More
import HandS.Words
import HandS.WordsExc
import HandS.Head0
import HandS.Head1
import HandS.Head2
import HandS.HeadEnd
import HandS.HeadHook1
import HandS.HeadHook4
import KE.KNestM
import HandS.EndBits
import HandS.EndTab
import KE.KIntText
import PySem.Challenge.RW_untoldmean_k03_ratios_with_signs
set_option Elab.async false
set_option linter.all false
set_option autoImplicit false
set_option maxHeartbeats 2000000
set_option maxRecDepth 100000
/-! # PMen: enumerate over a tuple -/
namespace PM
open PySem PySem.Spec PyProof.Rows
open AutoSeq1 (wpAny_loadPart')
theorem enumT_new (l : Addr) (items : Array Value) (n : Nat) (dct : Option Addr) (sl : Array (Option Value)) :
    Meets (Builtin.«enumerate.__new__» ⟨[.type "enumerate", .ref l], []⟩) (fun _ R s => s.heap.get? l = some { cls := .type "tuple", dict := dct, data := .seq items n, slots := sl } ∧
      R (.ok (.ret (.ref (s.heap.push { cls := .type "tuple_iterator", data := .fields #[.ref l, .int 0 0] }).objs.size)))
        { s with heap := (s.heap.push { cls := .type "tuple_iterator", data := .fields #[.ref l, .int 0 0] }).push { cls := .type "enumerate", data := .fields #[.none, .bool false, .ref s.heap.objs.size, rawInt 0, .none, .none] } }) :=
  .of_wp fun prog w A R s h => by
    obtain ⟨hp, g, d, tk, os⟩ := s; obtain ⟨hl, h⟩ := h
    have hsub := sub_enumerate
    have hL : Heap.IsTuple (Shared.heap ⟨hp, g, d, tk, os⟩) l items := ⟨_, hl, rfl, n, rfl⟩
    wp_walk using wpAny_loadPart' hl
    refine wpAny_stack_any fun st => wpAny_pure ?_
    split
    · rename_i c _ _ _ _ _
      cases (c == Value.type "enumerate")
      · wp_walk using wpAny_loadPart' hl, wpAny_pyIter_tuple hL
        exact ⟨_, rfl, h⟩
      · wp_walk using wpAny_loadPart' hl, wpAny_pyIter_tuple hL
        exact ⟨_, rfl, h⟩
    · wp_walk using wpAny_loadPart' hl, wpAny_pyIter_tuple hL
      exact ⟨_, rfl, h⟩
theorem call_enumT {prog : Program} {w : World} {A : Around} {E : Value → Shared → Prop} {s : Shared} {l : Addr} {items : Array Value} {Q : Value → Shared → Prop} (hL : s.heap.IsTuple l items)
    (h : ∀ h', IsEnum h' (s.heap.objs.size + 1) s.heap.objs.size 0 .none → h'.IsTupleIter s.heap.objs.size l 0 → h'.objs.size = s.heap.objs.size + 2 →
      (∀ b o, s.heap.get? b = some o → h'.get? b = some o) → Q (.ref (s.heap.objs.size + 1)) { s with heap := h' }) :
    wpAny (model prog w) A (call (.type "enumerate") [.ref l]) Q E s := by
  obtain ⟨⟨c, dct, dt, sl⟩, hl, hc, n, hd⟩ := hL
  replace hc : c = .type "tuple" := hc
  replace hd : dt = .seq items n := hd
  subst hc hd
  refine callType_new F.called_enumerate (by decide) (F.typeCall_enumerate_1 _) (F.newCall_enumerate_1 _) (fun obj => F.args_object_init_2 obj _) F.entry_enumerate_new
    (enumT_new l items n dct sl) ⟨hl, ?_⟩
  have hz : (s.heap.push { cls := .type "tuple_iterator", data := .fields #[.ref l, .int 0 0] }).objs.size = s.heap.objs.size + 1 := Heap.size_push ..
  show _ ∧ _
  rw [hz]
  have he := Heap.get?_push_size (s.heap.push { cls := .type "tuple_iterator", data := .fields #[.ref l, .int 0 0] })
      (o := { cls := .type "enumerate", data := .fields #[.none, .bool false, .ref s.heap.objs.size, rawInt 0, .none, .none] }) rfl
  rw [hz] at he
  refine ⟨⟨_, he, rfl⟩, h _ he ⟨_, Heap.get?_push_of_some _ (Heap.get?_push_size _ rfl), rfl, rfl⟩ (by rw [Heap.size_push, hz]) fun b o x => Heap.get?_push_of_some _ (Heap.get?_push_of_some _ x)⟩
open L2 hiding St
/-- the tuple at a, each item in a new pair -/
def IteT (K : PySem.W.Frag) (a : Addr) : It :=
  ⟨fun i H => ∃ (xs : List V) (x : V), SqT K H a xs ∧ xs[i]? = some x, fun i H v H' => ∃ T x, v = .ref T ∧ H T = none ∧ H' = upd H T (.tup [.int (i : Nat), x]) ∧ ∀ xs, SqT K H a xs → xs[i]? = some x, fun i H => ∃ xs : List V, SqT K H a xs ∧ xs.length = i⟩
theorem turn_enumT {P : Program} {w : World} {K : PySem.W.Frag} {elts : List Expr} {kk : Nat} {tpos : Pos} (a e it : Addr) :
    Turn P w K (.Tuple elts kk tpos) (IteT K a) [e, it] e (fun i h => (∃ old, IsEnum h e it ((i : Nat) : Int) old) ∧ h.IsTupleIter it a i ∧ e ≠ it ∧ a ≠ it) where
  mem := by simp
  obj := fun i h st b hb => by
    obtain ⟨⟨old, he⟩, ⟨o, ho, hc, hd⟩, _, _⟩ := st
    have e' : b = e ∨ b = it := by simpa using hb
    rcases e' with z | z
    · rw [z]; exact ⟨_, he, fun v q => nomatch q⟩
    · rw [z]; exact ⟨o, ho, fun v q => by rw [hd] at q; cases q⟩
  keep := fun i h h' st k => let ⟨⟨old, he⟩, hi, hne, hna⟩ := st; ⟨⟨old, k e (by simp) _ he⟩, hi.at fun o q => k it (by simp) o q, hne, hna⟩
  item := by
    intro X hP hw hK hc i pins s σ H E I hf st hg
    subst hP hw hK
    obtain ⟨⟨old, he⟩, hit, hne, hna⟩ := st
    obtain ⟨xs, x, hq, hx⟩ := hg
    obtain ⟨its, rv, p, hz⟩ := I.tuple hq
    have p : s.heap.IsTuple a its.toArray := p
    obtain ⟨u, hu, ru⟩ := rv.get hx
    have hel : e < s.heap.objs.size := Heap.lt_size he
    have hil : it < s.heap.objs.size := by obtain ⟨_, q, _⟩ := hit; exact Heap.lt_size q
    have hea : e ≠ a := fun z => by
      obtain ⟨o, ho, hcl, _⟩ := p
      obtain ⟨o2, ho2, hc2⟩ : ∃ o2, s.heap.get? e = some o2 ∧ o2.cls = .type "enumerate" := ⟨_, he, rfl⟩
      rw [z, ho] at ho2
      cases ho2
      rw [hcl] at hc2
      exact absurd hc2 (by decide)
    have hi : i < its.toArray.size := by
      have := (List.getElem?_eq_some_iff.mp hu).1
      simpa using this
    refine wpAny_pyNext_enum_itemD (Draws.tuple (A := X.A.in1) (I.ok.hd hc) it a hna its.toArray) he ⟨hit, p⟩ hi hne (by simp [hne, hea]) fun x' h' tk hP ho hSt hT hsz hk => ?_
    have hP : its.toArray[i]? = some x' := hP
    have : its.toArray[i]? = some u := by simpa using hu
    rw [this] at hP
    cases hP
    refine ⟨_, rfl, wpAny_letOwnedTupleGo_enum (s := { s with heap := h', toks := tk + 1 }) ho fun h'' he' sb => ?_⟩
    have hT2 : h''.get? s.heap.objs.size = some { cls := .type "tuple", data := .seq #[.int i tk, u] } := (sb.2 _ (Nat.ne_of_gt hel)).trans hT
    have new : ObjOk X.prog X.w (upd H s.heap.objs.size (.tup [.int (i : Nat), x])) h'' s.heap.objs.size (.tup [.int (i : Nat), x]) :=
      ⟨by show 2 ≤ sizeLine; decide, [.int i tk, u], .cons ⟨_, rfl⟩ (.cons ru .nil), ⟨_, hT2, rfl, _, rfl⟩⟩
    have I1 : Inv X pins σ (upd H s.heap.objs.size (.tup [.int (i : Nat), x])) { s with heap := h'', toks := tk + 1 } :=
      I.turnedNew (ch := [e, it]) (fun b ob hb q => (sb.2 b (fun z => hb (by simp [z]))).trans (hk b ob (fun z => hb (by simp [z])) (fun z => hb (by simp [z])) q)) hf (Nat.le_refl _) new
    refine ⟨.ref s.heap.objs.size, _, I1, rfl, ⟨_, x, rfl, I.hok.fresh (Nat.le_refl _), rfl, fun ys hy => by rw [I.tuple_inj hy hq]; exact hx⟩, ⟨⟨u, ?_⟩, hSt.1.at fun o q => (sb.2 it (Ne.symm hne)).trans q, hne, hna⟩, fun b hb => ?_⟩
    · have e1 : ((i + 1 : Nat) : Int) = (i : Int) + 1 := by omega
      rw [e1]; exact he'
    · have hb' : b < s.heap.objs.size := by
        have e' : b = e ∨ b = it := by simpa using hb
        rcases e' with z | z
        · rw [z]; exact hel
        · rw [z]; exact hil
      rw [upd_ne (Nat.ne_of_lt hb')]
      exact (hf b hb).1
  done := by
    intro X hP hw hK hc i pins s σ H E I hf st hg
    subst hP hw hK
    obtain ⟨⟨old, he⟩, hit, hne, hna⟩ := st
    obtain ⟨xs, hq, hx⟩ := hg
    obtain ⟨its, rv, p, hz⟩ := I.tuple hq
    obtain ⟨f0, f1, f2, f3, f4, f5⟩ := hf it (by simp)
    have hl := rv.length
    have hn : i = its.toArray.size := by rw [List.size_toArray]; omega
    subst hn
    exact wpAny_pyNext_enum_endD (Draws.tuple (A := X.A.in1) (I.ok.hd hc) it a hna its.toArray) he ⟨hit, p⟩ fun h' eb => ⟨rfl, I.turned (t' := s.toks) (fun b o hb q => eb b o hb q) f0 f1 f3 f4 f5⟩
  self := fun A i s Q E st h => let ⟨⟨_, he⟩, _⟩ := st; wpAny_pyIter_enum he h
def iEnumT (K : PySem.W.Frag) (ta : TA) : TI := fun σ H R => ta σ H fun vs H1 => ∃ a xs, vs = [.ref a] ∧ SqT K H1 a xs ∧ R (IteT K a) H1
theorem pi_enumT {X : Cx} {e : Expr} {ta : TA} {p pos tpos : Pos} {elts : List Expr} {kk : Nat} (hg : Gl X "enumerate") (hm : X.mg "enumerate" = none) (ha : PA X [e] ta) (hs : starEach [e] X.env = [(false, eval e X.env)] := by rfl) :
    PI X (.Tuple elts kk tpos) (.Call (.Name "enumerate" p) [e] [] pos) (iEnumT X.K ta) := by
  refine ⟨fun pins s σ H R I h => ?_⟩
  refine Call_ (ld_blt I hg hm boot_enumerate (PyProof.Rows.callWith_type1 (thn (ha.run pos pins s σ H _ I h) fun us s1 ⟨vs, H1, I1, r1, q1⟩ => ?_) hs rfl))
  obtain ⟨a, xs, ex, hq, q⟩ := q1
  subst ex
  cases r1 with
  | cons r rr =>
    cases rr
    cases r
    obtain ⟨its, rv, p', hz⟩ := I1.tuple hq
    have p' : s1.heap.IsTuple a its.toArray := p'
    have hla : a < s1.heap.objs.size := by obtain ⟨_, q, _⟩ := p'; exact Heap.lt_size q
    refine call_enumT p' fun h' he hit hsz hk => wpAny_pyIter_enum he ?_
    have I2 : Inv X pins σ H1 { s1 with heap := h' } := I1.kept (t' := s1.toks) hk
    refine ⟨s1.heap.objs.size + 1, [s1.heap.objs.size + 1, s1.heap.objs.size], _, _, H1, rfl, I2, turn_enumT a (s1.heap.objs.size + 1) s1.heap.objs.size, ⟨⟨.none, he⟩, hit, Nat.succ_ne_self _, Nat.ne_of_lt hla⟩, fun b hb => ?_, q⟩
    have e' : b = s1.heap.objs.size + 1 ∨ b = s1.heap.objs.size := by simpa using hb
    have hle : s1.heap.objs.size ≤ b := by
      rcases e' with z | z
      · rw [z]; exact Nat.le_add_right _ _
      · rw [z]; exact Nat.le_refl _
    exact I1.fpOk hle (I1.hok.fresh hle)
end PM

/-! # PM0: a small interpreter of a Python subset over a logical heap (own work) -/
set_option autoImplicit false
set_option linter.all false
namespace PM

/-! ### values, objects, results -/
inductive LV where
  | non | bl (b : Bool) | int (i : Int) | str (s : List Nat) | tup (xs : List LV) | ref (a : Nat) | gl (g : Nat)
  /-- a list that is only read; an instance that is only read: its class, its fields' names, their values -/
  | fz (xs : List LV) | obj (c : Nat) (ns : List Nat) (vs : List LV)
  /-- the script -/
  | scr (xs : List LV)
  /-- a dict that is only read; a lambda with what it captured; an error (all three: later) -/
  | dct (ks vs : List LV) | clo (f : Nat) (vs : List LV) | err (c : Nat) (ns : List Nat) (vs : List LV)
  deriving Inhabited
inductive LO where
  | lst (xs : List LV)
  | ins (c : Nat) (fs : List (Nat × LV))
  | dic (kvs : List (LV × LV))
  deriving Inhabited
abbrev LH := List LO
abbrev LS := List (Option LV)
structure LX where
  cls : Nat
  fs : List (Nat × LV)
inductive R (α : Type) where
  | ok (a : α) (H : LH) | exc (x : LX) (H : LH) | bad
def R.bind {α β : Type} (r : R α) (k : α → LH → R β) : R β := match r with
  | .ok a H => k a H | .exc x H => .exc x H | .bad => .bad
/-- ends of a statement -/
inductive Fl where
  | nx (σ : LS) | rt (v : LV) | bk (σ : LS) | ct (σ : LS)
/-- a statement's result: an exception keeps the slots -/
inductive RS where
  | ok (f : Fl) (H : LH) | exc (x : LX) (σ : LS) (H : LH) | bad
def RS.ofR {α : Type} (r : R α) (σ : LS) (k : α → LH → RS) : RS := match r with
  | .ok a H => k a H | .exc x H => .exc x σ H | .bad => .bad

/-! ### syntax without places -/
inductive BOp where
  | add | sub | mul | fdiv | mod | pow | bor
  /-- a list that will be changed comes out -/
  | addM | mulM
  deriving DecidableEq
inductive COp where
  | eq | ne | lt | le | gt | ge | isin | notin
  deriving DecidableEq
inductive Ty where
  | int | bool | str | list | tuple | dict | own (c : Nat)
  deriving DecidableEq
/-- built-in calls on values -/
inductive Bl where
  | len | int | bool | str | repr | abs | sum | max2 | min2 | max1 | min1 | list | tuple | sorted | all | any | listM
  deriving DecidableEq
inductive E where
  | var (i : Nat) | int (i : Int) | bl (b : Bool) | non | str (s : List Nat) | con (g : Nat) | glo (g : Nat)
  | nil | cons (e es : E) | star (e es : E)
  | tup (es : E) | lst (es : E) | lstM (es : E)
  | bin (o : BOp) (a b : E) | neg (a : E) | not (a : E)
  | cmp (o : COp) (a b : E) | chain (o o2 : COp) (a b c : E) | isN (a : E) | notN (a : E)
  | and (es : E) | or (es : E)
  | ife (c a b : E)
  | fld (f : Nat) (a : E)
  | ix (a i : E) | slc (a lo hi : E) | slcM (a lo hi : E) | rev (a : E)
  | call (g : Nat) (es : E) (ks : List Nat) (kes : E)
  | blt (b : Bl) (es : E)
  | met (m : Nat) (o es : E) (ks : List Nat) (kes : E)
  | isi (e : E) (ts : List Ty)
  | lc (elt tg it cond : E) (own : List Nat) | lcM (elt tg it cond : E) (own : List Nat)
  | fst (es : E) | fmt (a : E)
  /-- not served -/
  | wall
  -- iterables
  | itv (e : E) | itr (es : E) | ite (e : E) | itz (a b : E) | itb (e : E)
  -- targets
  | tnm (i : Nat) | ttp (ts : E) | tfl (f : Nat) (o : E) | tix (o i : E)
  -- statements
  | skip | seq (a b : E) | ex (e : E) | asg (t e : E) | augn (o : BOp) (i : Nat) (e : E) | augx (o : BOp) (a i e : E) | ret (e : E)
  | iff (c a b : E) | whl (c b : E) | for (t it b : E) | brk | cnt
  | rse (c : Nat) (es : E)
  /-- what a call tells, or its error's code and field -/
  | why (e : E)
  /-- max(a list, default=d) -/
  | mxd (a d : E)
  deriving Inhabited

/-! ### the static program -/
inductive MK where
  | meth (c : Nat) | prop (c : Nat) | stat (c : Nat) | clsm (c : Nat) | const (v : LV)
  /-- no attribute of the class: an instance's field -/
  | fld
/-- how arguments come to parameters: the names, the defaults of the last ones, a star parameter (its slot comes behind), keyword-only names with their defaults -/
structure Sig where
  ps : List Nat
  ds : List LV := []
  star : Bool := false
  ko : List (Nat × LV) := []
structure Fn where
  sig : Sig
  slots : Nat
  body : E
  /-- what it returns is only read; what it is given holds no places -/
  fz : Bool := false
structure Prog where
  fn : Nat → Nat → Option Fn
  mro : Nat → List Nat
  mem : Nat → Nat → Option MK
  isCls : Nat → Bool
  glb : Nat → Bool
  isExc : Nat → Bool
  /-- an own error class: its code, its field -/
  err : Nat → Option (List Nat × Option Nat) := fun _ => none
  con : Nat → Option LV
  loops : Nat
  /-- the def that catches; the defs with lambdas, their names -/
  why : Option Nat := none
  lams : List (Nat × List (PySem.Str × PySem.NameKind)) := []
  /-- the class's instances are only read once they are made -/
  fzc : Nat → Bool := fun _ => false
  /-- the lists that will be changed: where they are made in the text -/
  mu : Nat → Nat → Bool := fun _ _ => false
abbrev Gam := Nat → Nat → List LV → List (Nat × LV) → LH → R LV

/-! ### helpers -/
def SL : Nat := 16777216
def fget : List (Nat × LV) → Nat → Option LV
  | [], _ => none
  | (g, v) :: r, f => if g = f then some v else fget r f
def fput : List (Nat × LV) → Nat → LV → List (Nat × LV)
  | [], f, v => [(f, v)]
  | (g, w) :: r, f, v => if g = f then (g, v) :: r else (g, w) :: fput r f v
def mulOk (i j : Int) : Bool := decide (i.natAbs < 2 ^ 64) || decide (j.natAbs < 2 ^ 64) || decide (i.natAbs.log2 + j.natAbs.log2 < 1000000)
def lstOf (H : LH) : LV → Option (List LV)
  | .fz xs => some xs
  | .scr xs => some xs
  | .ref a => match H[a]? with
    | some (.lst xs) => some xs
    | _ => none
  | _ => none
/-- .. the script's apart -/
def lstH (H : LH) : LV → Option (List LV)
  | .scr _ => none
  | x => lstOf H x
def seqOf (H : LH) : LV → Option (List LV)
  | .tup xs => some xs
  | x => lstOf H x
def newL (xs : List LV) (H : LH) : R LV := if xs.length ≤ SL then .ok (.ref H.length) (H ++ [.lst xs]) else .bad
/-! no place of the heap in it -/
mutual
def noRef : LV → Bool
  | .tup xs => noRefs xs
  | .ref _ => false
  | _ => true
def noRefs : List LV → Bool
  | [] => true
  | x :: xs => noRef x && noRefs xs
end
/-- a new list that is only read -/
def newF (xs : List LV) (H : LH) : R LV := if xs.length ≤ SL ∧ noRefs xs = true then .ok (.fz xs) H else .bad
/-- an instance -/
def insOf (H : LH) : LV → Option (Nat × List (Nat × LV))
  | .ref a => match H[a]? with
    | some (.ins c fs) => some (c, fs)
    | _ => none
  | .obj c ns vs => some (c, ns.zip vs)
  | _ => none

/-- data to be compared: ints, bools, texts, None, lists and tuples of these -/
inductive DT where
  | non | bl (b : Bool) | int (i : Int) | str (s : List Nat) | lst (xs : List DT) | tup (xs : List DT)
def optAll {α β : Type} (f : α → Option β) : List α → Option (List β)
  | [] => some []
  | x :: xs => match f x, optAll f xs with
    | some d, some ds => some (d :: ds)
    | _, _ => none
/-- code points -/
def cpOk (s : List Nat) : Bool := s.all fun c => decide (c < 1114112)
def toD (H : LH) : Nat → LV → Option DT
  | 0, _ => none
  | n + 1, v => match v with
    | .non => some .non
    | .bl b => some (.bl b)
    | .int i => some (.int i)
    | .str s => if cpOk s then some (.str s) else none
    | .tup xs => (optAll (toD H n) xs).map .tup
    | .ref a => match lstOf H (.ref a) with
      | some xs => (optAll (toD H n) xs).map .lst
      | none => none
    | .fz xs => (optAll (toD H n) xs).map .lst
    | .scr xs => (optAll (toD H n) xs).map .lst
    | _ => none
mutual
def DT.eqv : DT → DT → Bool
  | .non, .non => true
  | .bl a, .bl b => a == b
  | .bl a, .int j => (if a then 1 else 0) == j
  | .int i, .bl b => i == (if b then 1 else 0)
  | .int i, .int j => i == j
  | .str x, .str y => x == y
  | .lst xs, .lst ys => DT.eqvs xs ys
  | .tup xs, .tup ys => DT.eqvs xs ys
  | _, _ => false
def DT.eqvs : List DT → List DT → Bool
  | [], [] => true
  | x :: xs, y :: ys => DT.eqv x y && DT.eqvs xs ys
  | _, _ => false
end
/-- == of data -/
def eqv (H : LH) (x y : LV) : Option Bool := match x, y with
  | .int i, .int j => some (decide (i = j))
  | .str s, .str t => some (decide (s = t))
  | x, y => match toD H 60 x, toD H 60 y with
    | some d, some e => some (DT.eqv d e)
    | _, _ => none
def flat : LV → Bool
  | .non | .bl _ | .int _ | .str _ => true
  | _ => false
/-- == of flat values -/
def eqF : LV → LV → Bool
  | .non, .non => true
  | .bl a, .bl b => a == b
  | .bl a, .int j => (if a then 1 else 0) == j
  | .int i, .bl b => i == (if b then 1 else 0)
  | .int i, .int j => decide (i = j)
  | .str x, .str y => decide (x = y)
  | _, _ => false
def ixN (n : Nat) (i : Int) : Option Nat := if 0 ≤ i then (if i < n then some i.toNat else none) else if -(n : Int) ≤ i then some (i + n).toNat else none
def atI {α : Type} (xs : List α) (i : Int) : Option α := (ixN xs.length i).bind fun j => xs[j]?
def sIx (n d : Nat) : Option Int → Nat
  | none => d
  | some i => if i < 0 then (i + (n : Int)).toNat else min i.toNat n
def cut {α : Type} (xs : List α) (lo hi : Option Int) : List α := (xs.drop (sIx xs.length 0 lo)).take (sIx xs.length xs.length hi - sIx xs.length 0 lo)
/-- the decimal text of an int -/
def intText (i : Int) : List Nat := (PySem.Str.ofString (toString i)).cps.toList
/-- a text's place in another one -/
def isInfix : List Nat → List Nat → Bool
  | s, [] => s.isEmpty
  | s, c :: t => s.isPrefixOf (c :: t) || isInfix s t

/-! ### iterators -/
inductive LIt where
  | l (x : LV) | t (xs : List LV) | r (lo : Int) (st : Int) (n : Nat) | s (x : List Nat)
  | el (x : LV) | et (xs : List LV) | z (x y : LV) | zt (xs ys : List LV) | bl (x : LV) (n : Nat) | bt (xs : List LV)
/-- turn i: none: not served; some none: the end; some (some v): the item -/
def LIt.nx (H : LH) (i : Nat) : LIt → Option (Option LV)
  | .l x => (lstOf H x).map fun xs => xs[i]?
  | .t xs => some xs[i]?
  | .r lo st n => some (if i < n then some (.int (lo + i * st)) else none)
  | .s x => some ((x[i]?).map fun c => .str [c])
  | .el x => (lstOf H x).map fun xs => (xs[i]?).map fun v => .tup [.int i, v]
  | .et xs => if i ≤ xs.length then some ((xs[i]?).map fun v => .tup [.int i, v]) else none
  | .z x y => match lstOf H x, lstOf H y with
    | some xs, some ys => some (match xs[i]?, ys[i]? with
      | some v, some w => some (.tup [v, w])
      | _, _ => none)
    | _, _ => none
  | .zt xs ys => some (match xs[i]?, ys[i]? with
    | some v, some w => some (.tup [v, w])
    | _, _ => none)
  | .bl x n => (lstOf H x).bind fun xs => if xs.length = n then some (if i < n then xs[n - 1 - i]? else none) else none
  | .bt xs => some (xs.reverse[i]?)

/-- exceptions don't leave -/
def noX {α : Type} : R α → R α
  | .exc _ _ => .bad
  | r => r
/-! ### operations on values (own classes go by the table of functions) -/
section
variable (P : Prog) (G : Gam)
def insCls (H : LH) (x : LV) : Option Nat := (insOf H x).map (·.1)
/-- a method of the value's class: called with these arguments -/
def ownM (H : LH) (c m : Nat) (args : List LV) : R LV := match P.mem c m with
  | some (.meth d) => G d m args [] H
  | _ => .bad
/-- the slot of an error's code -/
def kCode : Nat := 5
def kAdd : Nat := 16
def kSub : Nat := 17
def kMul : Nat := 18
def kNeg : Nat := 19
def kBool : Nat := 20
def kLen : Nat := 21
def kStr : Nat := 22
def kRepr : Nat := 23
def kOr : Nat := 24
def kIn : Nat := 25
def kEq : Nat := 15
def kInit : Nat := 14
def arith (o : BOp) (i j : Int) (H : LH) : R LV := match o with
  | .add => .ok (.int (i + j)) H
  | .sub => .ok (.int (i - j)) H
  | .mul => if mulOk i j then .ok (.int (i * j)) H else .bad
  | .fdiv => if 0 < j ∧ j.natAbs.log2 < 9000 then .ok (.int (i / j)) H else if j < 0 ∧ j.natAbs.log2 < 9000 then .ok (.int (i.fdiv j)) H else .bad
  | .mod => if 0 < j then .ok (.int (i % j)) H else if j < 0 then .ok (.int (i.fmod j)) H else .bad
  | .pow => if 0 ≤ j ∧ j ≤ 1000000 ∧ i.natAbs < 2 ^ 64 then .ok (.int (i ^ j.toNat)) H else .bad
  | _ => .bad
/-- the method of an own class for it -/
def opK : BOp → Option Nat
  | .add => some kAdd
  | .sub => some kSub
  | .mul => some kMul
  | .bor => some kOr
  | _ => none
def listAdd (o : BOp) (zs : List LV) (H : LH) : R LV := match o with
  | .add => newF zs H
  | .addM => newL zs H
  | _ => .bad
def listMul (o : BOp) (xs : List LV) (k : Int) (H : LH) : R LV := if decide (-(2 ^ 62) ≤ k ∧ k < 2 ^ 62 ∧ xs.length * k.toNat ≤ SL) then (match o with
  | .mul => newF (List.replicate k.toNat xs).flatten H
  | .mulM => newL (List.replicate k.toNat xs).flatten H
  | _ => .bad) else .bad
def isInt : LV → Option Int
  | .int i => some i
  | _ => none
/-- text * int -/
def strMul (s : List Nat) (k : Int) (H : LH) : R LV := if -(2 ^ 62) ≤ k ∧ k < 2 ^ 62 ∧ s.length * k.toNat ≤ SL then .ok (.str (List.replicate k.toNat s).flatten) H else .bad
def binopO (o : BOp) (x y : LV) (H : LH) : R LV := match lstH H x with
  | some xs => match isInt y with
    | some k => listMul o xs k H
    | none => match lstH H y with
      | some ys => if xs.length + ys.length ≤ SL then listAdd o (xs ++ ys) H else .bad
      | none => .bad
  | none => match insOf H x, insOf H y with
    | some (c, _), some (c', _) => if c = c' then match opK o with
      | some m => ownM P G H c m [x, y]
      | none => .bad else .bad
    | _, _ => .bad
def binop (o : BOp) (x y : LV) (H : LH) : R LV := match x, y with
  | .int i, .int j => arith o i j H
  | .bl a, .bl b => match o with
    | .sub => .ok (.int ((if a then 1 else 0) - (if b then 1 else 0))) H
    | _ => .bad
  | .str s, .str t => match o with
    | .add => if s.length + t.length ≤ SL then .ok (.str (s ++ t)) H else .bad
    | _ => .bad
  | .tup xs, .tup ys => match o with
    | .add => if xs.length + ys.length ≤ SL then .ok (.tup (xs ++ ys)) H else .bad
    | _ => .bad
  | .str s, .int k => match o with
    | .mul => strMul s k H
    | _ => .bad
  | x, y => binopO P G o x y H
/-- x op= y by values: a list grows in its place -/
def augop (o : BOp) (x y : LV) (H : LH) : R LV := match x, y with
  | .int i, .int j => match o with
    | .add => .ok (.int (i + j)) H
    | .sub => .ok (.int (i - j)) H
    | .mul => if mulOk i j then .ok (.int (i * j)) H else .bad
    | .fdiv => if 0 < j ∧ j.natAbs.log2 < 9000 then .ok (.int (i / j)) H else .bad
    | .mod => if 0 < j then .ok (.int (i % j)) H else .bad
    | _ => .bad
  | .str s, .str t => match o with
    | .add => if s.length + t.length ≤ SL then .ok (.str (s ++ t)) H else .bad
    | _ => .bad
  | .ref a, y => match o with
    | .add => match H[a]?, lstH H y with
      | some (.lst xs), some ys => if xs.length + ys.length ≤ SL then .ok (.ref a) (H.set a (.lst (xs ++ ys))) else .bad
      | _, _ => .bad
    | _ => .bad
  | _, _ => .bad
def truth (v : LV) (H : LH) : R Bool := match v with
  | .non => .ok false H
  | .bl b => .ok b H
  | .int i => .ok (i != 0) H
  | .str s => if s.length ≤ SL then .ok (!s.isEmpty) H else .bad
  | .tup xs => .ok (!xs.isEmpty) H
  | v => match lstOf H v with
    | some xs => .ok (!xs.isEmpty) H
    | none => match insOf H v with
      | some (c, _) => match P.mem c kBool with
        | some (.meth d) => (G d kBool [v] [] H).bind fun r H1 => match r with
          | .bl b => .ok b H1
          | _ => .bad
        | _ => .bad
      | none => .bad
/-- what an own == may be asked about -/
def eqArg (H : LH) : LV → Bool
  | .non | .bl _ | .int _ | .str _ | .tup _ => true
  | v => match lstOf H v with
    | some _ => true
    | none => match insOf H v with
      | some (c, _) => P.isCls c
      | none => false
/-- x in y -/
def isinV (x y : LV) (H : LH) : R LV := match insCls H y with
  | some c => (ownM P G H c kIn [y, x]).bind fun r H1 => match r with
    | .bl b => .ok (.bl b) H1
    | _ => .bad
  | none => match y with
    | .str t => match x with
      | .str [c] => .ok (.bl (decide (c ∈ t))) H
      | _ => .bad
    | y => match seqOf H y with
      | some ys => if flat x && ys.all flat then .ok (.bl (ys.any fun v => eqF v x)) H else match toD H 60 x, toD H 60 y with
        | some d, some (.lst ds) => .ok (.bl (ds.any fun z => DT.eqv z d)) H
        | _, _ => .bad
      | none => .bad
/-- a tuple of anything against () -/
def eq0 : LV → LV → Option Bool
  | .tup xs, .tup [] => some xs.isEmpty
  | _, _ => none
def cmpV (o : COp) (x y : LV) (H : LH) : R LV := match o with
  | .eq => match insCls H x with
    | some c => if eqArg P H y then ownM P G H c kEq [x, y] else .bad
    | none => match eq0 x y with
      | some b => .ok (.bl b) H
      | none => match eqv H x y with
        | some b => .ok (.bl b) H
        | none => .bad
  | .ne => match insCls H x with
    | some c => if eqArg P H y then (ownM P G H c kEq [x, y]).bind fun r H1 => match r with
        | .bl b => .ok (.bl (!b)) H1
        | _ => .bad
      else .bad
    | none => match eq0 x y with
      | some b => .ok (.bl (!b)) H
      | none => match eqv H x y with
        | some b => .ok (.bl (!b)) H
        | none => .bad
  | .lt => match x, y with
    | .int i, .int j => .ok (.bl (decide (i < j))) H
    | _, _ => .bad
  | .le => match x, y with
    | .int i, .int j => .ok (.bl (decide (i ≤ j))) H
    | _, _ => .bad
  | .gt => match x, y with
    | .int i, .int j => .ok (.bl (decide (j < i))) H
    | _, _ => .bad
  | .ge => match x, y with
    | .int i, .int j => .ok (.bl (decide (j ≤ i))) H
    | _, _ => .bad
  | .isin => isinV P G x y H
  | .notin => (isinV P G x y H).bind fun r H1 => match r with
    | .bl b => .ok (.bl (!b)) H1
    | _ => .bad
def getIx (x i : LV) (H : LH) : R LV := match i with
  | .int k => match x with
    | .str s => if s.length ≤ SL then match atI s k with
      | some c => .ok (.str [c]) H
      | none => .bad else .bad
    | x => match seqOf H x with
      | some xs => match atI xs k with
        | some v => .ok v H
        | none => .bad
      | none => .bad
  | _ => .bad
def getIxL (x i : LV) (H : LH) : R LV := match x with
  | .ref _ => getIx x i H
  | _ => .bad
def setIx (o i v : LV) (H : LH) : R Unit := match o, i with
  | .ref a, .int k => match H[a]? with
    | some (.lst xs) => match ixN xs.length k with
      | some j => .ok () (H.set a (.lst (xs.set j v)))
      | none => .bad
    | _ => .bad
  | _, _ => .bad
def partOf : List LV → Option (Option Int)
  | [] => some none
  | [.int i] => some (some i)
  | _ => none
def partR (vs : List LV) (H : LH) : R (Option Int) := match partOf vs with
  | some o => .ok o H
  | none => .bad
def getSl (x : LV) (l h : Option Int) (H : LH) : R LV := match x with
  | .str s => if s.length ≤ SL then .ok (.str (cut s l h)) H else .bad
  | .tup xs => .ok (.tup (cut xs l h)) H
  | x => match lstOf H x with
    | some xs => newF (cut xs l h) H
    | none => .bad
def getSlM (x : LV) (l h : Option Int) (H : LH) : R LV := match lstOf H x with
  | some xs => newL (cut xs l h) H
  | none => .bad
def getFld (f : Nat) (x : LV) (H : LH) : R LV := match x with
  | .err c ns vs => match P.err c with
    | some i => if f = kCode ∨ i.2 = some f then (match fget (ns.zip vs) f with
      | some v => .ok v H
      | none => .bad) else .bad
    | none => .bad
  | .gl c => if P.isCls c then (match P.mem c f with
    | some (.const v) => .ok v H
    | _ => .bad) else .bad
  | x => match insOf H x with
  | some (c, fs) => match P.mem c f with
    | some .fld => match fget fs f with
      | some v => .ok v H
      | none => .bad
    | some (.prop d) => noX (G d f [x] [] H)
    | some (.const v) => match fget fs f with
      | none => .ok v H
      | some _ => .bad
    | _ => .bad
  | none => .bad
def setFld (f : Nat) (x v : LV) (H : LH) : R Unit := match x with
  | .ref a => match H[a]? with
    | some (.ins c fs) => match P.mem c f with
      | some .fld => if fs.length < 900 then .ok () (H.set a (.ins c (fput fs f v))) else .bad
      | _ => .bad
    | _ => .bad
  | _ => .bad
/-- a new instance of the class, its __init__ called -/
def make0 (c : Nat) (args : List LV) (kws : List (Nat × LV)) (H : LH) : R LV := match P.mem c kInit with
  | some (.meth d) => (G d kInit (.ref H.length :: args) kws (H ++ [.ins c []])).bind fun r H1 => match r with
    | .non => .ok (.ref H.length) H1
    | _ => .bad
  | _ => .bad
/-! ### only read from here on: a call whose arguments hold no places but for lists and instances that are passed themselves; it sees these alone, and what it gives is only read -/
def frI (H : LH) (k : Nat) : Nat → LV → Option LV
  | 0, _ => none
  | n + 1, v => match v with
    | .tup xs => (optAll (frI H k n) xs).map .tup
    | .ref a => if a < k then none else match H[a]? with
      | some (.lst xs) => (optAll (frI H k n) xs).map .fz
      | some (.ins c fs) => (optAll (frI H k n) (fs.map (·.2))).map (.obj c (fs.map (·.1)))
      | _ => none
    | v => some v
def frO (H : LH) (rs : List Nat) : Nat → LV → Option LV
  | 0, _ => none
  | n + 1, v => match v with
    | .tup xs => (optAll (frO H rs n) xs).map .tup
    | .ref a => if a < rs.length then rs[a]?.map .ref else frI H rs.length (n + 1) v
    | v => some v
def argRef (rs : List Nat) (v : LV) : Option (LV × List Nat) := match v with
  | .ref a => if rs.contains a then some (.ref (rs.idxOf a), rs) else some (.ref rs.length, rs ++ [a])
  | v => if noRef v then some (v, rs) else none
def argRefs : List Nat → List LV → Option (List LV × List Nat)
  | rs, [] => some ([], rs)
  | rs, v :: vs => match argRef rs v with
    | some (v', rs') => match argRefs rs' vs with
      | some (vs', rs'') => some (v' :: vs', rs'')
      | none => none
    | none => none
def objOk : LO → Bool
  | .lst xs => noRefs xs
  | .ins _ fs => noRefs (fs.map (·.2))
  | .dic _ => false
def objs (H : LH) (rs : List Nat) : Option LH := optAll (fun a => match H[a]? with
  | some o => if objOk o then some o else none
  | none => none) rs
def wb (H : LH) : List Nat → LH → Option LH
  | [], _ => some H
  | a :: rs, o :: L => if objOk o then (wb H rs L).map (·.set a o) else none
  | _ :: _, [] => none
def frX (H : LH) (k : Nat) (x : LX) : Option LX := (optAll (frI H k 60) (x.fs.map (·.2))).map fun vs => ⟨x.cls, (x.fs.map (·.1)).zip vs⟩
def bnd (run : List LV → List (Nat × LV) → LH → R LV) (vs : List LV) (kws : List (Nat × LV)) (H : LH) : R LV := match argRefs [] vs with
  | none => .bad
  | some (vs', rs) => match argRefs rs (kws.map (·.2)) with
    | none => .bad
    | some (ws', rs') => match objs H rs' with
      | none => .bad
      | some L0 => match run vs' ((kws.map (·.1)).zip ws') L0 with
        | .ok v L1 => match frO L1 rs' 60 v, wb H rs' L1 with
          | some v', some H' => .ok v' H'
          | _, _ => .bad
        | .exc x L1 => match frX L1 rs'.length x, wb H rs' L1 with
          | some x', some H' => .exc x' H'
          | _, _ => .bad
        | .bad => .bad
def make (c : Nat) (args : List LV) (kws : List (Nat × LV)) (H : LH) : R LV := if P.fzc c then bnd (make0 P G c) args kws H else make0 P G c args kws H
/-- an error's fields: the last one stored stands first -/
def errFs (i : List Nat × Option Nat) (args : List LV) : Option (List (Nat × LV)) := match i.2, args with
  | none, [] => some [(kCode, .str i.1)]
  | some f, [v] => some [(f, v), (kCode, .str i.1)]
  | _, _ => none
def callG (g : Nat) (args : List LV) (kws : List (Nat × LV)) (H : LH) : R LV :=
  if P.isCls g then make P G g args kws H else match P.fn 0 g with
    | some _ => G 0 g args kws H
    | none => .bad
def boolsOf : List LV → Option (List Bool)
  | [] => some []
  | .bl b :: r => (boolsOf r).map (b :: ·)
  | _ => none
def intsOf : List LV → Option (List Int)
  | [] => some []
  | .int i :: r => (intsOf r).map (i :: ·)
  | _ => none
def call1 (b : Bl) (x : LV) (H : LH) : R LV := match b with
  | .len => match x with
    | .str s => if s.length ≤ SL then .ok (.int s.length) H else .bad
    | x => match seqOf H x with
      | some xs => .ok (.int xs.length) H
      | none => match insCls H x with
        | some c => (ownM P G H c kLen [x]).bind fun r H1 => match r with
          | .int i => if 0 ≤ i ∧ i < 2 ^ 62 then .ok (.int i) H1 else .bad
          | _ => .bad
        | none => .bad
  | .int => match x with
    | .int i => .ok (.int i) H
    | .bl b => .ok (.int (if b then 1 else 0)) H
    | _ => .bad
  | .bool => match x with
    | .int i => .ok (.bl (i != 0)) H
    | .bl b => .ok (.bl b) H
    | x => match lstOf H x with
      | some xs => .ok (.bl (!xs.isEmpty)) H
      | none => match insCls H x with
        | some c => (ownM P G H c kBool [x]).bind fun r H1 => match r with
          | .bl b => .ok (.bl b) H1
          | _ => .bad
        | none => .bad
  | .str => match x with
    | .int i => if i.natAbs.log2 < 1920 then .ok (.str (intText i)) H else .bad
    | .str s => .ok (.str s) H
    | x => match insCls H x with
      | some c => (ownM P G H c kStr [x]).bind fun r H1 => match r with
        | .str s => .ok (.str s) H1
        | _ => .bad
      | none => .bad
  | .repr => match x with
    | .int i => if i.natAbs.log2 < 1920 then .ok (.str (intText i)) H else .bad
    | x => match insCls H x with
      | some c => (ownM P G H c kRepr [x]).bind fun r H1 => match r with
        | .str s => .ok (.str s) H1
        | _ => .bad
      | none => .bad
  | .abs => match x with
    | .int i => .ok (.int (if i < 0 then -i else i)) H
    | _ => .bad
  | .sum => match (seqOf H x).bind intsOf with
    | some ns => .ok (.int ns.sum) H
    | none => .bad
  | .list => match seqOf H x with
    | some xs => newF xs H
    | none => .bad
  | .listM => match seqOf H x with
    | some xs => newL xs H
    | none => .bad
  | .tuple => match seqOf H x with
    | some xs => .ok (.tup xs) H
    | none => .bad
  | .all => match (lstOf H x).bind boolsOf with
    | some bs => .ok (.bl (bs.all id)) H
    | none => .bad
  | .any => match (lstOf H x).bind boolsOf with
    | some bs => .ok (.bl (bs.any id)) H
    | none => .bad
  | _ => .bad
def call2 (b : Bl) (x y : LV) (H : LH) : R LV := match x, y with
  | .int i, .int j => match b with
    | .max2 => .ok (.int (if j > i then j else i)) H
    | .min2 => .ok (.int (if j < i then j else i)) H
    | _ => .bad
  | _, _ => .bad
def callB (b : Bl) (args : List LV) (H : LH) : R LV := match args with
  | [x] => call1 P G b x H
  | [x, y] => call2 b x y H
  | _ => .bad
def Ty.isBlt : Ty → Bool
  | .own _ => false
  | _ => true
def tyOne (t : Ty) (v : LV) (H : LH) : Option Bool := match t with
  | .own d => if P.isCls d then (match v with
    | .non | .bl _ | .int _ | .str _ | .tup _ => some false
    | v => match lstOf H v with
      | some _ => some false
      | none => match insOf H v with
        | some (c, _) => if P.isCls c then some ((P.mro c).contains d) else none
        | none => none) else none
  | t => match v with
    | .non => some false
    | .bl _ => some (decide (t = .int) || decide (t = .bool))
    | .int _ => some (decide (t = .int))
    | .str _ => some (decide (t = .str))
    | .tup _ => some (decide (t = .tuple))
    | v => match lstOf H v with
      | some _ => some (decide (t = .list))
      | none => match insOf H v with
        | some (c, _) => if P.isCls c then some false else none
        | none => none
def tyAny (v : LV) (H : LH) : List Ty → Option Bool
  | [] => some false
  | t :: r => match tyOne P t v H with
    | some true => some true
    | some false => tyAny v H r
    | none => none
/-- methods of lists, texts; own methods -/
def kAppend : Nat := 1
def kExtend : Nat := 2
def kPop : Nat := 3
def kJoin : Nat := 10
def strsOf : List LV → Option (List (List Nat))
  | [] => some []
  | .str s :: r => (strsOf r).map (s :: ·)
  | _ => none
def joinL (sep : List Nat) : List (List Nat) → List Nat
  | [] => []
  | [x] => x
  | x :: y :: r => x ++ sep ++ joinL sep (y :: r)
/-- who answers a method call: found ahead of the arguments -/
inductive Rcv where
  | own (d : Nat) | lst | str | stat (d : Nat) | clsm (d : Nat) | no
def recv (m : Nat) (o : LV) (H : LH) : Rcv := match o with
  | .str _ => if m = kJoin then .str else .no
  | o => match insOf H o with
    | some (c, fs) => match fget fs m, P.mem c m with
      | none, some (.meth d) => .own d
      | _, _ => .no
    | none => match o with
      | .ref a => match H[a]? with
        | some (.lst _) => if m = kAppend ∨ m = kExtend ∨ m = kPop then .lst else .no
        | _ => .no
      | _ => .no
def lstM (m : Nat) (o : LV) (args : List LV) (H : LH) : R LV := match o with
  | .ref a => match H[a]? with
    | some (.lst xs) => if m = kAppend then match args with
        | [y] => if xs.length < SL then .ok .non (H.set a (.lst (xs ++ [y]))) else .bad
        | _ => .bad
      else if m = kExtend then match args with
        | [y] => match lstH H y with
          | some zs => if xs.length + zs.length ≤ SL then .ok .non (H.set a (.lst (xs ++ zs))) else .bad
          | none => .bad
        | _ => .bad
      else if m = kPop then match args with
        | [] => match xs.getLast? with
          | some y => .ok y (H.set a (.lst xs.dropLast))
          | none => .bad
        | _ => .bad
      else .bad
    | _ => .bad
  | _ => .bad
def strM (m : Nat) (o : LV) (args : List LV) (H : LH) : R LV := match o with
  | .str s => if m = kJoin then match args with
      | [x] => match (seqOf H x).bind strsOf with
        | some ys => if (ys.map (·.length)).sum + ys.length * s.length ≤ SL then .ok (.str (joinL s ys)) H else .bad
        | none => .bad
      | _ => .bad
    else .bad
  | _ => .bad
def callM (m : Nat) (rc : Rcv) (o : LV) (args : List LV) (kws : List (Nat × LV)) (H : LH) : R LV := match rc with
  | .own d => G d m (o :: args) kws H
  | .stat d => G d m args kws H
  | .clsm d => G d m (o :: args) kws H
  | .lst => if kws.isEmpty then lstM m o args H else .bad
  | .str => if kws.isEmpty then strM m o args H else .bad
  | .no => .bad
def Rcv.ok : Rcv → Bool
  | .no => false
  | _ => true
def zipK : List Nat → List LV → Option (List (Nat × LV))
  | [], [] => some []
  | k :: ks, v :: vs => (zipK ks vs).map ((k, v) :: ·)
  | _, _ => none
def wipe (σ : LS) : List Nat → LS
  | [] => σ
  | i :: r => (wipe σ r).set i none

/-! ### loops -/
def forL (nx : Nat → LH → Option (Option LV)) (asg : LV → LS → LH → R LS) (body : LS → LH → RS) : Nat → Nat → LS → LH → RS
  | 0, _, _, _ => .bad
  | n + 1, i, σ, H => match nx i H with
    | none => .bad
    | some none => .ok (.nx σ) H
    | some (some v) => RS.ofR (asg v σ H) σ fun σ1 H1 => match body σ1 H1 with
      | .ok (.nx σ2) H2 => forL nx asg body n (i + 1) σ2 H2
      | .ok (.ct σ2) H2 => forL nx asg body n (i + 1) σ2 H2
      | .ok (.bk σ2) H2 => .ok (.nx σ2) H2
      | .ok (.rt v) H2 => .ok (.rt v) H2
      | .exc x σ2 H2 => .exc x σ2 H2
      | .bad => .bad
def whlL (c : LS → LH → R Bool) (body : LS → LH → RS) : Nat → LS → LH → RS
  | 0, _, _ => .bad
  | n + 1, σ, H => RS.ofR (c σ H) σ fun b H1 => if b then match body σ H1 with
      | .ok (.nx σ2) H2 => whlL c body n σ2 H2
      | .ok (.ct σ2) H2 => whlL c body n σ2 H2
      | .ok (.bk σ2) H2 => .ok (.nx σ2) H2
      | .ok (.rt v) H2 => .ok (.rt v) H2
      | .exc x σ2 H2 => .exc x σ2 H2
      | .bad => .bad
    else .ok (.nx σ) H1
def lcL (nx : Nat → LH → Option (Option LV)) (asg : LV → LS → LH → R LS) (cond : LS → LH → R Bool) (elt : LS → LH → R LV) (σ : LS) : Nat → Nat → List LV → LH → R (List LV)
  | 0, _, _, _ => .bad
  | n + 1, i, acc, H => match nx i H with
    | none => .bad
    | some none => .ok acc H
    | some (some v) => (asg v σ H).bind fun σ1 H1 => (cond σ1 H1).bind fun b H2 => if b then (elt σ1 H2).bind fun y H3 => if acc.length < SL then lcL nx asg cond elt σ n (i + 1) (acc ++ [y]) H3 else .bad
      else lcL nx asg cond elt σ n (i + 1) acc H2

/-! ### the interpreter: all readings of a piece of syntax at once (plain structural recursion) -/
structure Dn where
  /-- an expression's value; a test; an argument list; and, or over a list as values, as tests; an f-string's parts; what is walked; a target, targets; a statement -/
  e : LS → LH → R LV := fun _ _ => .bad
  t : LS → LH → R Bool := fun _ _ => .bad
  es : LS → LH → R (List LV) := fun _ _ => .bad
  an : LS → LH → R LV := fun _ _ => .bad
  orr : LS → LH → R LV := fun _ _ => .bad
  ta : LS → LH → R Bool := fun _ _ => .bad
  to : LS → LH → R Bool := fun _ _ => .bad
  fs : List Nat → LS → LH → R (List Nat) := fun _ _ _ => .bad
  i : LS → LH → R LIt := fun _ _ => .bad
  g : LV → LS → LH → R LS := fun _ _ _ => .bad
  gs : List LV → LS → LH → R LS := fun _ _ _ => .bad
  s : LS → LH → RS := fun _ _ => .bad
  nil : Bool := false
/-- an expression whose test is its value's truth -/
def ofE (f : LS → LH → R LV) : Dn := { e := f, t := fun σ H => (f σ H).bind fun v H1 => truth P G v H1 }
def fmtOf (v : LV) (H : LH) : R LV := match v with
  | .str s => if s.length ≤ SL then .ok (.str s) H else .bad
  | .int i => if i.natAbs.log2 < 1920 then .ok (.str (intText i)) H else .bad
  | _ => .bad
def rngOf (vs : List LV) (H : LH) : R LIt := match vs with
  | [.int j] => if -(2 ^ 62) ≤ j ∧ j < 2 ^ 62 then .ok (.r 0 1 j.toNat) H else .bad
  | [.int i, .int j] => if -(2 ^ 62) ≤ i ∧ i < 2 ^ 62 ∧ -(2 ^ 62) ≤ j ∧ j < 2 ^ 62 then .ok (.r i 1 (j - i).toNat) H else .bad
  | [.int i, .int j, .int c] => if c = -1 ∧ -(2 ^ 62) ≤ i ∧ i < 2 ^ 62 ∧ -(2 ^ 62) ≤ j ∧ j < 2 ^ 62 then .ok (.r i (-1) (i - j).toNat) H else .bad
  | _ => .bad
def itvOf (x : LV) (H : LH) : R LIt := match x with
  | .tup xs => .ok (.t xs) H
  | .str s => .ok (.s s) H
  | x => match lstOf H x with
    | some _ => .ok (.l x) H
    | none => .bad
def iteOf (x : LV) (H : LH) : R LIt := match x with
  | .tup xs => .ok (.et xs) H
  | x => match lstOf H x with
    | some _ => .ok (.el x) H
    | none => .bad
def itbOf (x : LV) (H : LH) : R LIt := match x with
  | .tup xs => .ok (.bt xs) H
  | x => match lstOf H x with
    | some xs => .ok (.bl x xs.length) H
    | none => .bad
def itzOf (x y : LV) (H : LH) : R LIt := match x, y with
  | .tup xs, .tup ys => .ok (.zt xs ys) H
  | x, y => match lstOf H x, lstOf H y with
    | some _, some _ => .ok (.z x y) H
    | _, _ => .bad
def negOf (x : LV) (H : LH) : R LV := match x with
  | .int i => .ok (.int (-i)) H
  | x => match insCls H x with
    | some c => ownM P G H c kNeg [x]
    | none => .bad
def revOf (x : LV) (H : LH) : R LV := match lstOf H x with
  | some xs => newF xs.reverse H
  | none => .bad
def isNone : LV → Bool
  | .non => true
  | _ => false
/-- an error's code and its field -/
def errV (i : List Nat × Option Nat) (fs : List (Nat × LV)) : Option LV := match i.2, fs with
  | none, [(k, .str c)] => if k = kCode ∧ c = i.1 then some (.tup []) else none
  | some f, [(g, v), (k, .str c)] => if g = f ∧ k = kCode ∧ c = i.1 then some (.tup [v]) else none
  | _, _ => none
def whyOf (x : LX) (H : LH) : R LV := match P.err x.cls with
  | some i => (match errV i x.fs with
    | some w => .ok (.tup [.str i.1, w]) H
    | none => .bad)
  | none => .bad
def isiOf (ts : List Ty) (x : LV) (H : LH) : R LV := match tyAny P x H ts with
  | some b => .ok (.bl b) H
  | none => .bad
def maxL : List Int → Int → Int
  | [], d => d
  | n :: ns, _ => ns.foldl (fun a y => if decide (a < y) = true then y else a) n
def maxD (x y : LV) (H : LH) : R LV := match (lstOf H x).bind intsOf, y with
  | some ns, .int d => .ok (.int (maxL ns d)) H
  | _, _ => .bad
def chainK (k : LS → LH → R LV) (σ : LS) (r : LV) (H : LH) : R LV := match r with
  | .bl b => if b then k σ H else .ok (.bl false) H
  | _ => .bad
def den : E → Dn
  | .var i => ofE P G fun σ H => match σ[i]? with
    | some (some v) => .ok v H
    | _ => .bad
  | .int i => ofE P G fun _ H => .ok (.int i) H
  | .bl b => ofE P G fun _ H => .ok (.bl b) H
  | .non => ofE P G fun _ H => .ok .non H
  | .str s => ofE P G fun _ H => .ok (.str s) H
  | .con g => ofE P G fun _ H => match P.con g with
    | some v => .ok v H
    | none => .bad
  | .glo g => ofE P G fun _ H => .ok (.gl g) H
  | .tup es => ofE P G fun σ H => ((den es).es σ H).bind fun vs H1 => if vs.length ≤ SL then .ok (.tup vs) H1 else .bad
  | .lst es => ofE P G fun σ H => ((den es).es σ H).bind newF
  | .lstM es => ofE P G fun σ H => ((den es).es σ H).bind newL
  | .bin o a b => ofE P G fun σ H => ((den a).e σ H).bind fun x H1 => ((den b).e σ H1).bind fun y H2 => binop P G o x y H2
  | .neg a => ofE P G fun σ H => ((den a).e σ H).bind (negOf P G)
  | .not a => { e := fun σ H => (((den a).e σ H).bind fun v H1 => truth P G v H1).bind fun b H1 => .ok (.bl (!b)) H1, t := fun σ H => ((den a).t σ H).bind fun b H1 => .ok (!b) H1 }
  | .cmp o a b => ofE P G fun σ H => ((den a).e σ H).bind fun x H1 => ((den b).e σ H1).bind fun y H2 => cmpV P G o x y H2
  | .chain o o2 a b c => ofE P G fun σ H => ((den a).e σ H).bind fun x H1 => ((den b).e σ H1).bind fun y H2 => (cmpV P G o x y H2).bind fun r H3 =>
      chainK (fun σ H3 => ((den c).e σ H3).bind fun z H4 => cmpV P G o2 y z H4) σ r H3
  | .isN a => ofE P G fun σ H => ((den a).e σ H).bind fun x H1 => .ok (.bl (isNone x)) H1
  | .notN a => ofE P G fun σ H => ((den a).e σ H).bind fun x H1 => .ok (.bl (!isNone x)) H1
  | .and es => { e := (den es).an, t := (den es).ta }
  | .or es => { e := (den es).orr, t := (den es).to }
  | .ife c a b => { e := fun σ H => ((den c).t σ H).bind fun k H1 => if k then (den a).e σ H1 else (den b).e σ H1, t := fun σ H => ((den c).t σ H).bind fun k H1 => if k then (den a).t σ H1 else (den b).t σ H1 }
  | .fld f a => ofE P G fun σ H => ((den a).e σ H).bind fun x H1 => getFld P G f x H1
  | .ix a i => ofE P G fun σ H => ((den a).e σ H).bind fun x H1 => ((den i).e σ H1).bind fun y H2 => getIx x y H2
  | .slc a lo hi => ofE P G fun σ H => ((den a).e σ H).bind fun x H1 => (((den lo).es σ H1).bind partR).bind fun l H2 => (((den hi).es σ H2).bind partR).bind fun h H3 => getSl x l h H3
  | .slcM a lo hi => ofE P G fun σ H => ((den a).e σ H).bind fun x H1 => (((den lo).es σ H1).bind partR).bind fun l H2 => (((den hi).es σ H2).bind partR).bind fun h H3 => getSlM x l h H3
  | .rev a => ofE P G fun σ H => ((den a).e σ H).bind revOf
  | .call g es ks kes => ofE P G fun σ H => ((den es).es σ H).bind fun vs H1 => ((den kes).es σ H1).bind fun ws H2 => match zipK ks ws with
    | some kws => callG P G g vs kws H2
    | none => .bad
  | .blt b es => ofE P G fun σ H => ((den es).es σ H).bind fun vs H1 => callB P G b vs H1
  | .met m o es ks kes => ofE P G fun σ H => ((den o).e σ H).bind fun x H1 => if (recv P m x H1).ok then ((den es).es σ H1).bind fun vs H2 => ((den kes).es σ H2).bind fun ws H3 => (match zipK ks ws with
    | some kws => callM G m (recv P m x H1) x vs kws H3
    | none => .bad) else .bad
  | .isi a ts => ofE P G fun σ H => ((den a).e σ H).bind (isiOf P ts)
  | .lc elt tg it cond own => ofE P G fun σ H => ((den it).i σ H).bind fun J H1 => (noX (lcL (fun i H => J.nx H i) (den tg).g (den cond).t (den elt).e (wipe σ own) P.loops 0 [] H1)).bind fun xs H2 => if noRefs xs then .ok (.fz xs) H2 else .bad
  | .lcM elt tg it cond own => ofE P G fun σ H => ((den it).i σ H).bind fun J H1 => (noX (lcL (fun i H => J.nx H i) (den tg).g (den cond).t (den elt).e (wipe σ own) P.loops 0 [] H1)).bind fun xs H2 => .ok (.ref H2.length) (H2 ++ [.lst xs])
  | .fst es => ofE P G fun σ H => ((den es).fs [] σ H).bind fun s H1 => .ok (.str s) H1
  | .fmt a => ofE P G fun σ H => ((den a).e σ H).bind fmtOf
  | .nil => { es := fun _ H => .ok [] H, t := fun _ H => .ok true H, ta := fun _ H => .ok true H, to := fun _ H => .ok false H, fs := fun acc _ H => .ok acc H, gs := fun xs σ H => (match xs with
      | [] => .ok σ H
      | _ => .bad), nil := true }
  | .cons a r => { es := fun σ H => ((den a).e σ H).bind fun v H1 => ((den r).es σ H1).bind fun vs H2 => .ok (v :: vs) H2,
                   an := fun σ H => if (den r).nil then (den a).e σ H else ((den a).e σ H).bind fun v H1 => (truth P G v H1).bind fun b H2 => if b then (den r).an σ H2 else .ok v H2,
                   orr := fun σ H => if (den r).nil then (den a).e σ H else ((den a).e σ H).bind fun v H1 => (truth P G v H1).bind fun b H2 => if b then .ok v H2 else (den r).orr σ H2,
                   ta := fun σ H => ((den a).t σ H).bind fun b H1 => if b then (den r).ta σ H1 else .ok false H1,
                   to := fun σ H => ((den a).t σ H).bind fun b H1 => if b then .ok true H1 else (den r).to σ H1,
                   fs := fun acc σ H => ((den a).e σ H).bind fun v H1 => (match v with
                     | .str s => if acc.length + s.length ≤ SL then (den r).fs (acc ++ s) σ H1 else .bad
                     | _ => .bad),
                   gs := fun xs σ H => (match xs with
                     | [] => .bad
                     | x :: xs => noX (((den a).g x σ H).bind fun σ1 H1 => (den r).gs xs σ1 H1)) }
  | .star a r => { es := fun σ H => ((den a).e σ H).bind fun v H1 => match seqOf H1 v with
      | some xs => ((den r).es σ H1).bind fun vs H2 => .ok (xs ++ vs) H2
      | none => .bad }
  | .itv a => { i := fun σ H => ((den a).e σ H).bind itvOf }
  | .itr es => { i := fun σ H => ((den es).es σ H).bind rngOf }
  | .ite a => { i := fun σ H => ((den a).e σ H).bind iteOf }
  | .itz a b => { i := fun σ H => ((den a).e σ H).bind fun x H1 => ((den b).e σ H1).bind fun y H2 => itzOf x y H2 }
  | .itb a => { i := fun σ H => ((den a).e σ H).bind itbOf }
  | .tnm i => { g := fun v σ H => if i < σ.length then .ok (σ.set i (some v)) H else .bad }
  | .ttp ts => { g := fun v σ H => match seqOf H v with
      | some xs => (den ts).gs xs σ H
      | none => .bad }
  | .tfl f o => { g := fun v σ H => ((den o).e σ H).bind fun x H1 => (setFld P f x v H1).bind fun _ H2 => .ok σ H2 }
  | .tix o i => { g := fun v σ H => ((den o).e σ H).bind fun x H1 => ((den i).e σ H1).bind fun y H2 => (setIx x y v H2).bind fun _ H3 => .ok σ H3 }
  | .skip => { s := fun σ H => .ok (.nx σ) H }
  | .seq a b => { s := fun σ H => match (den a).s σ H with
      | .ok (.nx σ1) H1 => (den b).s σ1 H1
      | r => r }
  | .ex a => { s := fun σ H => RS.ofR ((den a).e σ H) σ fun _ H1 => .ok (.nx σ) H1 }
  | .asg t a => { s := fun σ H => RS.ofR ((den a).e σ H) σ fun v H1 => RS.ofR ((den t).g v σ H1) σ fun σ1 H2 => .ok (.nx σ1) H2 }
  | .augn o i a => { s := fun σ H => match σ[i]? with
      | some (some x) => if i < σ.length then RS.ofR ((den a).e σ H) σ fun y H1 => RS.ofR (augop o x y H1) σ fun z H2 => .ok (.nx (σ.set i (some z))) H2 else .bad
      | _ => .bad }
  | .augx o a i b => { s := fun σ H => RS.ofR ((den a).e σ H) σ fun x H1 => RS.ofR ((den i).e σ H1) σ fun k H2 => RS.ofR (getIxL x k H2) σ fun old H3 => RS.ofR ((den b).e σ H3) σ fun y H4 => RS.ofR (augop o old y H4) σ fun z H5 => RS.ofR (setIx x k z H5) σ fun _ H6 => .ok (.nx σ) H6 }
  | .ret a => { s := fun σ H => RS.ofR ((den a).e σ H) σ fun v H1 => .ok (.rt v) H1 }
  | .iff c a b => { s := fun σ H => RS.ofR ((den c).t σ H) σ fun k H1 => if k then (den a).s σ H1 else (den b).s σ H1 }
  | .whl c b => { s := fun σ H => whlL (den c).t (den b).s P.loops σ H }
  | .for t it b => { s := fun σ H => RS.ofR ((den it).i σ H) σ fun J H1 => forL (fun i H => J.nx H i) (den t).g (den b).s P.loops 0 σ H1 }
  | .brk => { s := fun σ H => .ok (.bk σ) H }
  | .cnt => { s := fun σ H => .ok (.ct σ) H }
  | .rse c es => { s := fun σ H => RS.ofR ((den es).es σ H) σ fun vs H1 => match P.err c with
      | some i => (match errFs i vs with
        | some fs => .exc ⟨c, fs⟩ σ H1
        | none => .bad)
      | none => .bad }
  | .mxd a d => ofE P G fun σ H => ((den a).e σ H).bind fun x H1 => ((den d).e σ H1).bind fun y H2 => maxD x y H2
  | .why a => ofE P G fun σ H => match (den a).e σ H with
      | .ok v H1 => .ok (.tup [.str [116, 111, 108, 100], v]) H1
      | .exc x H1 => whyOf P x H1
      | .bad => .bad
  | .wall => {}
end

/-! ### calls -/
def allGet (sl : List (Nat × LV)) : List Nat → Option (List LV)
  | [] => some []
  | p :: ps => match fget sl p, allGet sl ps with
    | some v, some vs => some (v :: vs)
    | _, _ => none
/-- the defaults fill up -/
def fillL (sl : List (Nat × LV)) : List (Nat × LV) → List (Nat × LV)
  | [] => sl
  | (n, d) :: r => match fget sl n with
    | none => fillL (sl ++ [(n, d)]) r
    | some _ => fillL sl r
/-- keywords that name parameters which are not given yet -/
def kwGood (ps : List Nat) (sl : List (Nat × LV)) : List (Nat × LV) → Bool
  | [] => true
  | (n, v) :: r => ps.contains n && ((fget sl n).isNone && kwGood ps (sl ++ [(n, v)]) r)
/-- positional, then keywords, then defaults; the star's tuple behind the parameters -/
def Sig.bind (s : Sig) (vs : List LV) (kws : List (Nat × LV)) : Option (List LV) :=
  if s.star then (if kws.isEmpty && s.ds.isEmpty && s.ko.isEmpty && decide (s.ps.length ≤ vs.length) && decide (vs.length ≤ SL) then some (vs.take s.ps.length ++ [.tup (vs.drop s.ps.length)]) else none)
  else if s.ko.isEmpty && decide (vs.length ≤ s.ps.length) && decide (s.ds.length ≤ s.ps.length) && kwGood s.ps (s.ps.zip vs) kws && (s.ps.take (s.ps.length - s.ds.length)).all (fun n => (fget (s.ps.zip vs ++ kws) n).isSome) then
    allGet (fillL (s.ps.zip vs ++ kws) ((s.ps.drop (s.ps.length - s.ds.length)).zip s.ds)) s.ps
  else none
/-- one function's run -/
def runFn (P : Prog) (G : Gam) (f : Fn) (vs : List LV) (kws : List (Nat × LV)) (H : LH) : R LV := match f.sig.bind vs kws with
  | none => .bad
  | some us => if us.length ≤ f.slots then match (den P G f.body).s (us.map some ++ List.replicate (f.slots - us.length) none) H with
    | .ok (.nx _) H1 => .ok .non H1
    | .ok (.rt v) H1 => .ok v H1
    | .exc x _ H1 => .exc x H1
    | _ => .bad
    else .bad
def gam (P : Prog) : Nat → Gam
  | 0 => fun _ _ _ _ _ => .bad
  | n + 1 => fun c m vs kws H => match P.fn c m with
    | none => .bad
    | some f => if f.fz then bnd (runFn P (gam P n) f) vs kws H else runFn P (gam P n) f vs kws H
end PM

set_option Elab.async false
set_option linter.all false
set_option autoImplicit false
/-! # PM1: the relation between the logical heap and the hand layer's abstract heap -/
namespace PM
open PySem PySem.Spec PyProof.Rows
open L2 hiding St
abbrev St := L2.St

/-- where the places stand; B: what is changed by places (a value that is only read stands elsewhere) -/
structure Inj where
  m : Nat → Option Addr
  B : Addr → Prop
  hb : ∀ a p, m a = some p → B p
instance : CoeFun Inj (fun _ => Nat → Option Addr) := ⟨Inj.m⟩
/-- no places -/
def Inj.off (f : Inj) : Inj := ⟨fun _ => none, f.B, fun _ _ h => nomatch h⟩
/-- the name of an id -/
def nm (NM : List Str) (i : Nat) : Str := NM.getD i Str.empty
def strV (s : List Nat) : V := .str ⟨s.toArray⟩

/-- a list that is only read -/
def FzL (f : Inj) (H : Hp) (p : Addr) (vs : List V) : Prop := H p = some (.lst vs) ∧ ¬ f.B p
/-- the script -/
def ScL (K : PySem.W.Frag) (f : Inj) (H : Hp) (p : Addr) (vs : List V) : Prop := FzL f H p vs ∨ (∃ o, H p = some (.frz o (.lst vs))) ∨
    ∃ (o : Obj) (its : Array Value) (n : Nat), K.lookup p = some o ∧ o.cls = .type "list" ∧ o.dict = none ∧ o.data = .seq its n ∧ its.size ≤ sizeLine ∧ Vals vs its.toList
theorem FzL.sql {K : PySem.W.Frag} {f : Inj} {H : Hp} {p : Addr} {vs : List V} (h : FzL f H p vs) : SqL K H p vs := .inl (.inl h.1)
theorem ScL.sql {K : PySem.W.Frag} {f : Inj} {H : Hp} {p : Addr} {vs : List V} (h : ScL K f H p vs) : SqL K H p vs := h.elim (fun h => h.sql) fun h => h.elim (fun h => .inl (.inr h)) .inr
/-- an error as a value: its class, where it stands, its dict's place -/
def ErrO (cls : Value) (a d : Addr) : HO := .ext fun h => ∃ (oe : Obj) (vs : Array Value), h.get? a = some oe ∧ oe.cls = cls ∧ oe.dict = some d ∧ oe.data = .fields vs
section
variable (K : PySem.W.Frag) (NM : List Str)
mutual
def VR (f : Inj) (H : Hp) : LV → V → Prop
  | .non, v => v = .non
  | .bl b, v => v = .bl b
  | .int i, v => v = .int i
  | .str s, v => v = strV s
  | .tup xs, v => ∃ p vs, v = .ref p ∧ SqT K H p vs ∧ VRs f H xs vs
  | .ref a, v => ∃ p, v = .ref p ∧ f a = some p
  | .gl g, v => v = .ref (He.ga K (nm NM g))
  | .fz xs, v => ∃ p vs, v = .ref p ∧ FzL f H p vs ∧ VRs f.off H xs vs
  | .scr xs, v => ∃ p vs, v = .ref p ∧ ScL K f H p vs ∧ VRs f.off H xs vs
  | .obj c ns xs, v => ∃ p dx vs, v = .ref p ∧ H p = some (.ins (He.ga K (nm NM c)) dx ((ns.map (nm NM)).zip vs)) ∧ ¬ f.B p ∧ ns.length = xs.length ∧ (∀ n ∈ ns, n < NM.length) ∧ VRs f.off H xs vs
  | .dct _ _, _ => False
  | .clo _ _, _ => False
  | .err c ns xs, v => ∃ p dd vs, v = .ref p ∧ H p = some (ErrO (.ref (He.ga K (nm NM c))) p dd) ∧ ¬ f.B p ∧ H dd = some (.xd ((ns.map (nm NM)).zip vs)) ∧ ¬ f.B dd ∧ ns.length = xs.length ∧ (∀ n ∈ ns, n < NM.length) ∧ VRs f.off H xs vs
def VRs (f : Inj) (H : Hp) : List LV → List V → Prop
  | [], vs => vs = []
  | x :: xs, vs => ∃ w ws, vs = w :: ws ∧ VR f H x w ∧ VRs f H xs ws
end
/-- fields: by name -/
def FR (f : Inj) (H : Hp) : List (Nat × LV) → List (Str × V) → Prop
  | [], gs => gs = []
  | (n, x) :: fs, gs => ∃ w ws, gs = (nm NM n, w) :: ws ∧ n < NM.length ∧ VR K NM f H x w ∧ FR f H fs ws
/-- an object -/
def OR (f : Inj) (H : Hp) (p : Addr) : LO → Prop
  | .lst xs => ∃ vs, H p = some (.lst vs) ∧ VRs K NM f H xs vs
  | .ins c fs => ∃ dx gs, H p = some (.ins (He.ga K (nm NM c)) dx gs) ∧ FR K NM f H fs gs
  | .dic _ => False
/-- the names of the defs that make lambdas: behind the fixed ones, up to a stroke -/
def lamNames : List Str := (NM.drop 26).takeWhile (fun x => !(x == ("|" : Str)))
/-- the code object of a def, its table -/
def codeOf (a : Addr) : Addr := match K.lookup a with
  | some ⟨_, _, .func fd, _⟩ => (match fd.code with
    | .ref c => c
    | _ => 0)
  | _ => 0
def tabOf (c : Addr) : Addr := match K.lookup c with
  | some ⟨_, _, .fields us, _⟩ => (match us.toList[11]? with
    | some (Value.ref t) => t
    | _ => 0)
  | _ => 0
def lamQ (x : Str) : Str := x ++ ".<locals>." ++ "<lambda>"
def LT : List (Addr × Str) := (lamNames NM).map fun x => (tabOf K (codeOf K (He.ga K x)), lamQ x)
/-- something stands there, no table; nothing but a table perhaps -/
def Th (H : Hp) (p : Addr) : Prop := ∃ o, H p = some o ∧ ∀ ps, o ≠ .tbl ps
def Nw (H : Hp) (p : Addr) : Prop := ¬ Th H p
structure RelH (f : Inj) (L : LH) (H : Hp) : Prop where
  inj : ∀ a b p, f a = some p → f b = some p → a = b
  dom : ∀ a p, f a = some p → a < L.length
  obj : ∀ a o, L[a]? = some o → ∃ p, f a = some p ∧ OR K NM f H p o
  bn : ∀ p, f.B p → Th H p
  tab : LamX.Tabs (LT K NM) H
/-- the slots -/
def SR (f : Inj) (H : Hp) (l : LS) (σ : St) : Prop := l.length = σ.length ∧ ∀ (i : Nat) (x : LV), l[i]? = some (some x) → ∃ v, σ[i]? = some (some v) ∧ VR K NM f H x v
end
/-- the heap goes on: what is not ours stands -/
structure Ext (f : Inj) (H : Hp) (f' : Inj) (H' : Hp) : Prop where
  sub : ∀ a p, f a = some p → f' a = some p
  new : ∀ a p, f' a = some p → f a = some p ∨ Nw H p
  keep : ∀ q, Th H q → Th H' q
  fr : ∀ q o, H q = some o → (∀ ps, o ≠ .tbl ps) → (∀ a, f a ≠ some q) → H' q = some o
  tup : ∀ q xs, H q = some (.tup xs) → H' q = some (.tup xs)
  frz : ∀ q o u, H q = some (.frz o u) → H' q = some (.frz o u)
  bs : ∀ q, f.B q → f'.B q
  bw : ∀ q, f'.B q → f.B q ∨ Nw H q
theorem Ext.refl (f : Inj) (H : Hp) : Ext f H f H := ⟨fun _ _ e => e, fun _ _ e => .inl e, fun _ e => e, fun _ _ e _ _ => e, fun _ _ e => e, fun _ _ _ e => e, fun _ e => e, fun _ e => .inl e⟩
theorem nw_none {H : Hp} {p : Addr} (h : H p = none) : Nw H p := fun ⟨o, e, _⟩ => by rw [h] at e; cases e
theorem nw_no {H : Hp} {p : Addr} {o : HO} (n : Nw H p) (e : H p = some o) (t : ∀ ps, o ≠ .tbl ps) : False := n ⟨o, e, t⟩
theorem th_lst {H : Hp} {p : Addr} {vs : List V} (e : H p = some (.lst vs)) : Th H p := ⟨_, e, fun _ z => nomatch z⟩
theorem th_put {H : Hp} {p : Addr} {u : HO} (hp : H p = none) {q : Addr} (t : Th H q) : Th (upd H p u) q := by
  obtain ⟨o, e, n⟩ := t
  exact ⟨o, by rw [upd_ne (ne_of_none e hp)]; exact e, n⟩
theorem keep_none {H H1 : Hp} (k : ∀ q, Th H q → Th H1 q) {p : Addr} (h : Nw H1 p) : Nw H p := fun t => h (k p t)
theorem Ext.trans {f f1 f2 : Inj} {H H1 H2 : Hp} (a : Ext f H f1 H1) (b : Ext f1 H1 f2 H2) : Ext f H f2 H2 where
  sub := fun x p e => b.sub x p (a.sub x p e)
  new := fun x p e => (b.new x p e).elim (a.new x p) fun h => .inr (keep_none a.keep h)
  keep := fun q e => b.keep q (a.keep q e)
  fr := fun q o e t n => b.fr q o (a.fr q o e t n) t fun x z => by
    rcases a.new x q z with h | h
    · exact n x h
    · exact nw_no h e t
  tup := fun q xs e => b.tup q xs (a.tup q xs e)
  frz := fun q o u e => b.frz q o u (a.frz q o u e)
  bs := fun q e => b.bs q (a.bs q e)
  bw := fun q e => (b.bw q e).elim (a.bw q) fun h => .inr (keep_none a.keep h)
/-- what values lean on -/
structure Mo (f : Inj) (H : Hp) (f' : Inj) (H' : Hp) : Prop where
  sub : ∀ a p, f a = some p → f' a = some p
  tup : ∀ q xs, H q = some (.tup xs) → H' q = some (.tup xs)
  frz : ∀ q o u, H q = some (.frz o u) → H' q = some (.frz o u)
  un : ∀ q o, H q = some o → (∀ ps, o ≠ .tbl ps) → ¬ f.B q → H' q = some o ∧ ¬ f'.B q
theorem Ext.mo {f f' : Inj} {H H' : Hp} (e : Ext f H f' H') : Mo f H f' H' := ⟨e.sub, e.tup, e.frz, fun q o h t n => ⟨e.fr q o h t fun a z => n (f.hb a q z), fun z => (e.bw q z).elim n fun y => nw_no y h t⟩⟩
theorem Mo.offs {f f' : Inj} {H H' : Hp} (e : Mo f H f' H') : Mo f.off H f'.off H' := ⟨fun _ _ h => (nomatch h), e.tup, e.frz, e.un⟩
/-- a value without places, with places -/
theorem Mo.on (f : Inj) (H : Hp) : Mo f.off H f H := ⟨fun _ _ h => (nomatch h), fun _ _ h => h, fun _ _ _ h => h, fun _ _ h _ n => ⟨h, n⟩⟩
section
variable {K : PySem.W.Frag} {NM : List Str} {f f' : Inj} {H H' : Hp}
theorem Mo.sqT (e : Mo f H f' H') {p : Addr} {vs : List V} (h : SqT K H p vs) : SqT K H' p vs := by
  rcases h with (h | ⟨o, h⟩) | h
  · exact .inl (.inl (e.tup _ _ h))
  · exact .inl (.inr ⟨o, e.frz _ _ _ h⟩)
  · exact .inr h
theorem FzL.mono (e : Mo f H f' H') {p : Addr} {vs : List V} (h : FzL f H p vs) : FzL f' H' p vs := e.un _ _ h.1 (fun _ z => nomatch z) h.2
theorem ScL.mono (e : Mo f H f' H') {p : Addr} {vs : List V} (h : ScL K f H p vs) : ScL K f' H' p vs := h.elim (fun z => .inl (z.mono e)) fun h => .inr (h.elim (fun ⟨o, z⟩ => .inl ⟨o, e.frz _ _ _ z⟩) .inr)
mutual
theorem VR.mono : ∀ {f f' : Inj} (e : Mo f H f' H') (x : LV) (v : V), VR K NM f H x v → VR K NM f' H' x v
  | _, _, e, .non, _, h => h
  | _, _, e, .bl _, _, h => h
  | _, _, e, .int _, _, h => h
  | _, _, e, .str _, _, h => h
  | _, _, e, .tup xs, _, h => by
    obtain ⟨p, vs, e1, e2, e3⟩ := h
    exact ⟨p, vs, e1, e.sqT e2, VRs.mono e xs vs e3⟩
  | _, _, e, .ref a, _, h => by
    obtain ⟨p, e1, e2⟩ := h
    exact ⟨p, e1, e.sub a p e2⟩
  | _, _, e, .gl _, _, h => h
  | _, _, e, .fz xs, _, h => by
    obtain ⟨p, vs, e1, e2, e3⟩ := h
    exact ⟨p, vs, e1, e2.mono e, VRs.mono e.offs xs vs e3⟩
  | _, _, e, .scr xs, _, h => by
    obtain ⟨p, vs, e1, e2, e3⟩ := h
    exact ⟨p, vs, e1, e2.mono e, VRs.mono e.offs xs vs e3⟩
  | _, _, e, .obj c ns xs, _, h => by
    obtain ⟨p, dx, vs, e1, e2, e3, e4, e5, e6⟩ := h
    obtain ⟨u1, u2⟩ := e.un _ _ e2 (fun _ z => nomatch z) e3
    exact ⟨p, dx, vs, e1, u1, u2, e4, e5, VRs.mono e.offs xs vs e6⟩
  | _, _, e, .dct _ _, _, h => h.elim
  | _, _, e, .clo _ _, _, h => h.elim
  | _, _, e, .err c ns xs, _, h => by
    obtain ⟨p, dd, vs, e1, e2, e3, e4, e5, e6, e7, e8⟩ := h
    obtain ⟨u1, u2⟩ := e.un _ _ e2 (fun _ z => nomatch z) e3
    obtain ⟨u3, u4⟩ := e.un _ _ e4 (fun _ z => nomatch z) e5
    exact ⟨p, dd, vs, e1, u1, u2, u3, u4, e6, e7, VRs.mono e.offs xs vs e8⟩
theorem VRs.mono : ∀ {f f' : Inj} (e : Mo f H f' H') (xs : List LV) (vs : List V), VRs K NM f H xs vs → VRs K NM f' H' xs vs
  | _, _, e, [], _, h => h
  | _, _, e, x :: xs, _, h => by
    obtain ⟨w, ws, e1, e2, e3⟩ := h
    exact ⟨w, ws, e1, VR.mono e x w e2, VRs.mono e xs ws e3⟩
end
theorem VRs.on {xs : List LV} {vs : List V} (h : VRs K NM f.off H xs vs) : VRs K NM f H xs vs := VRs.mono (Mo.on f H) xs vs h
/-! without places it stands without them -/
mutual
theorem VR.offN : ∀ {x : LV} {v : V}, noRef x = true → VR K NM f H x v → VR K NM f.off H x v
  | .non, _, _, h => h
  | .bl _, _, _, h => h
  | .int _, _, _, h => h
  | .str _, _, _, h => h
  | .tup xs, _, n, h => by
    obtain ⟨p, vs, e1, e2, e3⟩ := h
    unfold noRef at n
    exact ⟨p, vs, e1, e2, VRs.offN n e3⟩
  | .ref a, _, n, h => by unfold noRef at n; cases n
  | .gl _, _, _, h => h
  | .fz xs, _, _, h => h
  | .scr xs, _, _, h => h
  | .obj c ns xs, _, _, h => h
  | .dct _ _, _, _, h => h.elim
  | .clo _ _, _, _, h => h.elim
  | .err _ _ _, _, _, h => h
theorem VRs.offN : ∀ {xs : List LV} {vs : List V}, noRefs xs = true → VRs K NM f H xs vs → VRs K NM f.off H xs vs
  | [], _, _, h => h
  | x :: xs, _, n, h => by
    obtain ⟨w, ws, e1, e2, e3⟩ := h
    unfold noRefs at n
    rw [Bool.and_eq_true] at n
    exact ⟨w, ws, e1, VR.offN n.1 e2, VRs.offN n.2 e3⟩
end
theorem FR.mono (e : Mo f H f' H') : ∀ (fs : List (Nat × LV)) (gs : List (Str × V)), FR K NM f H fs gs → FR K NM f' H' fs gs
  | [], _, h => h
  | (n, x) :: fs, _, h => by
    obtain ⟨w, ws, e1, e2, e3, e4⟩ := h
    exact ⟨w, ws, e1, e2, VR.mono e x w e3, FR.mono e fs ws e4⟩
theorem SR.mono (e : Mo f H f' H') {l : LS} {σ : St} (h : SR K NM f H l σ) : SR K NM f' H' l σ := ⟨h.1, fun i x q => by
  obtain ⟨v, e1, e2⟩ := h.2 i x q
  exact ⟨v, e1, VR.mono e x v e2⟩⟩
theorem SR.set {l : LS} {σ : St} (h : SR K NM f H l σ) {i : Nat} {x : LV} {v : V} (r : VR K NM f H x v) : SR K NM f H (l.set i (some x)) (σ.set i (some v)) := by
  refine ⟨by simp [h.1], fun j y q => ?_⟩
  by_cases hj : j = i
  · subst hj
    by_cases hl : j < l.length
    · rw [List.getElem?_set_self hl] at q
      cases q
      exact ⟨v, by rw [List.getElem?_set_self (by rw [← h.1]; exact hl)], r⟩
    · rw [List.getElem?_eq_none (by simpa using hl)] at q
      cases q
  · rw [List.getElem?_set_ne (Ne.symm hj)] at q
    obtain ⟨w, e1, e2⟩ := h.2 j y q
    exact ⟨w, by rw [List.getElem?_set_ne (Ne.symm hj)]; exact e1, e2⟩
theorem VRs.length : ∀ {xs : List LV} {vs : List V}, VRs K NM f H xs vs → xs.length = vs.length
  | [], _, h => by cases (show _ = [] from h); rfl
  | x :: xs, _, h => by
    obtain ⟨w, ws, e1, _, e3⟩ := h
    rw [e1, List.length_cons, List.length_cons, VRs.length e3]
theorem VRs.get : ∀ {xs : List LV} {vs : List V} {i : Nat} {x : LV}, VRs K NM f H xs vs → xs[i]? = some x → ∃ v, vs[i]? = some v ∧ VR K NM f H x v
  | [], _, _, _, _, q => by simp at q
  | y :: xs, _, i, x, h, q => by
    obtain ⟨w, ws, e1, e2, e3⟩ := h
    subst e1
    cases i with
    | zero => simp at q; subst q; exact ⟨w, by simp, e2⟩
    | succ i => simp at q; obtain ⟨v, a, b⟩ := VRs.get e3 q; exact ⟨v, by simpa using a, b⟩
theorem VRs.nil : VRs K NM f H [] [] := rfl
theorem VRs.cons {x : LV} {xs : List LV} {v : V} {vs : List V} (a : VR K NM f H x v) (b : VRs K NM f H xs vs) : VRs K NM f H (x :: xs) (v :: vs) := ⟨v, vs, rfl, a, b⟩
theorem VRs.append : ∀ {xs ys : List LV} {vs ws : List V}, VRs K NM f H xs vs → VRs K NM f H ys ws → VRs K NM f H (xs ++ ys) (vs ++ ws)
  | [], _, _, _, h, g => by rw [show _ = [] from h]; exact g
  | x :: xs, _, _, _, h, g => by
    obtain ⟨w, ws, e1, e2, e3⟩ := h
    subst e1
    exact ⟨w, _, rfl, e2, VRs.append e3 g⟩
theorem VRs.take : ∀ {xs : List LV} {vs : List V} (n : Nat), VRs K NM f H xs vs → VRs K NM f H (xs.take n) (vs.take n)
  | _, _, 0, _ => by simp; rfl
  | [], _, _ + 1, h => by rw [show _ = [] from h]; exact VRs.nil
  | x :: xs, _, n + 1, h => by
    obtain ⟨w, ws, e1, e2, e3⟩ := h
    subst e1
    exact ⟨w, _, rfl, e2, VRs.take n e3⟩
theorem VRs.drop : ∀ {xs : List LV} {vs : List V} (n : Nat), VRs K NM f H xs vs → VRs K NM f H (xs.drop n) (vs.drop n)
  | _, _, 0, h => h
  | [], _, _ + 1, h => by rw [show _ = [] from h]; exact VRs.nil
  | x :: xs, _, n + 1, h => by
    obtain ⟨w, ws, e1, e2, e3⟩ := h
    subst e1
    exact VRs.drop n e3
theorem VRs.set : ∀ {xs : List LV} {vs : List V} (i : Nat) {x : LV} {v : V}, VR K NM f H x v → VRs K NM f H xs vs → VRs K NM f H (xs.set i x) (vs.set i v)
  | [], _, i, _, _, _, h => by rw [show _ = [] from h]; cases i <;> exact VRs.nil
  | y :: xs, _, 0, x, v, r, h => by
    obtain ⟨w, ws, e1, e2, e3⟩ := h
    subst e1
    exact ⟨v, ws, rfl, r, e3⟩
  | y :: xs, _, i + 1, x, v, r, h => by
    obtain ⟨w, ws, e1, e2, e3⟩ := h
    subst e1
    exact ⟨w, _, rfl, e2, VRs.set i r e3⟩
theorem VRs.reverse {xs : List LV} {vs : List V} (h : VRs K NM f H xs vs) : VRs K NM f H xs.reverse vs.reverse := by
  induction xs generalizing vs with
  | nil => rw [show _ = [] from h]; exact VRs.nil
  | cons x xs ih =>
    obtain ⟨w, ws, e1, e2, e3⟩ := h
    subst e1
    rw [List.reverse_cons, List.reverse_cons]
    exact VRs.append (ih e3) (VRs.cons e2 VRs.nil)
theorem VRs.cut {xs : List LV} {vs : List V} (h : VRs K NM f H xs vs) (lo hi : Option Int) : VRs K NM f H (cut xs lo hi) (cut vs lo hi) := by
  unfold PM.cut
  rw [h.length]
  exact (h.drop _).take _
theorem VRs.dropLast {xs : List LV} {vs : List V} (h : VRs K NM f H xs vs) : VRs K NM f H xs.dropLast vs.dropLast := by
  rw [List.dropLast_eq_take, List.dropLast_eq_take, h.length]
  exact h.take _
theorem VRs.rep {xs : List LV} {vs : List V} (h : VRs K NM f H xs vs) : ∀ k : Nat, VRs K NM f H (List.replicate k xs).flatten (List.replicate k vs).flatten
  | 0 => VRs.nil
  | k + 1 => by
    rw [List.replicate_succ, List.replicate_succ, List.flatten_cons, List.flatten_cons]
    exact h.append (VRs.rep h k)
end

/-! ### new objects, changed objects -/
section
variable {K : PySem.W.Frag} {NM : List Str} {f : Inj} {L : LH} {H : Hp}
/-- tables stay where they and the code objects stay -/
theorem tabs_keep {T : List (Addr × Str)} {H H' : Hp} (t : LamX.Tabs T H) (e : ∀ b o, H b = some o → ((∃ ps, o = .tbl ps) ∨ ∃ c q, o = LamX.CodeO c q) → H' b = some o) : LamX.Tabs T H' := fun p hp => by
  obtain ⟨ps, h1, h2, h3⟩ := t p hp
  refine ⟨ps, e _ _ h1 (.inl ⟨ps, rfl⟩), h2, fun pos cv hc => ?_⟩
  obtain ⟨c, e1, e2⟩ := h3 pos cv hc
  exact ⟨c, e1, e _ _ e2 (.inr ⟨c, _, rfl⟩)⟩
theorem tabs_put {T : List (Addr × Str)} {H : Hp} {p : Addr} {u : HO} (t : LamX.Tabs T H) (hp : H p = none) : LamX.Tabs T (upd H p u) := tabs_keep t fun b o e _ => by
  rw [upd_ne (ne_of_none e hp)]; exact e
theorem OR.mono {f' : Inj} {H' : Hp} (e : Mo f H f' H') {p : Addr} {o : LO} (h : OR K NM f H p o) (hp : H' p = H p) : OR K NM f' H' p o := by
  cases o with
  | lst xs =>
    obtain ⟨vs, a, b⟩ := h
    exact ⟨vs, hp.trans a, VRs.mono e xs vs b⟩
  | ins c fs =>
    obtain ⟨dx, gs, a, b⟩ := h
    exact ⟨dx, gs, hp.trans a, FR.mono e fs gs b⟩
  | dic kvs => exact h
theorem OR.there {p : Addr} {o : LO} (h : OR K NM f H p o) : H p ≠ none := by
  cases o with
  | lst xs => obtain ⟨vs, a, _⟩ := h; rw [a]; simp
  | ins c fs => obtain ⟨dx, gs, a, _⟩ := h; rw [a]; simp
  | dic kvs => exact h.elim
theorem OR.th {p : Addr} {o : LO} (h : OR K NM f H p o) : Th H p := by
  cases o with
  | lst xs => obtain ⟨vs, a, _⟩ := h; exact ⟨_, a, fun _ z => nomatch z⟩
  | ins c fs => obtain ⟨dx, gs, a, _⟩ := h; exact ⟨_, a, fun _ z => nomatch z⟩
  | dic kvs => exact h.elim
theorem RelH.th (r : RelH K NM f L H) {a : Nat} {p : Addr} (e : f a = some p) : Th H p := by
  have hl := r.dom a p e
  obtain ⟨p', e1, o⟩ := r.obj a L[a] (by simp [hl])
  rw [e] at e1
  cases e1
  exact o.th
theorem RelH.there (r : RelH K NM f L H) {a : Nat} {p : Addr} (e : f a = some p) : H p ≠ none := by
  have hl := r.dom a p e
  obtain ⟨p', e1, o⟩ := r.obj a L[a] (by simp [hl])
  rw [e] at e1
  cases e1
  exact o.there
/-- mapped objects are lists and instances -/
def Mpd : Option HO → Prop
  | some (.lst _) => True
  | some (.ins _ _ _) => True
  | _ => False
theorem OR.mpd {p : Addr} {o : LO} (h : OR K NM f H p o) : Mpd (H p) := by
  cases o with
  | lst xs => obtain ⟨vs, a, _⟩ := h; rw [a]; trivial
  | ins c fs => obtain ⟨dx, gs, a, _⟩ := h; rw [a]; trivial
  | dic kvs => exact h.elim
theorem RelH.mpd (r : RelH K NM f L H) {a : Nat} {p : Addr} (e : f a = some p) : Mpd (H p) := by
  have hl := r.dom a p e
  obtain ⟨p', e1, o⟩ := r.obj a L[a] (by simp [hl])
  rw [e] at e1
  cases e1
  exact o.mpd
/-- an untracked place is taken, unmapped -/
theorem Ext.put {p : Addr} {u : HO} (hp : H p = none) : Ext f H f (upd H p u) where
  sub := fun _ _ e => e
  new := fun _ _ e => .inl e
  keep := fun q e => th_put hp e
  fr := fun q o e _ _ => by rw [upd_ne (ne_of_none e hp)]; exact e
  tup := fun q xs e => by rw [upd_ne (ne_of_none e hp)]; exact e
  frz := fun q o u e => by rw [upd_ne (ne_of_none e hp)]; exact e
  bs := fun _ e => e
  bw := fun _ e => .inl e
theorem RelH.put (r : RelH K NM f L H) {p : Addr} {u : HO} (hp : H p = none) : RelH K NM f L (upd H p u) := by
  refine ⟨r.inj, r.dom, fun a o e => ?_, fun q h => (Ext.put hp (f := f)).keep q (r.bn q h), tabs_put r.tab hp⟩
  obtain ⟨q, e1, e2⟩ := r.obj a o e
  refine ⟨q, e1, e2.mono (Ext.put hp).mo ?_⟩
  rw [upd_ne fun z => e2.there (by rw [z]; exact hp)]
/-- .. and mapped -/
def fadd (f : Inj) (a : Nat) (p : Addr) : Inj := ⟨fun b => if b = a then some p else f b, fun q => f.B q ∨ q = p, fun b q h => by
  split at h
  · cases h; exact .inr rfl
  · exact .inl (f.hb b q h)⟩
theorem fadd_self {f : Inj} {a : Nat} {p : Addr} : (fadd f a p) a = some p := if_pos rfl
theorem fadd_ne {f : Inj} {a b : Nat} {p : Addr} (h : b ≠ a) : (fadd f a p) b = f b := if_neg h
theorem Ext.add (r : RelH K NM f L H) {p : Addr} {H' : Hp} (hp : H p = none) (e : Ext f H f H') : Ext f H (fadd f L.length p) H' where
  sub := fun a q e => by
    rw [fadd_ne (Nat.ne_of_lt (r.dom a q e))]
    exact e
  new := fun a q h => by
    by_cases z : a = L.length
    · subst z; rw [fadd_self] at h; cases h; exact .inr (nw_none hp)
    · rw [fadd_ne z] at h; exact .inl h
  keep := e.keep
  fr := e.fr
  tup := e.tup
  frz := e.frz
  bs := fun q h => .inl h
  bw := fun q h => h.elim .inl fun h => .inr (by rw [h]; exact nw_none hp)
theorem RelH.add (r : RelH K NM f L H) {p : Addr} {H' : Hp} {o : LO} (hp : H p = none) (e : Ext f H f H') (hk : ∀ q, H q ≠ none → H' q = H q) (ho : OR K NM (fadd f L.length p) H' p o) : RelH K NM (fadd f L.length p) (L ++ [o]) H' := by
  have nm : ∀ b q, f b = some q → q ≠ p := fun b q h z => by
    subst z
    exact r.there h hp
  refine ⟨fun a b q h1 h2 => ?_, fun a q h => ?_, fun a u h => ?_, fun q h => ?_, tabs_keep r.tab fun b o e' _ => (hk b (by rw [e']; simp)).trans e'⟩
  · by_cases x : a = L.length <;> by_cases y : b = L.length
    · rw [x, y]
    · rw [x, fadd_self] at h1; rw [fadd_ne y] at h2; cases h1; exact absurd rfl (nm b _ h2)
    · rw [y, fadd_self] at h2; rw [fadd_ne x] at h1; cases h2; exact absurd rfl (nm a _ h1)
    · rw [fadd_ne x] at h1; rw [fadd_ne y] at h2; exact r.inj a b q h1 h2
  · rw [List.length_append, List.length_singleton]
    by_cases z : a = L.length
    · omega
    · rw [fadd_ne z] at h; have := r.dom a q h; omega
  · by_cases ha : a < L.length
    · rw [List.getElem?_append_left ha] at h
      obtain ⟨q, e1, e2⟩ := r.obj a u h
      exact ⟨q, by rw [fadd_ne (by omega)]; exact e1, e2.mono (Ext.add r hp e).mo (hk q (r.there e1))⟩
    · rw [List.getElem?_append_right (by omega)] at h
      have : a = L.length := by
        cases hh : a - L.length with
        | zero => omega
        | succ k => rw [hh] at h; simp at h
      subst this
      simp at h
      subst h
      exact ⟨p, fadd_self, ho⟩
  · rcases h with h | h
    · exact e.keep q (r.bn q h)
    · rw [h]; exact ho.th
theorem upd_keep {H : Hp} {p : Addr} {u : HO} (hp : H p = none) : ∀ q, H q ≠ none → upd H p u q = H q := fun q h => upd_ne fun z => h (by rw [z]; exact hp)
/-- a mapped object is changed -/
theorem Ext.write (r : RelH K NM f L H) {a : Nat} {p : Addr} {u : HO} (e : f a = some p) (hu : ∀ ps, u ≠ .tbl ps := by intro ps z; cases z) : Ext f H f (upd H p u) where
  sub := fun _ _ e => e
  new := fun _ _ e => .inl e
  keep := fun q h => by
    by_cases z : q = p
    · subst z; exact ⟨u, upd_same, hu⟩
    · obtain ⟨o, e', n⟩ := h
      exact ⟨o, by rw [upd_ne z]; exact e', n⟩
  fr := fun q o h _ n => by rw [upd_ne fun z => n a (by rw [z]; exact e)]; exact h
  tup := fun q xs h => by
    have m := r.mpd e
    rw [upd_ne fun z => by rw [z] at h; rw [h] at m; exact m]
    exact h
  frz := fun q o x h => by
    have m := r.mpd e
    rw [upd_ne fun z => by rw [z] at h; rw [h] at m; exact m]
    exact h
  bs := fun _ e => e
  bw := fun _ e => .inl e
theorem RelH.write (r : RelH K NM f L H) {a : Nat} {p : Addr} {u : HO} {o : LO} (e : f a = some p) (ho : OR K NM f (upd H p u) p o) : RelH K NM f (L.set a o) (upd H p u) := by
  have hu : ∀ ps, u ≠ .tbl ps := fun ps z => by
    have m := ho.mpd
    rw [upd_same, z] at m
    exact m
  refine ⟨r.inj, fun b q h => by rw [List.length_set]; exact r.dom b q h, fun b x h => ?_, fun q h => (Ext.write r e hu).keep q (r.bn q h), tabs_keep r.tab fun b o' e' hx => by
    rw [upd_ne fun z => ?_]
    · exact e'
    · have m := r.mpd e
      rw [← z, e'] at m
      rcases hx with ⟨ps, rfl⟩ | ⟨c, q, rfl⟩ <;> exact m⟩
  by_cases hb : b = a
  · subst hb
    have hl : b < L.length := r.dom b p e
    rw [List.getElem?_set_self hl] at h
    cases h
    exact ⟨p, e, ho⟩
  · rw [List.getElem?_set_ne (Ne.symm hb)] at h
    obtain ⟨q, e1, e2⟩ := r.obj b x h
    refine ⟨q, e1, e2.mono (Ext.write r e hu).mo (by rw [upd_ne fun z => hb (r.inj b a q e1 (by rw [z]; exact e))])⟩
end

/-! ### what follows a run -/
section
variable (K : PySem.W.Frag) (NM : List Str)
/-- an exception: its class, its own dict's fields -/
def XR (f : Inj) (H : Hp) (x : LX) (cls : Value) (d : Option Addr) : Prop :=
  cls = .ref (He.ga K (nm NM x.cls)) ∧ ∃ dd gs, d = some dd ∧ H dd = some (.xd gs) ∧ ¬ f.B dd ∧ FR K NM f H x.fs gs
def Aft {α : Type} (f : Inj) (H : Hp) (r : R α) (Q : α → Inj → Hp → Prop) (Qx : LX → Inj → Hp → Prop) : Prop := match r with
  | .ok a L' => ∀ f' H', Ext f H f' H' → RelH K NM f' L' H' → Q a f' H'
  | .exc x L' => ∀ f' H', Ext f H f' H' → RelH K NM f' L' H' → Qx x f' H'
  | .bad => False
/-- the wish about exceptions at slots σ -/
def Wx (W : WX) (σ : St) : LX → Inj → Hp → Prop := fun x f H => ∀ cls d, XR K NM f H x cls d → W cls d σ H
/-- the reading that a run gives -/
def tR {α β : Type} (rel : Inj → Hp → α → β → Prop) (W : WX) (dn : LS → LH → R α) : St → Hp → (β → Hp → Prop) → Prop := fun σ H Q =>
  ∃ f l L, RelH K NM f L H ∧ SR K NM f H l σ ∧ Aft K NM f H (dn l L) (fun a f' H' => ∀ b, rel f' H' a b → Q b H') (Wx K NM W σ)
abbrev rB : Inj → Hp → Bool → Bool → Prop := fun _ _ a b => a = b
end
section
variable {K : PySem.W.Frag} {NM : List Str} {f f1 : Inj} {H H1 : Hp}
theorem Aft.ext {α : Type} {r : R α} {Q : α → Inj → Hp → Prop} {Qx : LX → Inj → Hp → Prop} (h : Aft K NM f H r Q Qx) (e : Ext f H f1 H1) : Aft K NM f1 H1 r Q Qx := by
  cases r with
  | ok a L' => exact fun f' H' e' r' => h f' H' (e.trans e') r'
  | exc x L' => exact fun f' H' e' r' => h f' H' (e.trans e') r'
  | bad => exact h
theorem Aft.imp {α : Type} {r : R α} {Q Q' : α → Inj → Hp → Prop} {Qx Qx' : LX → Inj → Hp → Prop} (h : Aft K NM f H r Q Qx) (hq : ∀ a f' H', Ext f H f' H' → Q a f' H' → Q' a f' H') (hx : ∀ x f' H', Ext f H f' H' → Qx x f' H' → Qx' x f' H') : Aft K NM f H r Q' Qx' := by
  cases r with
  | ok a L' => exact fun f' H' e' r' => hq _ _ _ e' (h f' H' e' r')
  | exc x L' => exact fun f' H' e' r' => hx _ _ _ e' (h f' H' e' r')
  | bad => exact h
/-- the first part's reading, from the whole's -/
theorem tR_bind {α β γ : Type} {rel : Inj → Hp → α → β → Prop} {W : WX} {dn : LS → LH → R α} {l : LS} {L : LH} {σ : St} {k : α → LH → R γ} {Q : γ → Inj → Hp → Prop} {Q' : β → Hp → Prop} (hR : RelH K NM f L H) (hS : SR K NM f H l σ)
    (h : Aft K NM f H ((dn l L).bind k) Q (Wx K NM W σ))
    (hk : ∀ a L1 f1 H1 b, Ext f H f1 H1 → RelH K NM f1 L1 H1 → SR K NM f1 H1 l σ → rel f1 H1 a b → Aft K NM f1 H1 (k a L1) Q (Wx K NM W σ) → Q' b H1) : tR K NM rel W dn σ H Q' := by
  refine ⟨f, l, L, hR, hS, ?_⟩
  cases q : dn l L with
  | ok a L' =>
    rw [q] at h
    have h : Aft K NM f H (k a L') Q (Wx K NM W σ) := h
    exact fun f' H' e r b rb => hk a L' f' H' b e r (hS.mono e.mo) rb (Aft.ext h e)
  | exc x L' => rw [q] at h; exact h
  | bad => rw [q] at h; exact h
theorem tR_bind' {α β γ : Type} {rel : Inj → Hp → α → β → Prop} {W : WX} {dn : LS → LH → R α} {σ : St} {k : LS → α → LH → R γ} {rel' : Inj → Hp → γ → β → Prop} {Q : β → Hp → Prop} {Q' : β → Hp → Prop}
    (h : tR K NM rel' W (fun l L => (dn l L).bind (k l)) σ H Q)
    (hk : ∀ f l a L1 f1 H1 b, Ext f H f1 H1 → RelH K NM f1 L1 H1 → SR K NM f1 H1 l σ → rel f1 H1 a b → Aft K NM f1 H1 (k l a L1) (fun c f' H' => ∀ b, rel' f' H' c b → Q b H') (Wx K NM W σ) → Q' b H1) : tR K NM rel W dn σ H Q' := by
  obtain ⟨f, l, L, hR, hS, h⟩ := h
  exact tR_bind hR hS h fun a L1 f1 H1 b e r s rb q => hk f l a L1 f1 H1 b e r s rb q
/-- a run that ends at once -/
theorem Aft.here {α : Type} {a : α} {L : LH} {Q : α → Inj → Hp → Prop} {Qx : LX → Inj → Hp → Prop} (h : Aft K NM f H (.ok a L) Q Qx) (r : RelH K NM f L H) : Q a f H := h f H (Ext.refl f H) r
/-- .. with a new object -/
theorem Aft.made {α : Type} {a : α} {L : LH} {o : LO} {Q : α → Inj → Hp → Prop} {Qx : LX → Inj → Hp → Prop} (h : Aft K NM f H (.ok a (L ++ [o])) Q Qx) (r : RelH K NM f L H) {p : Addr} {u : HO} (hp : H p = none)
    (ho : OR K NM (fadd f L.length p) (upd H p u) p o) : Q a (fadd f L.length p) (upd H p u) :=
  h _ _ (Ext.add r hp (Ext.put hp)) (RelH.add r hp (Ext.put hp) (upd_keep hp) ho)
theorem Aft.frozen {α : Type} {a : α} {L : LH} {Q : α → Inj → Hp → Prop} {Qx : LX → Inj → Hp → Prop} (h : Aft K NM f H (.ok a L) Q Qx) (r : RelH K NM f L H) {p : Addr} {u : HO} (hp : H p = none) : Q a f (upd H p u) ∧ ¬ f.B p :=
  ⟨h _ _ (Ext.put hp) (r.put hp), fun b => nw_none hp (r.bn p b)⟩
theorem Aft.wrote {α : Type} {a : α} {L : LH} {b : Nat} {p : Addr} {u : HO} {o : LO} {Q : α → Inj → Hp → Prop} {Qx : LX → Inj → Hp → Prop} (h : Aft K NM f H (.ok a (L.set b o)) Q Qx) (r : RelH K NM f L H) (e : f b = some p)
    (ho : OR K NM f (upd H p u) p o) : Q a f (upd H p u) := h _ _ (Ext.write r e fun ps z => by
    have m := ho.mpd
    rw [upd_same, z] at m
    exact m) (r.write e ho)
end
end PM

set_option Elab.async false
set_option linter.all false
set_option autoImplicit false
set_option maxHeartbeats 1000000
/-! # PM2: expressions -/
namespace PM
open PySem PySem.Spec PyProof.Rows
open L2 hiding St
section
variable {X : Cx} {NM : List Str} {W : WX} {P : PM.Prog} {G : Gam}
abbrev SE (X : Cx) (NM : List Str) (W : WX) (pe : Expr) (dn : LS → LH → R LV) : Prop := PE X pe (tR X.K NM (VR X.K NM) W dn)
abbrev ST (X : Cx) (NM : List Str) (W : WX) (pe : Expr) (dn : LS → LH → R Bool) : Prop := PT X pe (tR X.K NM rB W dn)
abbrev SA (X : Cx) (NM : List Str) (W : WX) (pe : List Expr) (dn : LS → LH → R (List LV)) : Prop := PA X pe (tR X.K NM (VRs X.K NM) W dn)
theorem pe_weak {e : Expr} {t t' : TE} (h : PE X e t') (i : ∀ σ H Q, t σ H Q → t' σ H Q) : PE X e t := ⟨fun pins s σ H Q I q => h.run pins s σ H Q I (i σ H Q q)⟩
theorem pt_weak {e : Expr} {t t' : TT} (h : PT X e t') (i : ∀ σ H Q, t σ H Q → t' σ H Q) : PT X e t := ⟨fun pins s σ H Q I q => h.run pins s σ H Q I (i σ H Q q)⟩
theorem pa_weak {e : List Expr} {t t' : TA} (h : PA X e t') (i : ∀ σ H Q, t σ H Q → t' σ H Q) : PA X e t := ⟨fun pos pins s σ H Q I q => h.run pos pins s σ H Q I (i σ H Q q)⟩
theorem SL_eq : SL = sizeLine := by rw [sizeLine_eq]; rfl

/-! ### names, constants -/
theorem se_var {i : Nat} {x : Str} {pos : Pos} (hN : X.N[i]? = some x) (hv : Vis X.env.scope x) (h1 : (x == ("__debug__" : Str)) = false) (h2 : (x == ("__classdict__" : Str)) = false) : SE X NM W (.Name x pos) (den P G (.var i)).e := by
  refine pe_weak (pe_var hN hv h1 h2) fun σ H Q ⟨f, l, L, hR, hS, h⟩ => ?_
  have h : Aft X.K NM f H (match l[i]? with | some (some v) => .ok v L | _ => .bad) _ _ := h
  cases q : l[i]? with
  | none => rw [q] at h; exact h.elim
  | some o =>
    rw [q] at h
    cases o with
    | none => exact h.elim
    | some x =>
      obtain ⟨v, e1, e2⟩ := hS.2 i x q
      exact ⟨v, e1, Aft.here h hR v e2⟩
theorem se_lit {e : Expr} {v : V} {x : LV} (hp : PE X e (tC v)) (hr : ∀ f H, VR X.K NM f H x v) : SE X NM W e (fun _ L => .ok x L) := by
  refine pe_weak hp fun σ H Q ⟨f, l, L, hR, hS, h⟩ => ?_
  exact Aft.here h hR v (hr f H)
theorem se_int {i : Int} {j : Nat} {pos : Pos} : SE X NM W (.Constant (.int i) j pos) (den P G (.int i)).e := se_lit pe_int fun _ _ => rfl
theorem se_bl {b : Bool} {j : Nat} {pos : Pos} : SE X NM W (.Constant (.bool b) j pos) (den P G (.bl b)).e := se_lit pe_bl fun _ _ => rfl
theorem se_non {j : Nat} {pos : Pos} : SE X NM W (.Constant .none j pos) (den P G .non).e := se_lit pe_non fun _ _ => rfl
theorem se_str {x : Str} {j : Nat} {pos : Pos} : SE X NM W (.Constant (.str x) j pos) (den P G (.str x.cps.toList)).e := se_lit pe_str fun _ _ => rfl
theorem se_glo {g : Nat} {pos : Pos} (hg : Gl X (nm NM g)) (hm : X.mg (nm NM g) = some (.ref (He.ga X.K (nm NM g)))) (hd : (nm NM g == ("__debug__" : Str)) = false) : SE X NM W (.Name (nm NM g) pos) (den P G (.glo g)).e :=
  se_lit (pe_glob hg hm (v := .ref (He.ga X.K (nm NM g))) rfl hd) fun _ _ => rfl

/-! ### argument lists, displays -/
theorem sa_nil : SA X NM W [] (den P G .nil).es := by
  refine pa_weak pa_nil fun σ H Q ⟨f, l, L, hR, hS, h⟩ => ?_
  exact Aft.here h hR [] VRs.nil
def notStar : Expr → Bool
  | .Starred _ _ => false
  | _ => true
theorem star_head {e : Expr} {es : List Expr} {env : Env} (h : notStar e = true) : starEach (e :: es) env = (false, eval e env) :: starEach es env := by
  cases e <;> first | rfl | cases h
theorem sa_cons {e : Expr} {es : List Expr} {a r : E} (hn : notStar e = true) (he : SE X NM W e (den P G a).e) (hr : SA X NM W es (den P G r).es) : SA X NM W (e :: es) (den P G (.cons a r)).es := by
  refine pa_weak (pa_cons he hr (star_head hn)) fun σ H Q h => ?_
  obtain ⟨f, l, L, hR, hS, h⟩ := h
  refine tR_bind hR hS h fun x L1 f1 H1 v e1 r1 s1 rv h1 => ?_
  refine tR_bind r1 s1 h1 fun xs L2 f2 H2 vs e2 r2 s2 rvs h2 => ?_
  exact Aft.here h2 r2 (v :: vs) (VRs.cons (VR.mono e2.mo _ _ rv) rvs)
theorem se_tup {es : List Expr} {k : Nat} {a : E} {pos : Pos} (h : SA X NM W es (den P G a).es) : SE X NM W (.Tuple es k pos) (den P G (.tup a)).e := by
  refine pe_weak (pe_tup h) fun σ H Q h => ?_
  obtain ⟨f, l, L, hR, hS, h⟩ := h
  refine tR_bind hR hS h fun xs L1 f1 H1 vs e1 r1 s1 rv h1 => ?_
  split at h1
  · rename_i hz
    refine ⟨by rw [← rv.length, ← SL_eq]; exact hz, fun p hp => ?_⟩
    exact h1 f1 _ (Ext.put hp) (r1.put hp) _ ⟨p, vs, rfl, SqT.of upd_same, VRs.mono (Ext.put hp).mo _ _ rv⟩
  · exact h1.elim
/-- a new list -/
theorem newL_ok {f : Inj} {L : LH} {H : Hp} {xs : List LV} {vs : List V} {Q : V → Hp → Prop} {Qx : LX → Inj → Hp → Prop} (h : Aft X.K NM f H (newL xs L) (fun a f' H' => ∀ v, VR X.K NM f' H' a v → Q v H') Qx) (r : RelH X.K NM f L H) (rv : VRs X.K NM f H xs vs) :
    vs.length ≤ sizeLine ∧ ∀ p, H p = none → Q (.ref p) (upd H p (.lst vs)) := by
  unfold newL at h
  split at h
  · rename_i hz
    refine ⟨by rw [← rv.length, ← SL_eq]; exact hz, fun p hp => ?_⟩
    have m : Mo f H (fadd f L.length p) (upd H p (.lst vs)) := (Ext.add r hp (Ext.put hp)).mo
    exact Aft.made h r hp (u := .lst vs) ⟨vs, upd_same, VRs.mono m _ _ rv⟩ _ ⟨p, rfl, fadd_self⟩
  · exact h.elim
/-- .. that is only read -/
theorem newF_ok {f : Inj} {L : LH} {H : Hp} {xs : List LV} {vs : List V} {Q : V → Hp → Prop} {Qx : LX → Inj → Hp → Prop} (h : Aft X.K NM f H (newF xs L) (fun a f' H' => ∀ v, VR X.K NM f' H' a v → Q v H') Qx) (r : RelH X.K NM f L H) (rv : VRs X.K NM f H xs vs) :
    vs.length ≤ sizeLine ∧ ∀ p, H p = none → Q (.ref p) (upd H p (.lst vs)) := by
  unfold newF at h
  split at h
  · rename_i hz
    refine ⟨by rw [← rv.length, ← SL_eq]; exact hz.1, fun p hp => ?_⟩
    obtain ⟨h1, h2⟩ := Aft.frozen h r hp (u := .lst vs)
    exact h1 _ ⟨p, vs, rfl, ⟨upd_same, h2⟩, VRs.mono (Ext.put hp).mo.offs _ _ (VRs.offN hz.2 rv)⟩
  · exact h.elim
theorem se_lst {es : List Expr} {a : E} {pos : Pos} (h : SA X NM W es (den P G a).es) : SE X NM W (.List es pos) (den P G (.lst a)).e := by
  refine pe_weak (pe_lst h) fun σ H Q h => ?_
  obtain ⟨f, l, L, hR, hS, h⟩ := h
  refine tR_bind hR hS h fun xs L1 f1 H1 vs e1 r1 s1 rv h1 => ?_
  exact newF_ok h1 r1 rv
theorem se_lstM {es : List Expr} {a : E} {pos : Pos} (h : SA X NM W es (den P G a).es) : SE X NM W (.List es pos) (den P G (.lstM a)).e := by
  refine pe_weak (pe_lst h) fun σ H Q h => ?_
  obtain ⟨f, l, L, hR, hS, h⟩ := h
  refine tR_bind hR hS h fun xs L1 f1 H1 vs e1 r1 s1 rv h1 => ?_
  exact newL_ok h1 r1 rv

/-! ### operations by values -/
/-- a two-place operation -/
def OpS (X : Cx) (NM : List Str) (W : WX) (f : Value → Value → Sem Value) (m : LV → LV → LH → R LV) : Prop :=
  ∀ (pins : List (Addr × Obj)) (s : Shared) (σ : St) (H : Hp) (x y : V) (v u : Value) (Q : VK), Inv X pins σ H s → L2.RelV x v → L2.RelV y u →
    (∃ g a b L, RelH X.K NM g L H ∧ VR X.K NM g H a x ∧ VR X.K NM g H b y ∧ Aft X.K NM g H (m a b L) (fun c f' H' => ∀ z, VR X.K NM f' H' c z → Q z H') (Wx X.K NM W σ)) →
    wpAny (model X.prog X.w) X.A (f v u) (EP X pins σ Q) X.xe s
theorem se_bin {op : Operator} {o : BOp} {a b : Expr} {ea eb : E} {pos : Pos} (ho : OpS X NM W (binaryOp op) (binop P G o)) (ha : SE X NM W a (den P G ea).e) (hb : SE X NM W b (den P G eb).e) : SE X NM W (.BinOp a op b pos) (den P G (.bin o ea eb)).e := by
  refine ⟨fun pins s σ H Q I h => ?_⟩
  obtain ⟨f, l, L, hR, hS, h⟩ := h
  refine wpAny_BinOp (binT ha hb I (tR_bind hR hS h fun x L1 f1 H1 v e1 r1 s1 rv h1 => tR_bind r1 s1 h1 fun y L2 f2 H2 u e2 r2 s2 ru h2 => ?_) fun v u s2 x y H2 I2 rx ry q => ho pins s2 σ H2 x y v u Q I2 rx ry q)
  exact ⟨f2, x, y, L2, r2, VR.mono e2.mo _ _ rv, ru, h2⟩
theorem se_cmp {op : CmpOp} {o : COp} {a b : Expr} {ea eb : E} {pos : Pos} (ho : OpS X NM W (compareOp op) (cmpV P G o)) (ha : SE X NM W a (den P G ea).e) (hb : SE X NM W b (den P G eb).e) (hm : behindInMarks op b = false) :
    SE X NM W (.Compare a [op] [b] pos) (den P G (.cmp o ea eb)).e := by
  refine ⟨fun pins s σ H Q I h => ?_⟩
  obtain ⟨f, l, L, hR, hS, h⟩ := h
  refine wpAny_Compare1 (binT ha hb I (tR_bind hR hS h fun x L1 f1 H1 v e1 r1 s1 rv h1 => tR_bind r1 s1 h1 fun y L2 f2 H2 u e2 r2 s2 ru h2 => ?_) fun v u s2 x y H2 I2 rx ry q => ho pins s2 σ H2 x y v u Q I2 rx ry q) hm
  exact ⟨f2, x, y, L2, r2, VR.mono e2.mo _ _ rv, ru, h2⟩
/-- truth -/
def TruS (X : Cx) (NM : List Str) (W : WX) (P : PM.Prog) (G : Gam) : Prop :=
  ∀ (pins : List (Addr × Obj)) (s : Shared) (σ : St) (H : Hp) (x : V) (v : Value) (Q : Bool → Hp → Prop), Inv X pins σ H s → L2.RelV x v →
    (∃ g a L, RelH X.K NM g L H ∧ VR X.K NM g H a x ∧ Aft X.K NM g H (truth P G a L) (fun c f' H' => ∀ z, rB f' H' c z → Q z H') (Wx X.K NM W σ)) →
    wpAny (model X.prog X.w) X.A (truthy v) (TP X pins σ Q) X.xe s
theorem st_plain {e : Expr} {dn : LS → LH → R LV} (ht : TruS X NM W P G) (he : SE X NM W e dn) (hp : ∀ whole, isTrue e X.env whole = (do let v ← whole; standAt e.pos; holding [v] (truthy v))) : ST X NM W e (fun σ H => (dn σ H).bind fun v H1 => truth P G v H1) := by
  refine ⟨fun pins s σ H Q I h => ?_⟩
  obtain ⟨f, l, L, hR, hS, h⟩ := h
  refine isTrue_plain (thn (he.run pins s σ H _ I (tR_bind hR hS h fun x L1 f1 H1 v e1 r1 s1 rv h1 => ?_)) fun v s1 ⟨x, H1, I1, r1, q1⟩ => ht pins s1 σ H1 x v Q I1 r1 q1) (hp _)
  exact ⟨f1, x, L1, r1, rv, h1⟩
theorem R.bind_assoc {α β γ : Type} (r : R α) (k : α → LH → R β) (k' : β → LH → R γ) : (r.bind k).bind k' = r.bind fun a H => (k a H).bind k' := by cases r <;> rfl
theorem st_cmp {op : CmpOp} {o : COp} {a b : Expr} {ea eb : E} {pos : Pos} (ht : TruS X NM W P G) (ho : OpS X NM W (compareOp op) (cmpV P G o)) (ha : SE X NM W a (den P G ea).e) (hb : SE X NM W b (den P G eb).e) (hm : behindInMarks op b = false) :
    ST X NM W (.Compare a [op] [b] pos) (den P G (.cmp o ea eb)).t := by
  refine ⟨fun pins s σ H Q I h => ?_⟩
  obtain ⟨f, l, L, hR, hS, h⟩ := h
  have h : Aft X.K NM f H ((((den P G ea).e l L).bind fun x H1 => ((den P G eb).e l H1).bind fun y H2 => cmpV P G o x y H2).bind fun v H1 => truth P G v H1) _ _ := h
  simp only [R.bind_assoc] at h
  have z := binT ha hb I (R := fun x y H2 => ∃ g a b L, RelH X.K NM g L H2 ∧ VR X.K NM g H2 a x ∧ VR X.K NM g H2 b y ∧ Aft X.K NM g H2 ((cmpV P G o a b L).bind fun v H1 => truth P G v H1) (fun c f' H' => ∀ z, rB f' H' c z → Q z H') (Wx X.K NM W σ))
    (tR_bind hR hS h fun x L1 f1 H1 v e1 r1 s1 rv h1 => tR_bind r1 s1 h1 fun y L2 f2 H2 u e2 r2 s2 ru h2 => ⟨f2, x, y, L2, r2, VR.mono e2.mo _ _ rv, ru, h2⟩) (f := compareOp op) (Q := fun c s3 => wpAny (model X.prog X.w) X.A (truthy c) (TP X pins σ Q) X.xe s3)
    (fun v u s2 x y H2 I2 rx ry ⟨g, a', b', L', q1, q2, q3, q4⟩ => thn (ho pins s2 σ H2 x y v u (fun z H' => ∃ g a L, RelH X.K NM g L H' ∧ VR X.K NM g H' a z ∧ Aft X.K NM g H' (truth P G a L) (fun c f' H' => ∀ z, rB f' H' c z → Q z H') (Wx X.K NM W σ)) I2 rx ry ⟨g, a', b', L', q1, q2, q3, ?_⟩)
      fun c s3 ⟨z, H3, I3, r3, q⟩ => ht pins s3 σ H3 z c Q I3 r3 q)
  · exact wpAny_isTrue_Compare1 z hm
  · cases q : cmpV P G o a' b' L' with
    | ok c L3 =>
      rw [q] at q4
      intro f' H' e r z rz
      exact ⟨f', c, L3, r, rz, Aft.ext q4 e⟩
    | exc x L3 => rw [q] at q4; exact q4
    | bad => rw [q] at q4; exact q4

/-! ### tests: not, and, or, if -/
theorem st_not {a : Expr} {ea : E} {pos : Pos} (ha : ST X NM W a (den P G ea).t) : ST X NM W (.UnaryOp .Not a pos) (den P G (.not ea)).t := by
  refine pt_weak (pt_not ha) fun σ H Q h => ?_
  obtain ⟨f, l, L, hR, hS, h⟩ := h
  refine tR_bind hR hS h fun b L1 f1 H1 v e1 r1 s1 rv h1 => ?_
  subst rv
  exact Aft.here h1 r1 _ rfl
theorem se_not {a : Expr} {ea : E} {pos : Pos} (ht : TruS X NM W P G) (ha : SE X NM W a (den P G ea).e) : SE X NM W (.UnaryOp .Not a pos) (den P G (.not ea)).e := by
  refine ⟨fun pins s σ H Q I h => ?_⟩
  obtain ⟨f, l, L, hR, hS, h⟩ := h
  have h : Aft X.K NM f H ((((den P G ea).e l L).bind fun v H1 => truth P G v H1).bind fun b H1 => R.ok (LV.bl (!b)) H1) _ _ := h
  rw [R.bind_assoc] at h
  refine UnaryOp_ (thn (ha.run pins s σ H (fun x H1 => ∃ f1 a L1, RelH X.K NM f1 L1 H1 ∧ VR X.K NM f1 H1 a x ∧ Aft X.K NM f1 H1 ((truth P G a L1).bind fun b H2 => R.ok (LV.bl (!b)) H2) (fun a f' H' => ∀ b, VR X.K NM f' H' a b → Q b H') (Wx X.K NM W σ)) I
    (tR_bind hR hS h fun x L1 f1 H1 v e1 r1 s1 rv h1 => ⟨f1, x, L1, r1, rv, h1⟩)) fun v s1 ⟨x, H1, I1, r1, f1, a1, L1, q1, q3, q4⟩ => ?_)
  refine not_of (wpAny_mono (ht pins s1 σ H1 x v (fun b H2 => Q (.bl (!b)) H2) I1 r1 ⟨f1, a1, L1, q1, q3, ?_⟩) (fun b s2 z => ?_) fun _ _ z => z)
  · cases q : truth P G a1 L1 with
    | ok c L2 =>
      rw [q] at q4
      intro f2 H2 e r z rz
      subst rz
      exact Aft.here (Aft.ext q4 e) r (.bl (!c)) rfl
    | exc z L2 => rw [q] at q4; exact q4
    | bad => rw [q] at q4; exact q4
  · obtain ⟨H2, I2, q⟩ := z
    exact ⟨.bl (!b), H2, I2, rfl, q⟩
theorem se_or {a b : Expr} {es : List Expr} {ea er : E} {pos : Pos} (ht : TruS X NM W P G) (hn : (den P G er).nil = false) (ha : SE X NM W a (den P G ea).e) (hr : SE X NM W (.BoolOp .Or (b :: es) pos) (den P G er).orr) : SE X NM W (.BoolOp .Or (a :: b :: es) pos) (den P G (.cons ea er)).orr := by
  refine ⟨fun pins s σ H Q I h => ?_⟩
  obtain ⟨f, l, L, hR, hS, h⟩ := h
  have h : Aft X.K NM f H (if (den P G er).nil then (den P G ea).e l L else ((den P G ea).e l L).bind fun v H1 => (truth P G v H1).bind fun b H2 => if b then .ok v H2 else (den P G er).orr l H2) _ _ := h
  rw [hn, if_neg Bool.false_ne_true] at h
  refine BoolOp_or (thn (ha.run pins s σ H (fun x H1 => ∃ f1 a L1, RelH X.K NM f1 L1 H1 ∧ SR X.K NM f1 H1 l σ ∧ VR X.K NM f1 H1 a x ∧ Aft X.K NM f1 H1 ((truth P G a L1).bind fun b H2 => if b then .ok a H2 else (den P G er).orr l H2) (fun a f' H' => ∀ b, VR X.K NM f' H' a b → Q b H') (Wx X.K NM W σ)) I
    (tR_bind hR hS h fun x L1 f1 H1 v e1 r1 s1 rv h1 => ⟨f1, x, L1, r1, s1, rv, h1⟩)) fun v s1 ⟨x, H1, I1, r1, f1, a1, L1, q1, q2, q3, q4⟩ => ?_)
  refine thn (ht pins s1 σ H1 x v (fun b H2 => if b = true then Q x H2 else tR X.K NM (VR X.K NM) W (den P G er).orr σ H2 Q) I1 r1 ⟨f1, a1, L1, q1, q3, ?_⟩) fun b s2 ⟨H2, I2, q⟩ => ?_
  · cases q : truth P G a1 L1 with
    | ok c L2 =>
      rw [q] at q4
      intro f2 H2 e r z rz
      subst rz
      cases c with
      | true => exact Aft.here (Aft.ext q4 e) r x (VR.mono e.mo _ _ q3)
      | false => exact ⟨f2, l, L2, r, q2.mono e.mo, Aft.ext q4 e⟩
    | exc z L2 => rw [q] at q4; exact q4
    | bad => rw [q] at q4; exact q4
  · cases b with
    | true => exact ⟨x, H2, I2, r1, q⟩
    | false => exact hr.run pins s2 σ H2 Q I2 q
theorem sw_and_nil {pos : Pos} : PW X (.BoolOp .And [] pos) (tR X.K NM rB W (den P G .nil).ta) := by
  refine ⟨fun wh pins s σ H Q I h => ?_⟩
  obtain ⟨f, l, L, hR, hS, h⟩ := h
  exact isTrue_and_nil ⟨H, I, Aft.here h hR true rfl⟩
theorem sw_and_cons {a : Expr} {es : List Expr} {ea er : E} {pos : Pos} (ha : ST X NM W a (den P G ea).t) (hr : PW X (.BoolOp .And es pos) (tR X.K NM rB W (den P G er).ta)) : PW X (.BoolOp .And (a :: es) pos) (tR X.K NM rB W (den P G (.cons ea er)).ta) := by
  refine ⟨fun wh pins s σ H Q I h => ?_⟩
  obtain ⟨f, l, L, hR, hS, h⟩ := h
  have h : Aft X.K NM f H (((den P G ea).t l L).bind fun b H1 => if b then (den P G er).ta l H1 else .ok false H1) _ _ := h
  refine isTrue_and (thn (ha.run pins s σ H (fun c H1 => if c = true then tR X.K NM rB W (den P G er).ta σ H1 Q else Q false H1) I (tR_bind hR hS h fun b L1 f1 H1 v e1 r1 s1 rv h1 => ?_)) fun c s1 ⟨H1, I1, q1⟩ => ?_)
  · subst rv
    cases b with
    | true => exact ⟨f1, l, L1, r1, s1, h1⟩
    | false => exact Aft.here h1 r1 false rfl
  · cases c with
    | true => exact hr.run wh pins s1 σ H1 Q I1 q1
    | false => exact ⟨H1, I1, q1⟩
theorem sw_or_nil {pos : Pos} : PW X (.BoolOp .Or [] pos) (tR X.K NM rB W (den P G .nil).to) := by
  refine ⟨fun wh pins s σ H Q I h => ?_⟩
  obtain ⟨f, l, L, hR, hS, h⟩ := h
  exact isTrue_or_nil ⟨H, I, Aft.here h hR false rfl⟩
theorem sw_or_cons {a : Expr} {es : List Expr} {ea er : E} {pos : Pos} (ha : ST X NM W a (den P G ea).t) (hr : PW X (.BoolOp .Or es pos) (tR X.K NM rB W (den P G er).to)) : PW X (.BoolOp .Or (a :: es) pos) (tR X.K NM rB W (den P G (.cons ea er)).to) := by
  refine ⟨fun wh pins s σ H Q I h => ?_⟩
  obtain ⟨f, l, L, hR, hS, h⟩ := h
  have h : Aft X.K NM f H (((den P G ea).t l L).bind fun b H1 => if b then .ok true H1 else (den P G er).to l H1) _ _ := h
  refine isTrue_or (thn (ha.run pins s σ H (fun c H1 => if c = true then Q true H1 else tR X.K NM rB W (den P G er).to σ H1 Q) I (tR_bind hR hS h fun b L1 f1 H1 v e1 r1 s1 rv h1 => ?_)) fun c s1 ⟨H1, I1, q1⟩ => ?_)
  · subst rv
    cases b with
    | true => exact Aft.here h1 r1 true rfl
    | false => exact ⟨f1, l, L1, r1, s1, h1⟩
  · cases c with
    | true => exact ⟨H1, I1, q1⟩
    | false => exact hr.run wh pins s1 σ H1 Q I1 q1
theorem st_and {es : List Expr} {er : E} {pos : Pos} (h : PW X (.BoolOp .And es pos) (tR X.K NM rB W (den P G er).ta)) : ST X NM W (.BoolOp .And es pos) (den P G (.and er)).t := h.pt
theorem st_or {es : List Expr} {er : E} {pos : Pos} (h : PW X (.BoolOp .Or es pos) (tR X.K NM rB W (den P G er).to)) : ST X NM W (.BoolOp .Or es pos) (den P G (.or er)).t := h.pt
theorem se_ife {c a b : Expr} {ec ea eb : E} {pos : Pos} (hc : ST X NM W c (den P G ec).t) (ha : SE X NM W a (den P G ea).e) (hb : SE X NM W b (den P G eb).e) : SE X NM W (.IfExp c a b pos) (den P G (.ife ec ea eb)).e := by
  refine pe_weak (pe_ifExp hc ha hb) fun σ H Q h => ?_
  obtain ⟨f, l, L, hR, hS, h⟩ := h
  refine tR_bind hR hS h fun k L1 f1 H1 v e1 r1 s1 rv h1 => ?_
  subst rv
  cases k with
  | true => exact ⟨f1, l, L1, r1, s1, h1⟩
  | false => exact ⟨f1, l, L1, r1, s1, h1⟩
/-- and, or as values -/
theorem se_one {op : BoolOp} {a : Expr} {pos : Pos} {dn : LS → LH → R LV} (h : SE X NM W a dn) : SE X NM W (.BoolOp op [a] pos) dn := pe_one h
theorem se_and {a b : Expr} {es : List Expr} {ea er : E} {pos : Pos} (ht : TruS X NM W P G) (hn : (den P G er).nil = false) (ha : SE X NM W a (den P G ea).e) (hr : SE X NM W (.BoolOp .And (b :: es) pos) (den P G er).an) : SE X NM W (.BoolOp .And (a :: b :: es) pos) (den P G (.cons ea er)).an := by
  refine ⟨fun pins s σ H Q I h => ?_⟩
  obtain ⟨f, l, L, hR, hS, h⟩ := h
  have h : Aft X.K NM f H (if (den P G er).nil then (den P G ea).e l L else ((den P G ea).e l L).bind fun v H1 => (truth P G v H1).bind fun b H2 => if b then (den P G er).an l H2 else .ok v H2) _ _ := h
  rw [hn, if_neg Bool.false_ne_true] at h
  refine BoolOp_and (thn (ha.run pins s σ H (fun x H1 => ∃ f1 a L1, RelH X.K NM f1 L1 H1 ∧ SR X.K NM f1 H1 l σ ∧ VR X.K NM f1 H1 a x ∧ Aft X.K NM f1 H1 ((truth P G a L1).bind fun b H2 => if b then (den P G er).an l H2 else .ok a H2) (fun a f' H' => ∀ b, VR X.K NM f' H' a b → Q b H') (Wx X.K NM W σ)) I
    (tR_bind hR hS h fun x L1 f1 H1 v e1 r1 s1 rv h1 => ⟨f1, x, L1, r1, s1, rv, h1⟩)) fun v s1 ⟨x, H1, I1, r1, f1, a1, L1, q1, q2, q3, q4⟩ => ?_)
  refine thn (ht pins s1 σ H1 x v (fun b H2 => if b = true then tR X.K NM (VR X.K NM) W (den P G er).an σ H2 Q else Q x H2) I1 r1 ⟨f1, a1, L1, q1, q3, ?_⟩) fun b s2 ⟨H2, I2, q⟩ => ?_
  · cases q : truth P G a1 L1 with
    | ok c L2 =>
      rw [q] at q4
      intro f2 H2 e r z rz
      subst rz
      cases c with
      | true => exact ⟨f2, l, L2, r, q2.mono e.mo, Aft.ext q4 e⟩
      | false => exact Aft.here (Aft.ext q4 e) r x (VR.mono e.mo _ _ q3)
    | exc z L2 => rw [q] at q4; exact q4
    | bad => rw [q] at q4; exact q4
  · cases b with
    | true => exact hr.run pins s2 σ H2 Q I2 q
    | false => exact ⟨x, H2, I2, r1, q⟩
end
end PM

set_option Elab.async false
set_option linter.all false
set_option autoImplicit false
set_option maxHeartbeats 1000000
/-! # PM3: functions' promises, the classes' facts, operations by values -/
namespace PM
open PySem PySem.Spec PyProof.Rows
open L2 hiding St

/-- the fixed names at the head of a law's list -/
def stdN : List Str := ["", "append", "extend", "pop", "insert", "code", "clear", "reverse", "get", "split", "join", "partition", "index", "count", "__init__", "__eq__", "__add__", "__sub__", "__mul__", "__neg__", "__bool__", "__len__", "__str__", "__repr__", "__or__", "__contains__"]

/-- types that are asked for, or of values -/
def tyNames : List String := ["NoneType", "bool", "int", "str", "tuple", "list", "dict"]
/-- builtins that no module of the law hides -/
def bltNames : List Str := ["len", "int", "bool", "str", "repr", "abs", "sum", "max", "min", "list", "tuple", "dict", "sorted", "all", "any", "isinstance", "range", "enumerate", "zip", "reversed"]
/-- a function's promise -/
def FnS (Pr : Program) (w : World) (K : PySem.W.Frag) (mg : Str → Option Value) (base : Heap) (NM : List Str) (k : Nat) (f : Addr) (g : List LV → List (Nat × LV) → LH → R LV) : Prop :=
  ∀ (A : Around) (outer : List Env) (s : Shared) (H : Hp) (us : List Value) (vs : List V) (kw : List (Str × Value)) (kv : List (Str × V)) (Q : VK) (E : XK), Room k A → Env0 Pr w K mg base A outer s H → Vals vs us → KV kv kw →
    (∃ j L xs kxs, RelH K NM j L H ∧ VRs K NM j H xs vs ∧ FR K NM j H kxs kv ∧ Aft K NM j H (g xs kxs L) (fun a f' H' => ∀ v, VR K NM f' H' a v → Q v H') (fun x f' H' => ∀ cls d, XR K NM f' H' x cls d → E cls d H')) →
    codeAny (model Pr w) A (.call (.ref f) ⟨us, kw⟩) (CR (L2.CX Pr w) outer Pr w H s Q E) s

section
variable (K : PySem.W.Frag) (NM : List Str)
abbrev gad (g : Nat) : Addr := He.ga K (nm NM g)
/-- the body of an own error's __init__: the base's name, self's, the code, the field and its parameter -/
def errShape (body : List Stmt) : Option (Str × Str × Str × Option (Str × Str)) := match body with
  | .Expr (.Call (.Attribute (.Name b _) m ap) [.Name s _, .Constant (.str _) _ _] [] cp) _ :: .Assign [.Attribute (.Name s2 _) c _] (.Constant (.str code) _ _) _ :: r =>
    if m = ("__init__" : Str) ∧ s2 = s ∧ c = ("code" : Str) ∧ (ap.endLine == cp.line) = true ∧ ¬ b = ("super" : Str) then (match r with
      | [] => some (b, s, code, none)
      | [.Assign [.Attribute (.Name s3 _) f _] (.Name q _) _] => if s3 = s then some (b, s, code, some (f, q)) else none
      | _ => none) else none
  | _ => none
def cstrs : List Expr → Option (List Str)
  | [] => some []
  | .Constant (.str x) _ _ :: r => (cstrs r).map (x :: ·)
  | _ => none
def fldTest (en : Str) : Expr → Option (List Str)
  | .Compare (.Attribute (.Name x _) c _) [.In] [.Tuple es _ _] _ => if x = en ∧ c = ("code" : Str) ∧ es.length ≤ 100 then cstrs es else none
  | .Compare (.Attribute (.Name x _) c _) [.Eq] [.Constant (.str z) _ _] _ => if x = en ∧ c = ("code" : Str) ∧ SeqAt.shaped (.str z) = true then some [z] else none
  | _ => none
/-- the name of the field that the def reads, by the code; none: no field -/
def fieldOf (en : Str) (code : Str) : List Stmt → Option (Option Str)
  | [.Return (some (.IfExp t (.Tuple [] _ _) (.Tuple [.Attribute (.Name x _) f _] _ _) _)) _] => (match fldTest en t with
    | some cs => if x = en then some (if cs.contains code then none else some f) else none
    | none => none)
  | .If t [.Return (some (.Tuple [.Attribute (.Name x _) f _] _ _)) _] [] _ :: r => (match fldTest en t with
    | some cs => if x = en then (if cs.contains code then some (some f) else fieldOf en code r) else none
    | none => none)
  | _ => none
theorem nm_inj {NM : List Str} (nd : NM.Nodup) {i j : Nat} (hi : i < NM.length) (hj : j < NM.length) (e : nm NM i = nm NM j) : i = j := by
  unfold nm at e
  rw [List.getD_eq_getElem?_getD, List.getD_eq_getElem?_getD, List.getElem?_eq_getElem hi, List.getElem?_eq_getElem hj] at e
  exact (List.getElem_inj nd).mp e
/-- the def that catches: its parameter, the three classes, the error's name, the def that reads the field -/
def whyShape (body : List Stmt) : Option (Str × Str × Str × Str × Str × Str) := match body with
  | [.Try [.Return (some (.Tuple [.Constant (.str told) _ _, .Call (.Name a _) [] [] _] _ _)) _] [.ExceptHandler (some (.Tuple [.Name x1 _, .Name x2 _, .Name x3 _] _ _)) (some en) [.Return (some (.Tuple [.Attribute (.Name e1 _) c _, .Call (.Name fn _) [.Name e2 _] [] _] _ _)) _] _] [] [] _] =>
    if told = ("told" : Str) ∧ e1 = en ∧ e2 = en ∧ c = ("code" : Str) then some (a, x1, x2, x3, en, fn) else none
  | _ => none
/-- an own error class's __init__, by the text -/
structure ErrI (P : PM.Prog) (i : List Nat × Option Nat) (fI : Addr) : Prop where
  ex : ∃ (fd : FuncData) (x qual : Str) (params : Arguments) (body : List Stmt) (scope : Scope) (N : List Str) (b : Nat) (s : Str) (fl : Option (Str × Str)),
    FunD K x qual params body scope [] [] fI fd ∧ FnScope N (s :: (fl.map (·.2)).toList) scope ∧ params.posonlyargs = [] ∧ params.kwonlyargs = [] ∧ params.kwarg = none ∧ params.vararg = none ∧ params.args.map (·.arg) = s :: (fl.map (·.2)).toList ∧
    errShape body = some (nm NM b, s, ⟨i.1.toArray⟩, fl) ∧ fl.map (·.1) = i.2.map (nm NM) ∧ P.glb b = true ∧ scope.names.lookup (nm NM b) = some .globalImplicit ∧ (∀ y ∈ s :: (fl.map (·.2)).toList, (y == ("__debug__" : Str)) = false ∧ (y == ("__classdict__" : Str)) = false) ∧ (nm NM b == ("__debug__" : Str)) = false ∧
    PySem.W.readsIn K (gad K NM b) (.type "type") = true ∧ PySem.W.specialIn K (.ref (gad K NM b)) "__getattribute__" = some (some (.builtin "type.__getattribute__")) ∧ PySem.W.findCls K (.ref (gad K NM b)) (.type "type") "__init__" = some (.val (.builtin "ValueError.__init__"))
/-- an own error class -/
structure ErrF (P : PM.Prog) (c : Nat) (i : List Nat × Option Nat) : Prop where
  xf : XfC K (gad K NM c)
  oex : OexC K (gad K NM c)
  noC : PySem.W.findIn K (.ref (gad K NM c)) (nm NM kCode) = some none ∧ kCode < NM.length
  noF : ∀ f, i.2 = some f → PySem.W.findIn K (.ref (gad K NM c)) (nm NM f) = some none ∧ f < NM.length ∧ f ≠ kCode
  ini : ∃ fI, PySem.W.findIn K (.ref (gad K NM c)) "__init__" = some (some (.ref fI)) ∧ PySem.W.typeIn K (.ref fI) = some (.type "function") ∧ ErrI K NM P i fI
  gl : P.glb c = true
/-- the def that catches, by the text -/
structure WhyF (P : PM.Prog) (w : Nat) : Prop where
  ex : ∃ (fd fd2 : FuncData) (params p2 : Arguments) (body b2 : List Stmt) (sc sc2 : Scope) (N N2 : List Str) (a en e2 : Str) (c1 c2 c3 ff : Nat),
    FunD K (nm NM w) (nm NM w) params body sc [] [] (gad K NM w) fd ∧ FnScope N [a] sc ∧ params.posonlyargs = [] ∧ params.kwonlyargs = [] ∧ params.kwarg = none ∧ params.vararg = none ∧ params.args.map (·.arg) = [a] ∧
    whyShape body = some (a, nm NM c1, nm NM c2, nm NM c3, en, nm NM ff) ∧ N[1]? = some en ∧ sc.names.lookup en = some .local ∧
    (∀ y ∈ [a, en, e2, nm NM c1, nm NM c2, nm NM c3, nm NM ff, nm NM w], (y == ("__debug__" : Str)) = false ∧ (y == ("__classdict__" : Str)) = false) ∧
    (∀ g ∈ [c1, c2, c3, ff], P.glb g = true ∧ sc.names.lookup (nm NM g) = some .globalImplicit) ∧ P.glb w = true ∧
    FunD K (nm NM ff) (nm NM ff) p2 b2 sc2 [] [] (gad K NM ff) fd2 ∧ FnScope N2 [e2] sc2 ∧ p2.posonlyargs = [] ∧ p2.kwonlyargs = [] ∧ p2.kwarg = none ∧ p2.vararg = none ∧ p2.args.map (·.arg) = [e2] ∧
    ∀ c i, P.err c = some i → PySem.W.exmAny K (.ref (gad K NM c)) [.ref (gad K NM c1), .ref (gad K NM c2), .ref (gad K NM c3)] = some true ∧ fieldOf e2 ⟨i.1.toArray⟩ b2 = some (i.2.map (nm NM)) ∧ SeqAt.shaped (.str ⟨i.1.toArray⟩) = true
/-- the classes as they stand behind the top -/
structure Sf (P : PM.Prog) (adr : Nat → Nat → Addr) : Prop where
  nd : NM.Nodup
  pre : ∀ i, i < stdN.length → nm NM i = nm stdN i
  cls : ∀ c m x, P.mem c m = some x → Cls K (gad K NM c)
  meth : ∀ c m d, P.mem c m = some (.meth d) → Meth K (gad K NM c) (nm NM m) (adr d m) ∧ PySem.W.selfFirst K (gad K NM c) = true ∧ m < NM.length
  prop : ∀ c m d, P.mem c m = some (.prop d) → ∃ p, PropOf K (gad K NM c) (nm NM m) p (adr d m)
  fld : ∀ c m, P.mem c m = some .fld → NoAttr K (gad K NM c) (nm NM m) ∧ m < NM.length
  con : ∀ c m x, P.mem c m = some (.const x) → ∃ u w, Con K (gad K NM c) (nm NM m) w u ∧ (∀ f H, VR K NM f H x w) ∧ m < NM.length
  nf : ∀ c c' d, P.mem c kEq = some (.meth d) → P.isCls c' = true → PySem.W.notFirst K (gad K NM c) (.ref (gad K NM c')) = true
  neq : ∀ c d, P.mem c kEq = some (.meth d) → PySem.W.findIn K (.ref (gad K NM c)) "__ne__" = some (some (.builtin "object.__ne__")) ∧ PySem.W.mroIn K (gad K NM c) (.type "object") = some true
  nfT : ∀ c d, P.mem c kEq = some (.meth d) → ∀ t ∈ ["NoneType", "bool", "int", "str", "tuple", "list"], PySem.W.notFirst K (gad K NM c) (.type t) = true
  ccl : ∀ c m x, P.isCls c = true → P.mem c m = some (.const x) → ∃ u w, PySem.W.readsIn K (gad K NM c) (.type "type") = true ∧ PySem.W.findCls K (.ref (gad K NM c)) (.type "type") (nm NM m) = some (.val u) ∧ RelV w u ∧ ∀ f H, VR K NM f H x w
  mkc : ∀ c d, P.isCls c = true → P.mem c kInit = some (.meth d) → Mk K (gad K NM c) (adr d kInit)
  mkk : ∀ c, P.isCls c = true → PySem.W.keepIn K (.ref (gad K NM c)) = true
  mkn : ∀ c x, P.mem c kInit = some x → P.isCls c = true
  sis : ∀ c, P.isCls c = true → Cls K (gad K NM c) ∧ PySem.W.findIn K (.ref (gad K NM c)) "__class__" = some (some (.builtin "object.__class__")) ∧ PySem.W.specialIn K (.builtin "object.__class__") "__get__" = some (some (.builtin "getset_descriptor.__get__")) ∧
    PySem.W.takesIn K (.builtin "object.__class__") = some true ∧ PySem.W.mroIn K (gad K NM c) (.type "object") = some true
  kit1 : ∀ c d, P.isCls c = true → P.isCls d = true → PySem.W.kitOne K (.ref (gad K NM c)) (.ref (gad K NM d)) = some ((P.mro c).contains d)
  kit2 : ∀ t ∈ tyNames, ∀ d, P.isCls d = true → PySem.W.kitOne K (.type t) (.ref (gad K NM d)) = some false
  kit3 : ∀ t ∈ tyNames, ∀ c, P.isCls c = true → PySem.W.kitOne K (.ref (gad K NM c)) (.type t) = some false
  err : ∀ c i, P.err c = some i → ErrF K NM P c i
  why : ∀ w, P.why = some w → WhyF K NM P w
  fnk : ∀ g f, P.isCls g = false → P.fn 0 g = some f → PySem.W.keepIn K (.ref (gad K NM g)) = true ∧ adr 0 g = gad K NM g
end
/-- a def that makes lambdas, where it runs -/
structure LamAt (X : Cx) (NM : List Str) (x : Str) : Prop where
  mem : (tabOf X.K (codeOf X.K (He.ga X.K x)), lamQ x) ∈ LT X.K NM
  q : X.env.qual ++ ("<lambda>" : Str) = lamQ x
  code : X.env.code = .ref (codeOf X.K (He.ga X.K x))
  tab : LamX.TabB X.base X.mg (codeOf X.K (He.ga X.K x)) (tabOf X.K (codeOf X.K (He.ga X.K x)))
  un : ∀ p ∈ LT X.K NM, p.1 = tabOf X.K (codeOf X.K (He.ga X.K x)) → p.2 = lamQ x
/-- what a body leans on -/
structure Fc (X : Cx) (NM : List Str) (W : WX) (P : PM.Prog) (G : Gam) (adr : Nat → Nat → Addr) (k : Nat) : Prop where
  sf : Sf X.K NM P adr
  gs : ∀ c m, FnS X.prog X.w X.K X.mg X.base NM k (adr c m) (G c m)
  rm : Room (k + 2) X.A
  tk : Takes X W
  po : PassesOwn (model X.prog X.w) X.A X.env X.xe
  calm : X.calm = true
  xn : X.N.Nodup
  mgn : ∀ x ∈ bltNames, X.mg x = none
  mgc : ∀ g v, P.con g = some v → ∃ w u, X.mg (nm NM g) = some u ∧ RelV w u ∧ ∀ f H, VR X.K NM f H v w
  mgs : ∀ g, P.glb g = true → X.mg (nm NM g) = some (.ref (gad X.K NM g))
  lam : ∀ e ∈ P.lams, X.env.scope.names = e.2 → LamAt X NM (nm NM e.1) ∧ Room (k + 4) X.A

section
variable {X : Cx} {NM : List Str} {W : WX} {P : PM.Prog} {G : Gam} {adr : Nat → Nat → Addr} {k : Nat}
variable {pins : List (Addr × Obj)} {σ : St} {H : Hp} {s : Shared} {Q : VK}
/-- the callee runs -/
theorem run_own {A : Around} {f : Addr} {g : List LV → List (Nat × LV) → LH → R LV} {us : List Value} {vs : List V} {kw : List (Str × Value)} {kv : List (Str × V)} (F : FnS X.prog X.w X.K X.mg X.base NM k f g) (hr : Room k A) (e0 : Env0 X.prog X.w X.K X.mg X.base A X.stack s H) (tk : Takes X W) (I : Inv X pins σ H s)
    (r : Vals vs us) (rk : KV kv kw) (h : ∃ j L xs kxs, RelH X.K NM j L H ∧ VRs X.K NM j H xs vs ∧ FR X.K NM j H kxs kv ∧ Aft X.K NM j H (g xs kxs L) (fun a f' H' => ∀ v, VR X.K NM f' H' a v → Q v H') (Wx X.K NM W σ)) :
    wpAny (model X.prog X.w) A (call (.ref f) us kw) (EP X pins σ Q) X.xe s := by
  refine wpAny_call (codeAny_mono (F A X.stack s H us vs kw kv Q (WE W σ) hr e0 r rk h) fun r s' hq => ?_)
  cases r with
  | error e => exact passAt tk σ pins H s e s' I hq
  | ok fl =>
    cases fl with
    | ret u => exact I.after hq
    | next => exact False.elim hq
    | brk => exact False.elim hq
    | cont => exact False.elim hq
theorem FR.lookup {K : PySem.W.Frag} {f : Inj} (nd : NM.Nodup) {n : Nat} (hn : n < NM.length) : ∀ {fs : List (Nat × LV)} {gs : List (Str × V)}, FR K NM f H fs gs →
    (fget fs n = none → gs.lookup (nm NM n) = none) ∧ ∀ x, fget fs n = some x → ∃ v, gs.lookup (nm NM n) = some v ∧ VR K NM f H x v
  | [], gs, h => by
    obtain rfl : gs = [] := h
    exact ⟨fun _ => rfl, fun x e => by cases e⟩
  | (m, y) :: fs, gs, h => by
    obtain ⟨w, ws, rfl, hm, e2, e3⟩ := h
    obtain ⟨i1, i2⟩ := FR.lookup nd hn e3
    by_cases e : m = n
    · subst e
      refine ⟨fun q => ?_, fun x q => ?_⟩
      · unfold fget at q; rw [if_pos rfl] at q; cases q
      · unfold fget at q; rw [if_pos rfl] at q; cases q
        exact ⟨w, by rw [List.lookup_cons, beq_self_eq_true], e2⟩
    · have ne : (nm NM n == nm NM m) = false := by
        rw [beq_eq_false_iff_ne]
        intro z
        unfold nm at z
        rw [List.getD_eq_getElem?_getD, List.getD_eq_getElem?_getD, List.getElem?_eq_getElem hn, List.getElem?_eq_getElem hm] at z
        exact e ((List.getElem_inj nd).mp z).symm
      refine ⟨fun q => ?_, fun x q => ?_⟩
      · unfold fget at q; rw [if_neg e] at q
        rw [List.lookup_cons, ne]
        exact i1 q
      · unfold fget at q; rw [if_neg e] at q
        rw [List.lookup_cons, ne]
        exact i2 x q
theorem FR.put {K : PySem.W.Frag} {f : Inj} (nd : NM.Nodup) {n : Nat} (hn : n < NM.length) {x : LV} {v : V} (rv : VR K NM f H x v) : ∀ {fs : List (Nat × LV)} {gs : List (Str × V)}, FR K NM f H fs gs → FR K NM f H (fput fs n x) (putF (nm NM n) v gs)
  | [], gs, h => by
    obtain rfl : gs = [] := h
    exact ⟨v, [], rfl, hn, rv, rfl⟩
  | (m, y) :: fs, gs, h => by
    obtain ⟨w, ws, rfl, hm, e2, e3⟩ := h
    unfold fput putF
    by_cases e : m = n
    · subst e
      rw [if_pos rfl, if_pos rfl]
      exact ⟨v, ws, rfl, hm, rv, e3⟩
    · have ne : ¬ nm NM m = nm NM n := by
        intro z
        unfold nm at z
        rw [List.getD_eq_getElem?_getD, List.getD_eq_getElem?_getD, List.getElem?_eq_getElem hn, List.getElem?_eq_getElem hm] at z
        exact e ((List.getElem_inj nd).mp z)
      rw [if_neg e, if_neg ne]
      exact ⟨w, _, rfl, hm, e2, FR.put nd hn rv e3⟩
theorem FR.length {K : PySem.W.Frag} {f : Inj} : ∀ {fs : List (Nat × LV)} {gs : List (Str × V)}, FR K NM f H fs gs → fs.length = gs.length
  | [], gs, h => by
    obtain rfl : gs = [] := h
    rfl
  | (m, y) :: fs, gs, h => by
    obtain ⟨w, ws, rfl, hm, e2, e3⟩ := h
    simp [FR.length e3]
/-- an instance -/
theorem fr_zipN {K : PySem.W.Frag} {f : Inj} : ∀ {ns : List Nat} {xs : List LV} {vs : List V}, ns.length = xs.length → (∀ n ∈ ns, n < NM.length) → VRs K NM f H xs vs → FR K NM f H (ns.zip xs) ((ns.map (nm NM)).zip vs)
  | [], xs, vs, e, _, h => by simp; rfl
  | n :: ns, [], vs, e, _, h => by simp at e
  | n :: ns, x :: xs, vs, e, hn, h => by
    obtain ⟨w, ws, rfl, e2, e3⟩ := h
    exact ⟨w, _, rfl, hn n (List.mem_cons_self ..), e2, fr_zipN (by simpa using e) (fun m hm => hn m (List.mem_cons_of_mem _ hm)) e3⟩
theorem ins_at {K : PySem.W.Frag} {f : Inj} {L : LH} {a : LV} {c : Nat} {fs : List (Nat × LV)} {x : V} (r : RelH K NM f L H) (va : VR K NM f H a x) (e : insOf L a = some (c, fs)) : ∃ p dx gs, x = .ref p ∧ H p = some (.ins (gad K NM c) dx gs) ∧ FR K NM f H fs gs := by
  cases a with
  | ref a =>
    unfold insOf at e
    dsimp only at e
    split at e
    · rename_i c' fs' e'
      cases e
      obtain ⟨p, e1, e2⟩ := va
      obtain ⟨q, e3, dx, gs, e4, e5⟩ := r.obj a _ e'
      rw [e2] at e3
      cases e3
      exact ⟨p, dx, gs, e1, e4, e5⟩
    · cases e
  | obj c' ns xs =>
    cases e
    obtain ⟨p, dx, vs, e1, e2, e3, e4, e5, e6⟩ := va
    exact ⟨p, dx, _, e1, e2, fr_zipN e4 e5 e6.on⟩
  | _ => cases e
/-- a list -/
theorem lst_at {K : PySem.W.Frag} {f : Inj} {L : LH} {a : Nat} {xs : List LV} {x : V} (r : RelH K NM f L H) (va : VR K NM f H (.ref a) x) (e : L[a]? = some (.lst xs)) : ∃ p vs, x = .ref p ∧ f a = some p ∧ H p = some (.lst vs) ∧ VRs K NM f H xs vs := by
  obtain ⟨p, e1, e2⟩ := va
  obtain ⟨q, e3, vs, e4, e5⟩ := r.obj a _ e
  rw [e2] at e3
  cases e3
  exact ⟨p, vs, e1, e2, e4, e5⟩
theorem lstH_at {K : PySem.W.Frag} {f : Inj} {L : LH} {a : LV} {xs : List LV} {x : V} (r : RelH K NM f L H) (va : VR K NM f H a x) (e : lstH L a = some xs) : ∃ p vs, x = .ref p ∧ H p = some (.lst vs) ∧ VRs K NM f H xs vs := by
  cases a with
  | ref a =>
    have e : (match L[a]? with
      | some (.lst xs) => some xs
      | _ => none) = some xs := e
    split at e
    · rename_i xs' e'
      cases e
      obtain ⟨p, vs, e1, _, e2, e3⟩ := lst_at r va e'
      exact ⟨p, vs, e1, e2, e3⟩
    · cases e
  | fz xs' =>
    cases e
    obtain ⟨p, vs, e1, e2, e3⟩ := va
    exact ⟨p, vs, e1, e2.1, e3.on⟩
  | _ => cases e
theorem no_dic {K : PySem.W.Frag} {f : Inj} {L : LH} {a : Nat} {kvs : List (LV × LV)} (r : RelH K NM f L H) (e : L[a]? = some (.dic kvs)) : False := by
  obtain ⟨q, e3, e4⟩ := r.obj a _ e
  exact e4
theorem insR_at {K : PySem.W.Frag} {f : Inj} {L : LH} {a c : Nat} {fs : List (Nat × LV)} {x : V} (r : RelH K NM f L H) (va : VR K NM f H (.ref a) x) (e : L[a]? = some (.ins c fs)) : ∃ p dx gs, x = .ref p ∧ f a = some p ∧ H p = some (.ins (gad K NM c) dx gs) ∧ FR K NM f H fs gs := by
  obtain ⟨p, e1, e2⟩ := va
  obtain ⟨q, e3, dx, gs, e4, e5⟩ := r.obj a _ e
  rw [e2] at e3
  cases e3
  exact ⟨p, dx, gs, e1, e2, e4, e5⟩
/-- an own method's run -/
theorem ownM_run {A : Around} {us : List Value} {vs : List V} {c m : Nat} {xs : List LV} {j : Inj} {L : LH} (F : Fc X NM W P G adr k) (hr : Room k A) (e0 : Env0 X.prog X.w X.K X.mg X.base A X.stack s H) (I : Inv X pins σ H s) (r : Vals vs us) (hR : RelH X.K NM j L H) (rv : VRs X.K NM j H xs vs)
    (h : Aft X.K NM j H (ownM P G L c m xs) (fun a f' H' => ∀ v, VR X.K NM f' H' a v → Q v H') (Wx X.K NM W σ)) :
    ∃ d, P.mem c m = some (.meth d) ∧ wpAny (model X.prog X.w) A (call (.ref (adr d m)) us) (EP X pins σ Q) X.xe s := by
  unfold ownM at h
  split at h
  · rename_i d hm
    exact ⟨d, hm, run_own (F.gs d m) hr e0 F.tk I r (kv := []) (kw := []) .nil ⟨j, L, xs, [], hR, rv, rfl, h⟩⟩
  · exact h.elim
theorem Fc.room (F : Fc X NM W P G adr k) : Room k X.A := F.rm.mono (by omega)
/-- a value that comes back is never NotImplemented -/
theorem cmp_back {R : Value → Shared → Prop} {z : V} {w : Value} {s' : Shared} (r : RelV z w) (h : R w s') : PySem.W.CmpBack R w s' := by
  cases z with
  | non => cases r; exact h
  | bl b => cases r; exact h
  | int i => obtain ⟨t, rfl⟩ := r; exact h
  | str i => obtain ⟨t, rfl⟩ := r; exact h
  | byt i => obtain ⟨t, rfl⟩ := r; exact h
  | flt i => obtain ⟨t, rfl⟩ := r; exact h
  | ref i => cases r; exact h
  | ty i => cases r; exact h
/-- x op y of two instances of one class -/
theorem own_bin {op : Operator} {m : Nat} {x y : V} {v u : Value} {a b : LV} {c : Nat} {fs gs : List (Nat × LV)} {g : Inj} {L : LH} (F : Fc X NM W P G adr k) (hm : PySem.dunder op.info.2 = nm stdN m) (hl : m < stdN.length) (I : Inv X pins σ H s) (rx : RelV x v) (ry : RelV y u) (hR : RelH X.K NM g L H)
    (va : VR X.K NM g H a x) (vb : VR X.K NM g H b y) (e1 : insOf L a = some (c, fs)) (e2 : insOf L b = some (c, gs))
    (h : Aft X.K NM g H (ownM P G L c m [a, b]) (fun c f' H' => ∀ z, VR X.K NM f' H' c z → Q z H') (Wx X.K NM W σ)) : wpAny (model X.prog X.w) X.A (binaryOp op v u) (EP X pins σ Q) X.xe s := by
  obtain ⟨p, dx, hs, rfl, o1, _⟩ := ins_at hR va e1
  obtain ⟨q, dy, ks, rfl, o2, _⟩ := ins_at hR vb e2
  cases rx
  cases ry
  obtain ⟨d, hd, run⟩ := ownM_run (vs := [.ref p, .ref q]) (us := [.ref p, .ref q]) F F.room I.env0 I (.cons rfl (.cons rfl .nil)) hR (VRs.cons va (VRs.cons vb VRs.nil)) h
  obtain ⟨M, sfst, _⟩ := F.sf.meth c m d hd
  obtain ⟨mA, O, _, _, _, _⟩ := ins_get I.hok o1
  obtain ⟨mB, O', _, _, _, _⟩ := ins_get I.hok o2
  obtain ⟨od, J, _⟩ := O.look
  obtain ⟨od', J', _⟩ := O'.look
  obtain ⟨fm, hF⟩ := I.fr
  refine PySem.W.binop_K hF I.ok.mod.kin J J'.type sfst (by rw [hm, ← F.sf.pre m hl]; exact M.at_) M.fn (wpAny_mono run (fun w s' z => ?_) fun _ _ x => x)
  obtain ⟨z', H', I', rz, qz⟩ := z
  exact cmp_back rz ⟨z', H', I', rz, qz⟩
end
end PM

set_option Elab.async false
set_option linter.all false
set_option autoImplicit false
set_option maxHeartbeats 1000000
/-! # PM4: binary operations -/
namespace PM
open PySem PySem.Spec PyProof.Rows
open L2 hiding St
section
variable {X : Cx} {NM : List Str} {W : WX} {P : PM.Prog} {G : Gam} {adr : Nat → Nat → Addr} {k : Nat}
theorem strV_len (s : List Nat) : (⟨s.toArray⟩ : Str).length = s.length := by simp [Str.length]
theorem strV_cat (s t : List Nat) : (⟨s.toArray⟩ : Str) ++ (⟨t.toArray⟩ : Str) = ⟨(s ++ t).toArray⟩ := by
  show (⟨s.toArray ++ t.toArray⟩ : Str) = _
  simp
/-- the end of a run without a change -/
theorem Aft.val {α : Type} {K : PySem.W.Frag} {f : Inj} {L : LH} {H : Hp} {a : α} {Q : α → Inj → Hp → Prop} {Qx : LX → Inj → Hp → Prop} (h : Aft K NM f H (.ok a L) Q Qx) (r : RelH K NM f L H) : Q a f H := Aft.here h r
/-- what is left: instances -/
theorem opO_ins {op : Operator} {o : BOp} {pins : List (Addr × Obj)} {s : Shared} {σ : L2.St} {H : Hp} {x y : V} {v u : Value} {Q : VK} {g : Inj} {a b : LV} {L : LH} (F : Fc X NM W P G adr k) (ho : ∀ m, opK o = some m → PySem.dunder op.info.2 = nm stdN m ∧ m < stdN.length) (I : Inv X pins σ H s) (rx : L2.RelV x v) (ry : L2.RelV y u) (hR : RelH X.K NM g L H)
    (va : VR X.K NM g H a x) (vb : VR X.K NM g H b y)
    (h : Aft X.K NM g H (match insOf L a, insOf L b with
    | some (c, _), some (c', _) => if c = c' then match opK o with
      | some m => ownM P G L c m [a, b]
      | none => .bad else .bad
    | _, _ => .bad : R LV) (fun c f' H' => ∀ z, VR X.K NM f' H' c z → Q z H') (Wx X.K NM W σ)) : wpAny (model X.prog X.w) X.A (binaryOp op v u) (EP X pins σ Q) X.xe s := by
  split at h
  · rename_i c fs c' gs e1 e2
    split at h
    · rename_i e
      subst e
      split at h
      · rename_i m hm
        obtain ⟨h1, h2⟩ := ho m hm
        exact own_bin F h1 h2 I rx ry hR va vb e1 e2 h
      · exact h.elim
    · exact h.elim
  · exact h.elim
/-- lists, instances -/
theorem opO {op : Operator} {o : BOp} {pins : List (Addr × Obj)} {s : Shared} {σ : L2.St} {H : Hp} {x y : V} {v u : Value} {Q : VK} {g : Inj} {a b : LV} {L : LH} (F : Fc X NM W P G adr k) (ho : ∀ m, opK o = some m → PySem.dunder op.info.2 = nm stdN m ∧ m < stdN.length) (I : Inv X pins σ H s) (rx : L2.RelV x v) (ry : L2.RelV y u) (hR : RelH X.K NM g L H)
    (va : VR X.K NM g H a x) (vb : VR X.K NM g H b y) (h : Aft X.K NM g H (binopO P G o a b L) (fun c f' H' => ∀ z, VR X.K NM f' H' c z → Q z H') (Wx X.K NM W σ))
    (hc : ∀ (p q : Addr) (vs ws : List V) (xs ys : List LV), x = .ref p → y = .ref q → H p = some (.lst vs) → H q = some (.lst ws) → vs.length + ws.length ≤ sizeLine → VRs X.K NM g H (xs ++ ys) (vs ++ ws) → Aft X.K NM g H (listAdd o (xs ++ ys) L) (fun c f' H' => ∀ z, VR X.K NM f' H' c z → Q z H') (Wx X.K NM W σ) → wpAny (model X.prog X.w) X.A (binaryOp op v u) (EP X pins σ Q) X.xe s)
    (hm : ∀ (p : Addr) (j : Int) (vs : List V) (xs : List LV), x = .ref p → y = .int j → H p = some (.lst vs) → VRs X.K NM g H xs vs → Aft X.K NM g H (listMul o xs j L) (fun c f' H' => ∀ z, VR X.K NM f' H' c z → Q z H') (Wx X.K NM W σ) → wpAny (model X.prog X.w) X.A (binaryOp op v u) (EP X pins σ Q) X.xe s) : wpAny (model X.prog X.w) X.A (binaryOp op v u) (EP X pins σ Q) X.xe s := by
  unfold binopO at h
  split at h
  · rename_i xs e1
    obtain ⟨p, vs, rfl, s1, r1⟩ := lstH_at hR va e1
    split at h
    · rename_i j e2
      have : b = .int j := by
        cases b with
        | int i => cases e2; rfl
        | _ => cases e2
      subst this
      exact hm p j vs xs rfl vb s1 r1 h
    · split at h
      · rename_i ys e2
        obtain ⟨q, ws, rfl, s2, r2⟩ := lstH_at hR vb e2
        split at h
        · rename_i hz
          exact hc p q vs ws xs ys rfl rfl s1 s2 (by rw [← r1.length, ← r2.length, ← SL_eq]; exact hz) (VRs.append r1 r2) h
        · exact h.elim
      · exact h.elim
  · exact opO_ins F ho I rx ry hR va vb h
theorem nomul {o : BOp} {Q : LV → Inj → Hp → Prop} {Qx : LX → Inj → Hp → Prop} {K : PySem.W.Frag} {g : Inj} {H : Hp} {xs : List LV} {j : Int} {L : LH} (h : Aft K NM g H (listMul o xs j L) Q Qx) (h1 : o ≠ .mul) (h2 : o ≠ .mulM) : False := by
  unfold listMul at h
  split at h
  · cases o <;> first | exact absurd rfl h1 | exact absurd rfl h2 | exact h
  · exact h
theorem noadd {o : BOp} {Q : LV → Inj → Hp → Prop} {Qx : LX → Inj → Hp → Prop} {K : PySem.W.Frag} {g : Inj} {H : Hp} {xs : List LV} {L : LH} (h : Aft K NM g H (listAdd o xs L) Q Qx) (h1 : o ≠ .add) (h2 : o ≠ .addM) : False := by
  unfold listAdd at h
  cases o <;> first | exact absurd rfl h1 | exact absurd rfl h2 | exact h
theorem ops_add (F : Fc X NM W P G adr k) (m : Bool) : OpS X NM W (binaryOp .Add) (binop P G (if m then .addM else .add)) := by
  intro pins s σ H x y v u Q I rx ry ⟨g, a, b, L, hR, va, vb, h⟩
  have gen : Aft X.K NM g H (binopO P G (if m then .addM else .add) a b L) (fun c f' H' => ∀ z, VR X.K NM f' H' c z → Q z H') (Wx X.K NM W σ) → wpAny (model X.prog X.w) X.A (binaryOp .Add v u) (EP X pins σ Q) X.xe s := fun h => by
    refine opO F (fun i hi => ?_) I rx ry hR va vb h ?_ ?_
    · cases m <;> cases hi
      exact ⟨rfl, by decide⟩
    · intro p q vs ws xs ys e1 e2 s1 s2 hl r h
      subst e1
      subst e2
      cases m with
      | false => exact op_cat pins s σ H _ _ v u Q I rx ry ⟨p, q, vs, ws, rfl, rfl, s1, s2, hl, (newF_ok h hR r).2⟩
      | true => exact op_cat pins s σ H _ _ v u Q I rx ry ⟨p, q, vs, ws, rfl, rfl, s1, s2, hl, (newL_ok h hR r).2⟩
    · intro p j vs xs e1 e2 s1 r h
      exact (nomul h (by cases m <;> simp) (by cases m <;> simp)).elim
  cases a with
  | int i => cases b with
    | int j =>
      obtain rfl : x = .int i := va
      obtain rfl : y = .int j := vb
      cases m with
      | false => exact op_add pins s σ H _ _ v u Q I rx ry ⟨i, j, rfl, rfl, Aft.here h hR _ rfl⟩
      | true => exact h.elim
    | _ => exact gen h
  | str i => cases b with
    | str j =>
      obtain rfl : x = strV i := va
      obtain rfl : y = strV j := vb
      cases m with
      | true => exact h.elim
      | false =>
        have h : Aft X.K NM g H (if i.length + j.length ≤ SL then .ok (.str (i ++ j)) L else .bad : R LV) _ _ := h
        split at h
        · rename_i hz
          refine op_add_str pins s σ H _ _ v u Q I rx ry ⟨_, _, rfl, rfl, by rw [strV_len, strV_len, ← SL_eq]; exact hz, ?_⟩
          rw [strV_cat]
          exact Aft.here h hR _ rfl
        · exact h.elim
    | int j => cases m <;> exact h.elim
    | _ => exact gen h
  | tup xs => cases b with
    | tup ys =>
      obtain ⟨p, vs, rfl, s1, r1⟩ := va
      obtain ⟨q, ws, rfl, s2, r2⟩ := vb
      cases m with
      | true => exact h.elim
      | false =>
        have h : Aft X.K NM g H (if xs.length + ys.length ≤ SL then .ok (.tup (xs ++ ys)) L else .bad : R LV) _ _ := h
        split at h
        · rename_i hz
          have l1 := r1.length
          have l2 := r2.length
          refine op_catA pins s σ H _ _ v u Q I rx ry ⟨p, q, vs, ws, rfl, rfl, s1, s2, by rw [← l1, ← l2, ← SL_eq]; exact hz, fun e => ?_, fun _ e => ?_, fun _ _ p hp => ?_⟩
          · subst e
            exact Aft.here h hR _ ⟨q, ws, rfl, s2, by simpa using VRs.append r1 r2⟩
          · subst e
            exact Aft.here h hR _ ⟨p, vs, rfl, s1, by simpa using VRs.append r1 r2⟩
          · exact h g _ (Ext.put hp) (hR.put hp) _ ⟨p, vs ++ ws, rfl, SqT.of upd_same, VRs.mono (Ext.put hp).mo _ _ (VRs.append r1 r2)⟩
        · exact h.elim
    | _ => exact gen h
  | bl i => cases b with
    | bl j => cases m <;> exact h.elim
    | _ => exact gen h
  | _ => exact gen h
theorem ops_sub (F : Fc X NM W P G adr k) : OpS X NM W (binaryOp .Sub) (binop P G .sub) := by
  intro pins s σ H x y v u Q I rx ry ⟨g, a, b, L, hR, va, vb, h⟩
  have gen : Aft X.K NM g H (binopO P G .sub a b L) (fun c f' H' => ∀ z, VR X.K NM f' H' c z → Q z H') (Wx X.K NM W σ) → wpAny (model X.prog X.w) X.A (binaryOp .Sub v u) (EP X pins σ Q) X.xe s := fun h => by
    refine opO F (fun i hi => by cases hi; exact ⟨rfl, by decide⟩) I rx ry hR va vb h ?_ ?_
    · intro p q vs ws xs ys e1 e2 s1 s2 hl r h
      exact (noadd h (by simp) (by simp)).elim
    · intro p j vs xs e1 e2 s1 r h
      exact (nomul h (by simp) (by simp)).elim
  cases a with
  | int i => cases b with
    | int j =>
      obtain rfl : x = .int i := va
      obtain rfl : y = .int j := vb
      exact op_sub pins s σ H _ _ v u Q I rx ry ⟨i, j, rfl, rfl, Aft.here h hR _ rfl⟩
    | _ => exact gen h
  | bl i => cases b with
    | bl j =>
      obtain rfl : x = .bl i := va
      obtain rfl : y = .bl j := vb
      cases rx
      cases ry
      have q := Aft.here h hR _ rfl
      refine PyProof.Rows.sub_bool ⟨.int (b2i i - b2i j), H, I.tok _, ⟨_, rfl⟩, ?_⟩
      cases i <;> cases j <;> exact q
    | _ => exact gen h
  | str i => cases b <;> first | exact h.elim | exact gen h
  | tup xs => cases b <;> first | exact h.elim | exact gen h
  | _ => exact gen h
theorem mulOk_ok {i j : Int} (h : mulOk i j = true) : IntMulOk i j := by
  unfold mulOk at h
  rw [Bool.or_eq_true, Bool.or_eq_true, decide_eq_true_iff, decide_eq_true_iff, decide_eq_true_iff] at h
  rcases h with (h | h) | h
  · exact CMul.ok (.inl (by omega))
  · exact CMul.ok (.inr (by omega))
  · exact CMulW.ok h
/-- text * int -/
theorem mulStr {X : Cx} {pins : List (Addr × Obj)} {s : Shared} {σ : L2.St} {H : Hp} {i : List Nat} {j : Int} {t u : Tok} {Q : VK} (I : Inv X pins σ H s) (hz : -(2 ^ 62) ≤ j ∧ j < 2 ^ 62 ∧ i.length * j.toNat ≤ SL) (h : Q (strV (List.replicate j.toNat i).flatten) H) :
    wpAny (model X.prog X.w) X.A (binaryOp .Mult (.str ⟨i.toArray⟩ t) (.int j u)) (EP X pins σ Q) X.xe s := by
  obtain ⟨z1, z2, z3⟩ := hz
  rw [SL_eq] at z3
  have key : ∀ n : Nat, ∀ a : Array Nat, ((List.replicate n i.toArray).foldl (· ++ ·) a).toList = a.toList ++ (List.replicate n i).flatten := by
    intro n
    induction n with
    | zero => intro a; simp
    | succ n ih => intro a; rw [List.replicate_succ, List.foldl_cons, ih, List.replicate_succ, List.flatten_cons]; simp
  refine PySem.P.mul_str (by
    rw [decide_eq_false (by omega), decide_eq_false (by omega)]; rfl) (fun h1 _ => ?_) (fun h1 _ => ?_) ?_
  · have e : ((⟨i.toArray⟩ : Str).length : Int) = i.length := rfl
    rw [e]
    have h2 : (i.length : Int) * j ≤ 2 ^ 63 - 1 := by
      have : ((i.length * j.toNat : Nat) : Int) = (i.length : Int) * j := by rw [Int.natCast_mul, Int.toNat_of_nonneg (by omega)]
      rw [sizeLine_eq] at z3
      omega
    have := (Int.le_ediv_iff_mul_le (by omega : 0 < j)).mpr h2
    omega
  · show decide (i.length * j.toNat > sizeLine) = false
    rw [decide_eq_false]
    omega
  · have fin : ∀ (w : List Nat) (tk : Nat), w = (List.replicate j.toNat i).flatten → EP X pins σ Q (.str ⟨w.toArray⟩ tk) { s with toks := s.toks + 1 } := fun w tk e => by
      subst e
      exact ⟨strV (List.replicate j.toNat i).flatten, H, I.tok _, ⟨_, rfl⟩, h⟩
    have fin0 : ∀ (w : List Nat) (tk : Nat), w = (List.replicate j.toNat i).flatten → EP X pins σ Q (.str ⟨w.toArray⟩ tk) s := fun w tk e => by
      subst e
      exact ⟨strV (List.replicate j.toNat i).flatten, H, I, ⟨_, rfl⟩, h⟩
    split
    · rename_i hn
      have e0 : j.toNat = 0 := by omega
      exact ⟨Nat.zero_le _, fin [] _ (by rw [e0]; rfl)⟩
    · split
      · rename_i hn hq
        rw [Bool.or_eq_true, beq_iff_eq, beq_iff_eq] at hq
        rcases hq with rfl | hq
        · exact fin0 i _ (by simp)
        · have e0 : i = [] := List.eq_nil_of_length_eq_zero hq
          exact fin0 i _ (by subst e0; simp)
      · have e1 := key j.toNat #[]
        rw [List.nil_append] at e1
        have e2 : (List.replicate j.toNat i.toArray).foldl (· ++ ·) #[] = (List.replicate j.toNat i).flatten.toArray := by rw [← e1]
        rw [e2]
        refine ⟨?_, fin _ _ rfl⟩
        show (List.replicate j.toNat i).flatten.toArray.size ≤ sizeLine
        rw [List.size_toArray, List.length_flatten, List.map_replicate, List.sum_replicate_nat, Nat.mul_comm]
        exact z3
theorem ops_mul (F : Fc X NM W P G adr k) (m : Bool) : OpS X NM W (binaryOp .Mult) (binop P G (if m then .mulM else .mul)) := by
  intro pins s σ H x y v u Q I rx ry ⟨g, a, b, L, hR, va, vb, h⟩
  have gen : Aft X.K NM g H (binopO P G (if m then .mulM else .mul) a b L) (fun c f' H' => ∀ z, VR X.K NM f' H' c z → Q z H') (Wx X.K NM W σ) → wpAny (model X.prog X.w) X.A (binaryOp .Mult v u) (EP X pins σ Q) X.xe s := fun h => by
    refine opO F (fun i hi => ?_) I rx ry hR va vb h ?_ ?_
    · cases m <;> cases hi
      exact ⟨rfl, by decide⟩
    · intro p q vs ws xs ys e1 e2 s1 s2 hl r h
      exact (noadd h (by cases m <;> simp) (by cases m <;> simp)).elim
    · intro p j vs xs e1 e2 s1 r h
      subst e1
      subst e2
      unfold listMul at h
      split at h
      · rename_i hz
        have hz := of_decide_eq_true hz
        cases m with
        | false => exact op_rep pins s σ H _ _ v u Q I rx ry ⟨p, j, vs, rfl, rfl, s1, by omega, by omega, by rw [← r.length, ← SL_eq]; exact hz.2.2, (newF_ok h hR (VRs.rep r j.toNat)).2⟩
        | true => exact op_rep pins s σ H _ _ v u Q I rx ry ⟨p, j, vs, rfl, rfl, s1, by omega, by omega, by rw [← r.length, ← SL_eq]; exact hz.2.2, (newL_ok h hR (VRs.rep r j.toNat)).2⟩
      · exact h.elim
  cases a with
  | int i => cases b with
    | int j =>
      obtain rfl : x = .int i := va
      obtain rfl : y = .int j := vb
      cases m with
      | true => exact h.elim
      | false =>
        have h : Aft X.K NM g H (if mulOk i j = true then .ok (.int (i * j)) L else .bad : R LV) _ _ := h
        split at h
        · rename_i hm
          obtain ⟨t, rfl⟩ := rx
          obtain ⟨t', rfl⟩ := ry
          exact mul_int ⟨.int (i * j), H, I.tok _, ⟨_, rfl⟩, Aft.here h hR _ rfl⟩ (mulOk_ok hm)
        · exact h.elim
    | _ => exact gen h
  | str i => cases b with
    | str j => cases m <;> exact h.elim
    | int j =>
      obtain rfl : x = strV i := va
      obtain rfl : y = .int j := vb
      cases m with
      | true => exact h.elim
      | false =>
        have h : Aft X.K NM g H (strMul i j L) _ _ := h
        unfold strMul at h
        split at h
        · rename_i hz
          obtain ⟨t, rfl⟩ := rx
          obtain ⟨t', rfl⟩ := ry
          exact mulStr I hz (Aft.here h hR _ rfl)
        · exact h.elim
    | _ => exact gen h
  | tup xs => cases b with
    | tup ys => cases m <;> exact h.elim
    | _ => exact gen h
  | bl i => cases b with
    | bl j => cases m <;> exact h.elim
    | _ => exact gen h
  | _ => exact gen h
theorem ops_bor (F : Fc X NM W P G adr k) : OpS X NM W (binaryOp .BitOr) (binop P G .bor) := by
  intro pins s σ H x y v u Q I rx ry ⟨g, a, b, L, hR, va, vb, h⟩
  have gen : Aft X.K NM g H (binopO P G .bor a b L) (fun c f' H' => ∀ z, VR X.K NM f' H' c z → Q z H') (Wx X.K NM W σ) → wpAny (model X.prog X.w) X.A (binaryOp .BitOr v u) (EP X pins σ Q) X.xe s := fun h => by
    refine opO F (fun i hi => by cases hi; exact ⟨rfl, by decide⟩) I rx ry hR va vb h ?_ ?_
    · intro p q vs ws xs ys e1 e2 s1 s2 hl r h
      exact (noadd h (by simp) (by simp)).elim
    · intro p j vs xs e1 e2 s1 r h
      exact (nomul h (by simp) (by simp)).elim
  cases a with
  | int i => cases b <;> first | exact h.elim | exact gen h
  | str i => cases b <;> first | exact h.elim | exact gen h
  | tup xs => cases b <;> first | exact h.elim | exact gen h
  | bl i => cases b <;> first | exact h.elim | exact gen h
  | _ => exact gen h
/-- no lists, no instances: //, %, ** are of ints -/
theorem noO {o : BOp} {Q : LV → Inj → Hp → Prop} {Qx : LX → Inj → Hp → Prop} {K : PySem.W.Frag} {g : Inj} {H : Hp} {a b : LV} {L : LH} (h1 : o = .fdiv ∨ o = .mod ∨ o = .pow) (h : Aft K NM g H (binopO P G o a b L) Q Qx) : False := by
  unfold binopO at h
  split at h
  · split at h
    · exact nomul h (by rcases h1 with z | z | z <;> subst z <;> simp) (by rcases h1 with z | z | z <;> subst z <;> simp)
    · split at h
      · split at h
        · exact noadd h (by rcases h1 with z | z | z <;> subst z <;> simp) (by rcases h1 with z | z | z <;> subst z <;> simp)
        · exact h.elim
      · exact h.elim
  · split at h
    · split at h
      · rcases h1 with z | z | z <;> subst z <;> exact h.elim
      · exact h.elim
    · exact h.elim
/-- //, %, **: of ints -/
theorem ops_fdiv (F : Fc X NM W P G adr k) : OpS X NM W (binaryOp .FloorDiv) (binop P G .fdiv) := by
  intro pins s σ H x y v u Q I rx ry ⟨g, a, b, L, hR, va, vb, h⟩
  have gen : Aft X.K NM g H (binopO P G .fdiv a b L) (fun c f' H' => ∀ z, VR X.K NM f' H' c z → Q z H') (Wx X.K NM W σ) → wpAny (model X.prog X.w) X.A (binaryOp .FloorDiv v u) (EP X pins σ Q) X.xe s := fun h => (noO (.inl rfl) h).elim
  cases a with
  | int i => cases b with
    | int j =>
      obtain rfl : x = .int i := va
      obtain rfl : y = .int j := vb
      have h : Aft X.K NM g H (if 0 < j ∧ j.natAbs.log2 < 9000 then .ok (.int (i / j)) L else if j < 0 ∧ j.natAbs.log2 < 9000 then .ok (.int (i.fdiv j)) L else .bad : R LV) _ _ := h
      obtain ⟨t, rfl⟩ := rx
      obtain ⟨t', rfl⟩ := ry
      split at h
      · rename_i hz
        refine floordiv_int (by omega) ?_ (.inl (PyProof.noPylong_of_log2 hz.2))
        rw [Int.fdiv_eq_ediv_of_nonneg i (by omega)]
        exact ⟨.int (i / j), H, I.tok _, ⟨_, rfl⟩, Aft.here h hR _ rfl⟩
      · split at h
        · rename_i hz
          exact floordiv_int (by omega) ⟨.int (i.fdiv j), H, I.tok _, ⟨_, rfl⟩, Aft.here h hR _ rfl⟩ (.inl (PyProof.noPylong_of_log2 hz.2))
        · exact h.elim
    | _ => exact gen h
  | str i => cases b <;> first | exact h.elim | exact gen h
  | tup xs => cases b <;> first | exact h.elim | exact gen h
  | bl i => cases b <;> first | exact h.elim | exact gen h
  | _ => exact gen h
theorem ops_mod (F : Fc X NM W P G adr k) : OpS X NM W (binaryOp .Mod) (binop P G .mod) := by
  intro pins s σ H x y v u Q I rx ry ⟨g, a, b, L, hR, va, vb, h⟩
  have gen : Aft X.K NM g H (binopO P G .mod a b L) (fun c f' H' => ∀ z, VR X.K NM f' H' c z → Q z H') (Wx X.K NM W σ) → wpAny (model X.prog X.w) X.A (binaryOp .Mod v u) (EP X pins σ Q) X.xe s := fun h => (noO (.inr (.inl rfl)) h).elim
  cases a with
  | int i => cases b with
    | int j =>
      obtain rfl : x = .int i := va
      obtain rfl : y = .int j := vb
      have h : Aft X.K NM g H (if 0 < j then .ok (.int (i % j)) L else if j < 0 then .ok (.int (i.fmod j)) L else .bad : R LV) _ _ := h
      split at h
      · rename_i hz
        exact op_mod pins s σ H _ _ v u Q I rx ry ⟨i, j, rfl, rfl, hz, Aft.here h hR _ rfl⟩
      · split at h
        · rename_i hz
          exact op_modN pins s σ H _ _ v u Q I rx ry ⟨i, j, rfl, rfl, by show j ≠ 0; omega, Aft.here h hR _ rfl⟩
        · exact h.elim
    | _ => exact gen h
  | str i => cases b <;> first | exact h.elim | exact gen h
  | tup xs => cases b <;> first | exact h.elim | exact gen h
  | bl i => cases b <;> first | exact h.elim | exact gen h
  | _ => exact gen h
theorem ops_pow (F : Fc X NM W P G adr k) : OpS X NM W (binaryOp .Pow) (binop P G .pow) := by
  intro pins s σ H x y v u Q I rx ry ⟨g, a, b, L, hR, va, vb, h⟩
  have gen : Aft X.K NM g H (binopO P G .pow a b L) (fun c f' H' => ∀ z, VR X.K NM f' H' c z → Q z H') (Wx X.K NM W σ) → wpAny (model X.prog X.w) X.A (binaryOp .Pow v u) (EP X pins σ Q) X.xe s := fun h => (noO (.inr (.inr rfl)) h).elim
  cases a with
  | int i => cases b with
    | int j =>
      obtain rfl : x = .int i := va
      obtain rfl : y = .int j := vb
      have h : Aft X.K NM g H (if 0 ≤ j ∧ j ≤ 1000000 ∧ i.natAbs < 2 ^ 64 then .ok (.int (i ^ j.toNat)) L else .bad : R LV) _ _ := h
      split at h
      · rename_i hz
        exact op_pow pins s σ H _ _ v u Q I rx ry ⟨i, j, rfl, rfl, hz, Aft.here h hR _ rfl⟩
      · exact h.elim
    | _ => exact gen h
  | str i => cases b <;> first | exact h.elim | exact gen h
  | tup xs => cases b <;> first | exact h.elim | exact gen h
  | bl i => cases b <;> first | exact h.elim | exact gen h
  | _ => exact gen h
def opT (m : Bool) : Operator → Option BOp
  | .Add => some (if m then .addM else .add) | .Sub => some .sub | .Mult => some (if m then .mulM else .mul) | .FloorDiv => some .fdiv | .Mod => some .mod | .Pow => some .pow | .BitOr => some .bor | _ => none
theorem ops_all (F : Fc X NM W P G adr k) {m : Bool} : ∀ {op : Operator} {o : BOp}, opT m op = some o → OpS X NM W (binaryOp op) (binop P G o)
  | .Add, _, rfl => ops_add F m
  | .Sub, _, rfl => ops_sub F
  | .Mult, _, rfl => ops_mul F m
  | .FloorDiv, _, rfl => ops_fdiv F
  | .Mod, _, rfl => ops_mod F
  | .Pow, _, rfl => ops_pow F
  | .BitOr, _, rfl => ops_bor F
end
end PM

set_option Elab.async false
set_option linter.all false
set_option autoImplicit false
set_option maxHeartbeats 1000000
/-! # PM5: comparisons, truth -/
namespace PM
open PySem PySem.Spec PyProof.Rows
open L2 hiding St
mutual
def DT.p : DT → PyData
  | .non => .none
  | .bl b => .bool b
  | .int i => .int i
  | .str s => .str ⟨s.toArray⟩
  | .lst xs => .list (DT.ps xs)
  | .tup xs => .tuple (DT.ps xs)
def DT.ps : List DT → List PyData
  | [] => []
  | x :: xs => DT.p x :: DT.ps xs
end
theorem strV_inj {s t : List Nat} : ((⟨s.toArray⟩ : Str) == ⟨t.toArray⟩) = (s == t) := by
  by_cases h : s = t
  · subst h; simp
  · have h2 : ¬ (⟨s.toArray⟩ : Str) = ⟨t.toArray⟩ := fun e => h (by injection e with e; simpa using e)
    rw [beq_eq_false_iff_ne.mpr h, beq_eq_false_iff_ne.mpr h2]
mutual
theorem DT.eqv_p : ∀ x y : DT, PyData.eqv x.p y.p = DT.eqv x y
  | .non, y => by cases y <;> simp [DT.p, PyData.eqv, DT.eqv]
  | .bl b, y => by cases y <;> simp [DT.p, PyData.eqv, DT.eqv]
  | .int b, y => by cases y <;> simp [DT.p, PyData.eqv, DT.eqv]
  | .str s, y => by cases y <;> simp [DT.p, PyData.eqv, DT.eqv, strV_inj]
  | .lst xs, y => by
    cases y with
    | lst ys => simp [DT.p, PyData.eqv, DT.eqv]; exact DT.eqvs_p xs ys
    | _ => simp [DT.p, PyData.eqv, DT.eqv]
  | .tup xs, y => by
    cases y with
    | tup ys => simp [DT.p, PyData.eqv, DT.eqv]; exact DT.eqvs_p xs ys
    | _ => simp [DT.p, PyData.eqv, DT.eqv]
theorem DT.eqvs_p : ∀ xs ys : List DT, PyData.eqvAll (DT.ps xs) (DT.ps ys) = DT.eqvs xs ys
  | [], [] => by simp [DT.ps, PyData.eqvAll, DT.eqvs]
  | [], _ :: _ => by simp [DT.ps, PyData.eqvAll, DT.eqvs]
  | _ :: _, [] => by simp [DT.ps, PyData.eqvAll, DT.eqvs]
  | x :: xs, y :: ys => by simp [DT.ps, PyData.eqvAll, DT.eqvs, DT.eqv_p x y, DT.eqvs_p xs ys]
end
section
variable {X : Cx} {NM : List Str} {W : WX} {P : PM.Prog} {G : Gam} {adr : Nat → Nat → Addr} {k : Nat}
theorem lstOf_ok {K : PySem.W.Frag} {f : Inj} {L : LH} {H : Hp} {x : LV} {v : V} {xs : List LV} (r : RelH K NM f L H) (rv : VR K NM f H x v) (h : lstOf L x = some xs) : ∃ p vs, v = .ref p ∧ SqL K H p vs ∧ VRs K NM f H xs vs := by
  cases x with
  | ref a =>
    unfold lstOf at h
    dsimp only at h
    split at h
    · rename_i ys e
      cases h
      obtain ⟨p, vs, e1, _, e3, e4⟩ := lst_at r rv e
      exact ⟨p, vs, e1, .inl (.inl e3), e4⟩
    · cases h
  | fz ys =>
    cases h
    obtain ⟨p, vs, e1, e2, e3⟩ := rv
    exact ⟨p, vs, e1, e2.sql, e3.on⟩
  | scr ys =>
    cases h
    obtain ⟨p, vs, e1, e2, e3⟩ := rv
    exact ⟨p, vs, e1, e2.sql, e3.on⟩
  | _ => cases h
theorem seqOf_ok {K : PySem.W.Frag} {f : Inj} {L : LH} {H : Hp} {x : LV} {v : V} {xs : List LV} (r : RelH K NM f L H) (rv : VR K NM f H x v) (h : seqOf L x = some xs) : ∃ p vs, v = .ref p ∧ (SqL K H p vs ∨ SqT K H p vs) ∧ VRs K NM f H xs vs := by
  cases x with
  | tup ys =>
    cases h
    obtain ⟨p, vs, e1, e2, e3⟩ := rv
    exact ⟨p, vs, e1, .inr e2, e3⟩
  | ref a =>
    obtain ⟨p, vs, e1, e2, e3⟩ := lstOf_ok r rv h
    exact ⟨p, vs, e1, .inl e2, e3⟩
  | fz a =>
    obtain ⟨p, vs, e1, e2, e3⟩ := lstOf_ok r rv h
    exact ⟨p, vs, e1, .inl e2, e3⟩
  | scr a =>
    obtain ⟨p, vs, e1, e2, e3⟩ := lstOf_ok r rv h
    exact ⟨p, vs, e1, .inl e2, e3⟩
  | _ => cases h
theorem cpOk_ok {s : List Nat} (h : cpOk s = true) : PyData.canLay0 (.str ⟨s.toArray⟩) = true := by
  unfold PyData.canLay0 PyData.strOk
  unfold cpOk at h
  simpa using h
theorem optAll_ok {K : PySem.W.Frag} {f : Inj} {L : LH} {H : Hp} {n : Nat} (ih : ∀ (x : LV) (v : V) (d : DT), VR K NM f H x v → toD L n x = some d → Dp K H v d.p ∧ d.p.canLay0 = true ∧ d.p.depth ≤ n) :
    ∀ (xs : List LV) (vs : List V) (ds : List DT), VRs K NM f H xs vs → optAll (toD L n) xs = some ds → DpAll K H vs (DT.ps ds) ∧ PyData.canLayAll0 (DT.ps ds) = true ∧ PyData.depthAll (DT.ps ds) ≤ n
  | [], vs, ds, r, h => by
    cases h
    obtain rfl : vs = [] := r
    exact ⟨.nil, by simp [DT.ps, PyData.canLayAll0], by simp [DT.ps, PyData.depthAll]⟩
  | x :: xs, vs, ds, r, h => by
    obtain ⟨w, ws, rfl, r1, r2⟩ := r
    unfold optAll at h
    split at h
    · rename_i d es h1 h2
      cases h
      obtain ⟨a1, a2, a3⟩ := ih x w d r1 h1
      obtain ⟨b1, b2, b3⟩ := optAll_ok ih xs ws es r2 h2
      exact ⟨.cons a1 b1, by simp [DT.ps, PyData.canLayAll0, a2, b2], by simp [DT.ps, PyData.depthAll]; omega⟩
    · cases h
theorem toD_ok {K : PySem.W.Frag} {f : Inj} {L : LH} {H : Hp} (r : RelH K NM f L H) : ∀ (n : Nat) (x : LV) (v : V) (d : DT), VR K NM f H x v → toD L n x = some d → Dp K H v d.p ∧ d.p.canLay0 = true ∧ d.p.depth ≤ n
  | 0, _, _, _, _, h => by cases h
  | n + 1, x, v, d, rv, h => by
    have lst : ∀ (xs : List LV) (p : Addr) (vs : List V), SqL K H p vs → VRs K NM f H xs vs → (optAll (toD L n) xs).map DT.lst = some d → Dp K H (.ref p) d.p ∧ d.p.canLay0 = true ∧ d.p.depth ≤ n + 1 := fun xs p vs e1 e2 h => by
      cases q : optAll (toD L n) xs with
      | none => rw [q] at h; cases h
      | some ds =>
        rw [q] at h
        cases h
        obtain ⟨a1, a2, a3⟩ := optAll_ok (fun x v d => toD_ok r n x v d) xs vs ds e2 q
        exact ⟨.lst e1 a1, by simpa [DT.p, PyData.canLay0] using a2, by simp [DT.p, PyData.depth]; omega⟩
    cases x with
    | non => cases h; obtain rfl : v = .non := rv; exact ⟨.non, by simp [DT.p, PyData.canLay0], by simp [DT.p, PyData.depth]⟩
    | bl b => cases h; obtain rfl : v = .bl b := rv; exact ⟨.bl _, by simp [DT.p, PyData.canLay0], by simp [DT.p, PyData.depth]⟩
    | int b => cases h; obtain rfl : v = .int b := rv; exact ⟨.int _, by simp [DT.p, PyData.canLay0], by simp [DT.p, PyData.depth]⟩
    | str s =>
      have h : (if cpOk s = true then some (DT.str s) else none) = some d := h
      split at h
      · rename_i hc
        cases h
        obtain rfl : v = strV s := rv
        exact ⟨.str _, cpOk_ok hc, by simp [DT.p, PyData.depth]⟩
      · cases h
    | tup xs =>
      obtain ⟨p, vs, rfl, e2, e3⟩ := rv
      have h : (optAll (toD L n) xs).map DT.tup = some d := h
      cases q : optAll (toD L n) xs with
      | none => rw [q] at h; cases h
      | some ds =>
        rw [q] at h
        cases h
        obtain ⟨a1, a2, a3⟩ := optAll_ok (fun x v d => toD_ok r n x v d) xs vs ds e3 q
        exact ⟨.tup e2 a1, by simpa [DT.p, PyData.canLay0] using a2, by simp [DT.p, PyData.depth]; omega⟩
    | ref a =>
      have h : (match lstOf L (.ref a) with
        | some xs => (optAll (toD L n) xs).map DT.lst
        | none => none) = some d := h
      split at h
      · rename_i xs e
        obtain ⟨p, vs, rfl, e2, e3⟩ := lstOf_ok r rv e
        exact lst xs p vs e2 e3 h
      · cases h
    | fz xs =>
      obtain ⟨p, vs, rfl, e2, e3⟩ := rv
      exact lst xs p vs e2.sql e3.on h
    | scr xs =>
      obtain ⟨p, vs, rfl, e2, e3⟩ := rv
      exact lst xs p vs e2.sql e3.on h
    | _ => cases h
/-- == -/
theorem eqv_ok {K : PySem.W.Frag} {f : Inj} {L : LH} {H : Hp} {x y : LV} {v u : V} {b : Bool} (r : RelH K NM f L H) (rx : VR K NM f H x v) (ry : VR K NM f H y u) (h : eqv L x y = some b) :
    (∃ d e, Dp K H v d ∧ Dp K H u e ∧ SeqAt.shaped d = true ∧ SeqAt.shaped e = true ∧ PyData.eqv d e = b) ∨ (scal v u = true ∧ decide (v = u) = b) := by
  have main : (match toD L 60 x, toD L 60 y with
    | some d, some e => some (DT.eqv d e)
    | _, _ => none) = some b → ∃ d e, Dp K H v d ∧ Dp K H u e ∧ SeqAt.shaped d = true ∧ SeqAt.shaped e = true ∧ PyData.eqv d e = b := fun h => by
    split at h
    · rename_i d e h1 h2
      cases h
      obtain ⟨a1, a2, a3⟩ := toD_ok r 60 x v d rx h1
      obtain ⟨b1, b2, b3⟩ := toD_ok r 60 y u e ry h2
      exact ⟨d.p, e.p, a1, b1, by unfold SeqAt.shaped; rw [a2, Bool.true_and, decide_eq_true_iff]; omega, by unfold SeqAt.shaped; rw [b2, Bool.true_and, decide_eq_true_iff]; omega, DT.eqv_p d e⟩
    · cases h
  unfold eqv at h
  split at h
  · rename_i i j
    cases h
    obtain rfl : v = .int i := rx
    obtain rfl : u = .int j := ry
    refine .inr ⟨rfl, ?_⟩
    by_cases e : i = j
    · subst e; simp
    · rw [decide_eq_false e, decide_eq_false (fun z => e (V.int.inj z))]
  · rename_i s t
    cases h
    obtain rfl : v = strV s := rx
    obtain rfl : u = strV t := ry
    refine .inr ⟨rfl, ?_⟩
    by_cases e : s = t
    · subst e; simp
    · rw [decide_eq_false e, decide_eq_false (fun z => e (by unfold strV at z; injection z with z; injection z with z; simpa using z))]
  · exact .inl (main h)
end
end PM

set_option Elab.async false
set_option linter.all false
set_option autoImplicit false
set_option maxHeartbeats 1000000
/-! # PMq: an own object under `!=`, bool, by what its class holds -/
namespace PM
open PySem PySem.Spec PyProof.Rows
section
variable {prog : Program} {w : World} {A : Around} {E : Value → Shared → Prop} {s : Shared} {K : PySem.W.Frag} {x C L f : Addr} {h₀ : Heap} {m : Str → Option Value} {ox : Obj} {od : Option Obj} {b tb : Value}
/-- what the class takes from object under this name is called -/
theorem slot_own {name : Str} {id : String} {args : List Value} {Q : Option Value → Shared → Prop} (X : K.In s.heap) (I : PySem.W.InstAt s.heap x ox C od) (hs : PySem.W.findIn K (.ref C) name = some (some (.builtin id))) (S : ∀ self, bindSpecial (.builtin id) self = pure (.builtin id, [self]))
    (h : wpAny (model prog w) A (call (.builtin id) (.ref x :: args)) (fun v => Q (some v)) E s) : wpAny (model prog w) A (callSpecialIfBound? (.ref x) name args) Q E s := by
  have last : wpAny (model prog w) A (call (.builtin id) ([.ref x] ++ args) >>= fun v => pure (some v)) Q E s := wpAny_bind (wpAny_mono h (fun v t z => wpAny_pure z) fun _ _ z => z)
  unfold callSpecialIfBound? bindSpecialIfBound?
  refine wpAny_holding (wpAny_bind (wpAny_bind (wpAny_bind (I.type.here ((PySem.W.looks_findIn X hs).here ?_)))))
  simp only [S]
  refine wpAny_bind (wpAny_askSetting (wpAny_ite ?_))
  split
  · exact wpAny_bind (wpAny_pure (wpAny_pure last))
  · exact wpAny_tryCatch (wpAny_bind (wpAny_pure (wpAny_pure last)))
/-- object.__ne__: what the class's own __eq__ says, turned -/
theorem ne_entry {Q : Fin → Shared → Prop} (hu : A.units < cLine) (X : K.In s.heap) (I : PySem.W.InstAt s.heap x ox C od) (he : PySem.W.findIn K (.ref C) "__eq__" = some (some (.ref f))) (hf : PySem.W.isFn K (.ref f) = true)
    (h : wpAny (model prog w) A (call (.ref f) [.ref x, b]) (fun v s' => ∃ k, v = .bool k ∧ Q (.done (.ret (.bool (!k)))) s') E s) : wpAny (model prog w) A (Builtin.«object.__ne__» ⟨[.ref x, b], []⟩) Q E s := by
  unfold Builtin.«object.__ne__»
  refine wpAny_bind (m := slotArgs "__ne__" 1 _) (wpAny_pure ?_)
  dsimp only
  refine wpAny_bind (wpAny_cRoomFor hu ?_)
  refine wpAny_bind (PySem.W.ifBound_K X I he hf (wpAny_mono h (fun v s' z => ?_) fun _ _ z => z))
  obtain ⟨k, rfl, q⟩ := z
  refine wpAny_bind (wpAny_truthy_bool ?_)
  exact wpAny_pure q
theorem ne_own {Q : Value → Shared → Prop} (hu : A.units + 1 < cLine) (X : K.In s.heap) (I : PySem.W.InstAt s.heap x ox C od) (hb : PySem.W.Looks (model prog w) s.heap (typeOf b) tb) (hn : PySem.W.notFirst K C tb = true)
    (hm : PySem.W.mroIn K C (.type "object") = some true) (hs : PySem.W.findIn K (.ref C) "__ne__" = some (some (.builtin "object.__ne__"))) (he : PySem.W.findIn K (.ref C) "__eq__" = some (some (.ref f))) (hf : PySem.W.isFn K (.ref f) = true)
    (h : wpAny (model prog w) A.in1 (call (.ref f) [.ref x, b]) (fun v s' => ∃ k, v = .bool k ∧ Q (.bool (!k)) s') E s) : wpAny (model prog w) A (richCompare .NotEq (.ref x) b) Q E s := by
  have sub : PySem.W.Looks (model prog w) s.heap (isInstance (.ref x) (.type "object")) true := I.type.andThen (PySem.W.looks_mroIn X hm)
  have ask : wpAny (model prog w) A (tryCompare (.ref x) (cmpInfo .NotEq).2.1 b) (fun r s' => ∃ v, r = some v ∧ Q v s') E s := by
    unfold tryCompare
    refine wpAny_bind (slot_own X I hs F.cmp_object.ne.bind (wpAny_call (codeAny_call_builtin F.cmp_object.ne.plain F.cmpEntry_ne (@PySem.W.check_slot (model prog w) _ _ s "object.__ne__" "object" "__ne__" (.ref x) [b] [] _ F.cmpKind_ne F.cmpSplit_ne sub (F.cmpArgs_ne _ _)
      (ne_entry (A := A.in1) hu X I he hf (wpAny_mono h (fun v s' z => ?_) fun _ _ z => z))))))
    obtain ⟨k, rfl, q⟩ := z
    exact ⟨k, rfl, wpAny_pure ⟨_, rfl, q⟩⟩
  have fin : wpAny (model prog w) A (tryCompare (.ref x) (cmpInfo .NotEq).2.1 b) (fun r s' => ∃ v, r = some v ∧ Q v s') E s := ask
  unfold richCompare
  simp only [oneThing_ref]
  refine wpAny_holding (wpAny_bind (wpAny_cRoomFor (by omega) ?_))
  refine wpAny_bind (I.type.here (wpAny_bind (hb.here ?_)))
  split
  · rename_i q
    have e : PySem.W.subIn K tb (.ref C) = some false := by
      rcases Bool.or_eq_true_iff.mp hn with y | y
      · rw [beq_iff_eq.mp y] at q; simp at q
      · exact beq_iff_eq.mp y
    refine wpAny_bind ((PySem.W.looks_subIn X e).here ?_)
    simp only [Bool.false_eq_true, if_false]
    refine wpAny_bind (wpAny_mono fin (fun r s' z => ?_) fun _ _ y => y)
    obtain ⟨v, rfl, q⟩ := z
    exact wpAny_pure q
  · refine wpAny_bind (wpAny_pure ?_)
    simp only [Bool.false_eq_true, if_false]
    refine wpAny_bind (wpAny_mono fin (fun r s' z => ?_) fun _ _ y => y)
    obtain ⟨v, rfl, q⟩ := z
    exact wpAny_pure q
/-- bool(x): what truth says of x, two frames in -/
theorem bool_own {v : Value} {Q : Value → Shared → Prop} (h : wpAny (model prog w) A.in1.in1 (truthy v) (fun k s' => Q (.bool k) s') E s) : wpAny (model prog w) A (call (.type "bool") [v]) Q E s := by
  refine callType_codes (T := "bool") (Bi := Builtin.«object.__init__») (Q₁ := fun r s₁ => ∃ k, r = .bool k ∧ Q r s₁) PySem.F.called_bool (PySem.F.typeCall_bool_1 _) PySem.F.entry_object_init ?_ ?_
  · refine codeAny_of_tree ?_
    show wpAny _ A.in1.in1 (do checkBuiltinCall "bool.__new__" ⟨[.type "bool", v], []⟩; again (.builtin "bool.__new__" ⟨[.type "bool", v], []⟩)) _ _ s
    refine wpAny_bind (wpAny_of_eq (PySem.F.newCall_bool_1 _) (wpAny_pure ⟨plainId_quiet (by decide +kernel) _, codeAny_builtin PySem.F.entry_bool_new ?_⟩))
    rw [Around.under_plainId (by decide +kernel) _]
    unfold Builtin.«bool.__new__»
    have f1 := PySem.F.conv_sub_bool
    repeat (first | (with_reducible refine wpAny_bind (m := truthy v) (wpAny_mono h (fun k s' z => ?_) fun _ _ z => z)) | wp_step)
    all_goals exact ⟨_, rfl, z⟩
  · rintro obj s₁ ⟨k, rfl, q⟩
    exact ⟨rfl, PySem.F.args_object_init_2 _ _, object_init_meets PySem.F.called_bool.init.lookup PySem.F.called_bool.made (by decide) prog w A.in1 _ s₁ ⟨rfl, rfl, q⟩⟩
end
end PM

set_option Elab.async false
set_option linter.all false
set_option autoImplicit false
set_option maxHeartbeats 1000000
/-! # PM6: comparisons by values, truth, chains -/
namespace PM
open PySem PySem.Spec PyProof.Rows
open L2 hiding St
section
variable {X : Cx} {NM : List Str} {W : WX} {P : PM.Prog} {G : Gam} {adr : Nat → Nat → Addr} {k : Nat}
theorem insCls_ok {L : LH} {x : LV} {c : Nat} (h : insCls L x = some c) : ∃ fs, insOf L x = some (c, fs) := by
  unfold insCls at h
  cases q : insOf L x with
  | none => rw [q] at h; cases h
  | some z => rw [q] at h; cases h; exact ⟨z.2, rfl⟩
theorem _root_.L2.Vals.nilB {vs : List V} {us : List Value} (h : Vals vs us) : vs.isEmpty = us.isEmpty := by
  cases h <;> rfl
theorem eq0_ok {K : PySem.W.Frag} {g : Inj} {L : LH} {H : Hp} {a b : LV} {x y : V} {k : Bool} (hR : RelH K NM g L H) (va : VR K NM g H a x) (vb : VR K NM g H b y) (h : eq0 a b = some k) : ∃ (p q : Addr) (vs : List V), x = .ref p ∧ y = .ref q ∧ SqT K H p vs ∧ SqT K H q [] ∧ vs.isEmpty = k := by
  unfold eq0 at h
  split at h
  · rename_i xs
    cases h
    obtain ⟨p, vs, rfl, h1, h2⟩ := va
    obtain ⟨q, ws, rfl, h3, h4⟩ := vb
    obtain rfl : ws = [] := h4
    refine ⟨p, q, vs, rfl, rfl, h1, h3, ?_⟩
    have := h2.length
    cases xs <;> cases vs <;> first | rfl | (simp at this)
  · cases h
/-- the other side's type goes not first -/
theorem tb_of {pins : List (Addr × Obj)} {σ : St} {H : Hp} {s : Shared} {g : Inj} {L : LH} {b : LV} {y : V} {u : Value} {c d : Nat} (F : Fc X NM W P G adr k) (I : Inv X pins σ H s) (hR : RelH X.K NM g L H) (vb : VR X.K NM g H b y) (ry : RelV y u) (hd : P.mem c kEq = some (.meth d)) (hq : eqArg P L b = true) :
    ∃ tb, PySem.W.Looks (model X.prog X.w) s.heap (typeOf u) tb ∧ PySem.W.notFirst X.K (gad X.K NM c) tb = true := by
  have ins : ∀ c' fs', insOf L b = some (c', fs') → P.isCls c' = true → ∃ tb, PySem.W.Looks (model X.prog X.w) s.heap (typeOf u) tb ∧ PySem.W.notFirst X.K (gad X.K NM c) tb = true := fun c' fs' e2 hq => by
    obtain ⟨q, dy, ks, rfl, o2, _⟩ := ins_at hR vb e2
    cases ry
    obtain ⟨mB, O', _, _, _, _⟩ := ins_get I.hok o2
    obtain ⟨od', J', _⟩ := O'.look
    exact ⟨_, J'.type, F.sf.nf c c' d hd hq⟩
  have insB : (match lstOf L b with
        | some _ => true
        | none => match insOf L b with
          | some (c, _) => P.isCls c
          | none => false) = true → ∃ tb, PySem.W.Looks (model X.prog X.w) s.heap (typeOf u) tb ∧ PySem.W.notFirst X.K (gad X.K NM c) tb = true := fun hq => by
    split at hq
    · rename_i ys hy
      obtain ⟨p, vs, rfl, q1, q2⟩ := lstOf_ok hR vb hy
      cases ry
      obtain ⟨its, rv, pl, hz⟩ := I.list q1
      obtain ⟨o, eo, ec, _⟩ := pl.isList
      exact ⟨.type "list", ec ▸ (PySem.W.Looks.ld eo).andThen .now, F.sf.nfT c d hd _ (by simp)⟩
    · split at hq
      · rename_i c' fs' e2
        exact ins c' fs' e2 hq
      · cases hq
  cases b with
  | non => obtain rfl : y = .non := vb; cases ry; exact ⟨.type "NoneType", .of_pure rfl, F.sf.nfT c d hd _ (by simp)⟩
  | bl i => obtain rfl : y = .bl i := vb; cases ry; exact ⟨.type "bool", .of_pure rfl, F.sf.nfT c d hd _ (by simp)⟩
  | int i => obtain rfl : y = .int i := vb; obtain ⟨t, rfl⟩ := ry; exact ⟨.type "int", .of_pure rfl, F.sf.nfT c d hd _ (by simp)⟩
  | str i => obtain rfl : y = strV i := vb; obtain ⟨t, rfl⟩ := ry; exact ⟨.type "str", .of_pure rfl, F.sf.nfT c d hd _ (by simp)⟩
  | tup xs =>
    obtain ⟨p, vs, rfl, q1, q2⟩ := vb
    cases ry
    obtain ⟨its, rv, ⟨o, eo, ec, _⟩, hz⟩ := I.tuple q1
    exact ⟨.type "tuple", ec ▸ (PySem.W.Looks.ld eo).andThen .now, F.sf.nfT c d hd _ (by simp)⟩
  | _ => exact insB hq
theorem ops_eq (F : Fc X NM W P G adr k) : OpS X NM W (compareOp .Eq) (cmpV P G .eq) := by
  intro pins s σ H x y v u Q I rx ry ⟨g, a, b, L, hR, va, vb, h⟩
  have h : Aft X.K NM g H (match insCls L a with
    | some c => if eqArg P L b then ownM P G L c kEq [a, b] else .bad
    | none => match eq0 a b with
      | some b => .ok (.bl b) L
      | none => match eqv L a b with
        | some b => .ok (.bl b) L
        | none => .bad : R LV) _ _ := h
  split at h
  · rename_i c hc
    obtain ⟨fs, e1⟩ := insCls_ok hc
    split at h
    · rename_i hq
      obtain ⟨p, dx, hs, rfl, o1, _⟩ := ins_at hR va e1
      cases rx
      obtain ⟨d, hd, run⟩ := ownM_run (vs := [.ref p, y]) (us := [.ref p, u]) F F.room I.env0 I (.cons rfl (.cons ry .nil)) hR (VRs.cons va (VRs.cons vb VRs.nil)) h
      obtain ⟨M, sfst, _⟩ := F.sf.meth c kEq d hd
      obtain ⟨mA, O, _, _, _, _⟩ := ins_get I.hok o1
      obtain ⟨od, J, _⟩ := O.look
      obtain ⟨fm, hF⟩ := I.fr
      have tb := tb_of F I hR vb ry hd hq
      obtain ⟨tb, t1, t2⟩ := tb
      refine PySem.W.cmp_K (op := .Eq) (tb := tb) F.room.units0 hF I.ok.mod.kin J t1 t2 (by
        have := M.at_
        rw [F.sf.pre kEq (by decide)] at this
        exact this) M.fn (wpAny_mono run (fun w s' z => ?_) fun _ _ x => x)
      obtain ⟨z', H', I', rz, qz⟩ := z
      exact cmp_back rz ⟨z', H', I', rz, qz⟩
    · exact h.elim
  · split at h
    · rename_i b' hb
      obtain ⟨p, q, us, rfl, rfl, h1, h2, e1⟩ := eq0_ok hR va vb hb
      cases rx
      cases ry
      obtain ⟨is1, r1, t1, _⟩ := I.tuple h1
      obtain ⟨is2, r2, t2, _⟩ := I.tuple h2
      cases r2
      refine SeqAt.RcAt.tuples (e := fun _ => true) t1 t2 F.room.units0 (fun j h1 h2 => absurd h2 (by simp)) _ _ _ _ ?_
      have bb : ∀ z : Bool, z = b' → L2.RelV (.bl b') (.bool z) := fun z hz => by subst hz; rfl
      exact ⟨.bl b', H, I, bb _ (by rw [← e1, r1.nilB]; cases is1 <;> simp), Aft.here h hR _ rfl⟩
    split at h
    · rename_i b' hb
      rcases eqv_ok hR va vb hb with ⟨d, e, d1, d2, d3, d4, d5⟩ | ⟨d1, d2⟩
      · exact op_eqD F.room.units pins s σ H x y v u Q I rx ry ⟨d, e, d1, d2, d3, d4, by rw [d5]; exact Aft.here h hR _ rfl⟩
      · exact op_eq pins s σ H x y v u Q I rx ry ⟨d1, by rw [d2]; exact Aft.here h hR _ rfl⟩
    · exact h.elim
theorem ops_ne (F : Fc X NM W P G adr k) : OpS X NM W (compareOp .NotEq) (cmpV P G .ne) := by
  intro pins s σ H x y v u Q I rx ry ⟨g, a, b, L, hR, va, vb, h⟩
  have h : Aft X.K NM g H (match insCls L a with
    | some c => if eqArg P L b then (ownM P G L c kEq [a, b]).bind fun r H1 => match r with
        | .bl b => .ok (.bl (!b)) H1
        | _ => .bad
      else .bad
    | none => match eq0 a b with
      | some b => .ok (.bl (!b)) L
      | none => match eqv L a b with
        | some b => .ok (.bl (!b)) L
        | none => .bad : R LV) _ _ := h
  split at h
  · rename_i c hc
    obtain ⟨fs, e1⟩ := insCls_ok hc
    split at h
    · rename_i hq
      obtain ⟨p, dx, hs, rfl, o1, _⟩ := ins_at hR va e1
      cases rx
      have h2 : Aft X.K NM g H (ownM P G L c kEq [a, b]) (fun r f' H' => ∀ z, VR X.K NM f' H' r z → ∃ k, z = .bl k ∧ Q (.bl (!k)) H') (Wx X.K NM W σ) := by
        cases q : ownM P G L c kEq [a, b] with
        | ok r L1 =>
          rw [q] at h
          intro f' H' e r1 z rz
          cases r with
          | bl k =>
            obtain rfl : z = .bl k := rz
            exact ⟨k, rfl, Aft.here (Aft.ext h e) r1 _ rfl⟩
          | _ => exact h.elim
        | exc x L1 => rw [q] at h; exact h
        | bad => rw [q] at h; exact h
      obtain ⟨d, hd, run⟩ := ownM_run (vs := [.ref p, y]) (us := [.ref p, u]) (Q := fun z H' => ∃ k, z = .bl k ∧ Q (.bl (!k)) H') F ((F.rm.mono (by omega : k + 1 ≤ k + 2)).in1) I.env0.in1 I (.cons rfl (.cons ry .nil)) hR (VRs.cons va (VRs.cons vb VRs.nil)) h2
      obtain ⟨M, sfst, _⟩ := F.sf.meth c kEq d hd
      obtain ⟨n1, n2⟩ := F.sf.neq c d hd
      obtain ⟨mA, O, _, _, _, _⟩ := ins_get I.hok o1
      obtain ⟨od, J, _⟩ := O.look
      obtain ⟨tb, t1, t2⟩ := tb_of F I hR vb ry hd hq
      unfold compareOp
      refine ne_own (tb := tb) (by have := F.room.units; omega) I.kIn J t1 t2 n2 n1 (by
        have := M.at_
        rw [F.sf.pre kEq (by decide)] at this
        exact this) M.fn (wpAny_mono run (fun w s' z => ?_) fun _ _ x => x)
      obtain ⟨z', H', I', rz, k', rfl, qz⟩ := z
      cases rz
      exact ⟨k', rfl, .bl (!k'), H', I', rfl, qz⟩
    · exact h.elim
  · split at h
    · rename_i b' hb
      obtain ⟨p, q, us, rfl, rfl, h1, h2, e1⟩ := eq0_ok hR va vb hb
      cases rx
      cases ry
      obtain ⟨is1, r1, t1, _⟩ := I.tuple h1
      obtain ⟨is2, r2, t2, _⟩ := I.tuple h2
      cases r2
      refine SeqAt.RcNeAt.tuples (e := fun _ => true) t1 t2 F.room.units0 (fun j h1 h2 => absurd h2 (by simp)) _ _ _ _ ?_
      have bb : ∀ z : Bool, z = !b' → L2.RelV (.bl (!b')) (.bool z) := fun z hz => by subst hz; rfl
      exact ⟨.bl (!b'), H, I, bb _ (by rw [← e1, r1.nilB]; cases is1 <;> simp), Aft.here h hR _ rfl⟩
    split at h
    · rename_i b' hb
      rcases eqv_ok hR va vb hb with ⟨d, e, d1, d2, d3, d4, d5⟩ | ⟨d1, d2⟩
      · exact op_neD F.room.units pins s σ H x y v u Q I rx ry ⟨d, e, d1, d2, d3, d4, by rw [d5]; exact Aft.here h hR _ rfl⟩
      · exact op_ne pins s σ H x y v u Q I rx ry ⟨d1, by rw [d2]; exact Aft.here h hR _ rfl⟩
    · exact h.elim
theorem ops_ord {op : CmpOp} {o : COp} {r : Int → Int → Bool} (hop : OpR X (compareOp op) (rI0 fun i j => .bl (r i j))) (hc : ∀ a b L, cmpV P G o a b L = match a, b with
    | .int i, .int j => .ok (.bl (r i j)) L
    | _, _ => .bad) : OpS X NM W (compareOp op) (cmpV P G o) := by
  intro pins s σ H x y v u Q I rx ry ⟨g, a, b, L, hR, va, vb, h⟩
  rw [hc] at h
  split at h
  · rename_i i j
    obtain rfl : x = .int i := va
    obtain rfl : y = .int j := vb
    exact hop pins s σ H _ _ v u Q I rx ry ⟨i, j, rfl, rfl, Aft.here h hR _ rfl⟩
  · exact h.elim
theorem flat_ok {K : PySem.W.Frag} {f : Inj} {H : Hp} {x : LV} {v : V} (h : flat x = true) (r : VR K NM f H x v) : flatV v = true := by
  cases x with
  | non => obtain rfl : v = .non := r; rfl
  | bl b => obtain rfl : v = .bl b := r; rfl
  | int b => obtain rfl : v = .int b := r; rfl
  | str b => obtain rfl : v = strV b := r; rfl
  | _ => cases h
theorem flats_ok {K : PySem.W.Frag} {f : Inj} {H : Hp} : ∀ {xs : List LV} {vs : List V}, xs.all flat = true → VRs K NM f H xs vs → vs.all flatV = true
  | [], vs, _, r => by obtain rfl : vs = [] := r; rfl
  | x :: xs, vs, h, r => by
    obtain ⟨w, ws, rfl, r1, r2⟩ := r
    rw [List.all_cons, Bool.and_eq_true] at h
    rw [List.all_cons, Bool.and_eq_true]
    exact ⟨flat_ok h.1 r1, flats_ok h.2 r2⟩
theorem eqF_ok {K : PySem.W.Frag} {f : Inj} {H : Hp} {x y : LV} {v u : V} (h1 : flat x = true) (h2 : flat y = true) (r1 : VR K NM f H x v) (r2 : VR K NM f H y u) : eqV v u = eqF x y := by
  cases x with
  | non =>
    obtain rfl : v = .non := r1
    cases y <;> first | (cases h2; done) | (obtain rfl : u = _ := r2; rfl)
  | bl b =>
    obtain rfl : v = .bl b := r1
    cases y <;> first | (cases h2; done) | (obtain rfl : u = _ := r2; rfl)
  | int b =>
    obtain rfl : v = .int b := r1
    cases y with
    | int c =>
      obtain rfl : u = .int c := r2
      show (b == c) = decide (b = c)
      by_cases e : b = c
      · subst e; simp
      · rw [decide_eq_false e, beq_eq_false_iff_ne]; exact e
    | non => obtain rfl : u = _ := r2; rfl
    | bl c => obtain rfl : u = _ := r2; rfl
    | str c => obtain rfl : u = _ := r2; rfl
    | _ => cases h2
  | str b =>
    obtain rfl : v = strV b := r1
    cases y with
    | str c =>
      obtain rfl : u = strV c := r2
      show ((⟨b.toArray⟩ : Str) == ⟨c.toArray⟩) = decide (b = c)
      rw [strV_inj]
      by_cases e : b = c
      · subst e; simp
      · rw [decide_eq_false e, beq_eq_false_iff_ne]; exact e
    | non => obtain rfl : u = _ := r2; rfl
    | bl c => obtain rfl : u = _ := r2; rfl
    | int c => obtain rfl : u = _ := r2; rfl
    | _ => cases h2
  | _ => cases h1
theorem anyF_ok {K : PySem.W.Frag} {f : Inj} {H : Hp} {x : LV} {v : V} (h1 : flat x = true) (r1 : VR K NM f H x v) : ∀ {xs : List LV} {vs : List V}, xs.all flat = true → VRs K NM f H xs vs → inV v vs = xs.any fun y => eqF y x
  | [], vs, _, r => by obtain rfl : vs = [] := r; rfl
  | y :: xs, vs, h, r => by
    obtain ⟨w, ws, rfl, r2, r3⟩ := r
    rw [List.all_cons, Bool.and_eq_true] at h
    have ih := anyF_ok h1 r1 h.2 r3
    unfold inV at ih ⊢
    rw [List.any_cons, List.any_cons, ih, eqF_ok h.1 h1 r2 r1]
theorem anyD (d : DT) : ∀ ds : List DT, ((DT.ps ds).any fun z => PyData.eqv z d.p) = ds.any fun z => DT.eqv z d
  | [] => by simp [DT.ps]
  | x :: xs => by simp only [DT.ps, List.any_cons, DT.eqv_p, anyD d xs]
/-- in, not in: told by a function of the truth -/
theorem ops_inG (F : Fc X NM W P G adr k) {op : CmpOp} {f : Bool → Bool}
    (own : ∀ (pins : List (Addr × Obj)) (s : Shared) (σ : St) (H : Hp) (p : Addr) (c : Nat) (dx : Addr) (gs : List (Str × V)) (u : Value) (d : Nat) (Q : Bool → Shared → Prop), Inv X pins σ H s → H p = some (.ins (gad X.K NM c) dx gs) → P.mem c kIn = some (.meth d) →
      wpAny (model X.prog X.w) X.A (call (.ref (adr d kIn)) [.ref p, u]) (fun r s' => ∃ b, r = .bool b ∧ Q (f b) s') X.xe s → wpAny (model X.prog X.w) X.A (compareOp op u (.ref p)) (fun r s' => ∃ b, r = .bool b ∧ Q b s') X.xe s)
    (sgn : OpR X (compareOp op) (fun x y H Q => ∃ (c : Nat) (z : Str), x = .str ⟨#[c]⟩ ∧ y = .str z ∧ Q (.bl (f (decide (c ∈ z.cps.toList)))) H))
    (sq : OpR X (compareOp op) (fun x y H Q => ∃ p xs, y = .ref p ∧ (SqL X.K H p xs ∨ SqT X.K H p xs) ∧ flatV x = true ∧ xs.all flatV = true ∧ Q (.bl (f (inV x xs))) H))
    (dt : OpR X (compareOp op) (fun x y H Q => ∃ d ds, Dp X.K H x d ∧ Dp X.K H y (.list ds) ∧ SeqAt.shaped d = true ∧ SeqAt.shaped (.list ds) = true ∧ Q (.bl (f (ds.any fun z => PyData.eqv z d))) H)) :
    OpS X NM W (compareOp op) (fun x y L => (isinV P G x y L).bind fun r H1 => match r with
      | .bl b => .ok (.bl (f b)) H1
      | _ => .bad) := by
  intro pins s σ H x y v u Q I rx ry ⟨g, a, b, L, hR, va, vb, h⟩
  dsimp only at h
  unfold isinV at h
  split at h
  · rename_i c hc
    obtain ⟨fs, e1⟩ := insCls_ok hc
    obtain ⟨p, dx, hs, rfl, o1, _⟩ := ins_at hR vb e1
    cases ry
    rw [R.bind_assoc] at h
    have h2 : Aft X.K NM g H (ownM P G L c kIn [b, a]) (fun r f' H' => ∀ z, VR X.K NM f' H' r z → ∃ b, z = .bl b ∧ Q (.bl (f b)) H') (Wx X.K NM W σ) := by
      cases q : ownM P G L c kIn [b, a] with
      | ok r L1 =>
        rw [q] at h
        intro f' H' e r1 z rz
        cases r with
        | bl b' =>
          obtain rfl : z = .bl b' := rz
          exact ⟨b', rfl, Aft.here (Aft.ext h e) r1 _ rfl⟩
        | _ => exact h.elim
      | exc x L1 => rw [q] at h; exact h
      | bad => rw [q] at h; exact h
    obtain ⟨d, hd, run⟩ := ownM_run (Q := fun z H' => ∃ b, z = .bl b ∧ Q (.bl (f b)) H') (vs := [.ref p, x]) (us := [.ref p, v]) F F.room I.env0 I (.cons rfl (.cons rx .nil)) hR (VRs.cons vb (VRs.cons va VRs.nil)) h2
    refine wpAny_mono (own pins s σ H p c dx hs v d (fun b s' => EP X pins σ Q (.bool b) s') I o1 hd (wpAny_mono run (fun r s' z => ?_) fun _ _ z => z)) (fun r s' z => ?_) fun _ _ z => z
    · obtain ⟨z, H', I', rz, b', rfl, q⟩ := z
      cases rz
      exact ⟨b', rfl, .bl (f b'), H', I', rfl, q⟩
    · obtain ⟨b', rfl, q⟩ := z
      exact q
  · split at h
    · rename_i t _
      split at h
      · rename_i c
        obtain rfl : x = strV [c] := va
        obtain rfl : y = strV t := vb
        exact sgn pins s σ H _ _ v u Q I rx ry ⟨c, ⟨t.toArray⟩, rfl, rfl, Aft.here h hR _ rfl⟩
      · exact h.elim
    · split at h
      · rename_i ys hs
        obtain ⟨p, vs, rfl, s1, r1⟩ := seqOf_ok hR vb hs
        split at h
        · rename_i hf
          rw [Bool.and_eq_true] at hf
          refine sq pins s σ H _ _ v u Q I rx ry ⟨p, vs, rfl, s1, flat_ok hf.1 va, flats_ok hf.2 r1, ?_⟩
          rw [anyF_ok hf.1 va hf.2 r1]
          exact Aft.here h hR _ rfl
        · split at h
          · rename_i d ds h1 h2
            obtain ⟨a1, a2, a3⟩ := toD_ok hR 60 a x d va h1
            obtain ⟨b1, b2, b3⟩ := toD_ok hR 60 _ _ _ vb h2
            refine dt pins s σ H _ _ v u Q I rx ry ⟨d.p, DT.ps ds, a1, b1, by unfold SeqAt.shaped; rw [a2, Bool.true_and, decide_eq_true_iff]; omega, by
              show SeqAt.shaped (DT.lst ds).p = true
              unfold SeqAt.shaped; rw [b2, Bool.true_and, decide_eq_true_iff]; omega, ?_⟩
            rw [anyD]
            exact Aft.here h hR _ rfl
          · exact h.elim
      · exact h.elim
theorem ops_in (F : Fc X NM W P G adr k) : OpS X NM W (compareOp .In) (cmpV P G .isin) := by
  have z := ops_inG F (op := .In) (f := fun b => b) (fun pins s σ H p c dx gs u d Q I e hd run => ?_) op_in_sign (fun pins s σ H x y v u Q I rx ry h => ?_) (op_inD (by have := F.rm.un; omega))
  · intro pins s σ H x y v u Q I rx ry ⟨g, a, b, L, hR, va, vb, h⟩
    refine z pins s σ H x y v u Q I rx ry ⟨g, a, b, L, hR, va, vb, ?_⟩
    have h : Aft X.K NM g H (isinV P G a b L) _ _ := h
    cases q : isinV P G a b L with
    | ok r L1 =>
      rw [q] at h
      dsimp only
      rw [q]
      have hb : ∃ b, r = .bl b := by
        unfold isinV at q
        split at q
        · unfold ownM at q
          split at q
          · rename_i c' _ d hd
            cases q2 : G d kIn [b, a] [] L with
            | ok r' L' =>
              rw [q2] at q
              cases r' with
              | bl b => cases q; exact ⟨b, rfl⟩
              | _ => cases q
            | exc _ _ => rw [q2] at q; cases q
            | bad => rw [q2] at q; cases q
          · cases q
        · split at q
          · split at q
            · cases q; exact ⟨_, rfl⟩
            · cases q
          · split at q
            · split at q
              · cases q; exact ⟨_, rfl⟩
              · split at q
                · cases q; exact ⟨_, rfl⟩
                · cases q
            · cases q
      obtain ⟨b', rfl⟩ := hb
      exact h
    | exc x L1 => rw [q] at h; dsimp only; rw [q]; exact h
    | bad => rw [q] at h; exact h.elim
  · obtain ⟨mA, O, _, _, _, _⟩ := ins_get I.hok e
    obtain ⟨od, J, _⟩ := O.look
    obtain ⟨fm, hF⟩ := I.fr
    obtain ⟨M, _, _⟩ := F.sf.meth c kIn d hd
    refine PySem.W.in_K hF I.ok.mod.kin J (by
        have := M.at_
        rw [F.sf.pre kIn (by decide)] at this
        exact this) M.fn (wpAny_mono run (fun r s' hr => ?_) fun _ _ z => z)
    obtain ⟨b, rfl, q⟩ := hr
    exact wpAny_truthy_bool ⟨b, rfl, q⟩
  · exact op_in_seq pins s σ H x y v u Q I rx ry h
theorem ops_notIn (F : Fc X NM W P G adr k) : OpS X NM W (compareOp .NotIn) (cmpV P G .notin) := by
  refine ops_inG F (op := .NotIn) (f := fun b => !b) (fun pins s σ H p c dx gs u d Q I e hd run => ?_) op_notIn_sign (fun pins s σ H x y v u Q I rx ry h => ?_) (op_notInD (by have := F.rm.un; omega))
  · obtain ⟨mA, O, _, _, _, _⟩ := ins_get I.hok e
    obtain ⟨od, J, _⟩ := O.look
    obtain ⟨fm, hF⟩ := I.fr
    obtain ⟨M, _, _⟩ := F.sf.meth c kIn d hd
    refine PySem.W.notIn_K hF I.ok.mod.kin J (by
        have := M.at_
        rw [F.sf.pre kIn (by decide)] at this
        exact this) M.fn (wpAny_mono run (fun r s' hr => ?_) fun _ _ z => z)
    obtain ⟨b, rfl, q⟩ := hr
    exact wpAny_truthy_bool ⟨!b, rfl, q⟩
  · exact op_notIn_seq pins s σ H x y v u Q I rx ry h
def cmpT : CmpOp → Option COp
  | .Eq => some .eq | .NotEq => some .ne | .Lt => some .lt | .LtE => some .le | .Gt => some .gt | .GtE => some .ge | .In => some .isin | .NotIn => some .notin | _ => none
theorem cmp_all (F : Fc X NM W P G adr k) : ∀ {op : CmpOp} {o : COp}, cmpT op = some o → OpS X NM W (compareOp op) (cmpV P G o)
  | .Eq, _, rfl => ops_eq F
  | .NotEq, _, rfl => ops_ne F
  | .Lt, _, rfl => ops_ord op_lt fun a b L => by cases a <;> first | rfl | (cases b <;> rfl)
  | .LtE, _, rfl => ops_ord op_le fun a b L => by cases a <;> first | rfl | (cases b <;> rfl)
  | .Gt, _, rfl => ops_ord op_gt fun a b L => by cases a <;> first | rfl | (cases b <;> rfl)
  | .GtE, _, rfl => ops_ord op_ge fun a b L => by cases a <;> first | rfl | (cases b <;> rfl)
  | .In, _, rfl => ops_in F
  | .NotIn, _, rfl => ops_notIn F
/-- truth -/
theorem tru_all (F : Fc X NM W P G adr k) : TruS X NM W P G := by
  intro pins s σ H x v Q I rx ⟨g, a, L, hR, va, h⟩
  have go : ∀ b L', truth P G a L = .ok b L' → L' = L → TruV X.K x H b → wpAny (model X.prog X.w) X.A (truthy v) (TP X pins σ Q) X.xe s := fun b L' e e2 t => by
    subst e2
    rw [e] at h
    exact tru_ok pins s σ H x v Q I rx ⟨b, t, Aft.here h hR b rfl⟩
  have emp : ∀ {xs : List LV} {vs : List V}, VRs X.K NM g H xs vs → (!xs.isEmpty) = !vs.isEmpty := fun {xs vs} r => by
    have := r.length
    cases xs <;> cases vs <;> first | rfl | (simp at this)
  have gen : truth P G a L = (match lstOf L a with
    | some xs => .ok (!xs.isEmpty) L
    | none => match insOf L a with
      | some (c, _) => match P.mem c kBool with
        | some (.meth d) => (G d kBool [a] [] L).bind fun r H1 => match r with
          | .bl b => .ok b H1
          | _ => .bad
        | _ => .bad
      | none => .bad : R Bool) → wpAny (model X.prog X.w) X.A (truthy v) (TP X pins σ Q) X.xe s := fun e0 => by
    rw [e0] at h
    split at h
    · rename_i xs e
      obtain ⟨p, vs, rfl, e3, e4⟩ := lstOf_ok hR va e
      refine go (!xs.isEmpty) L (by rw [e0]; simp only [e]) rfl (.inl ⟨vs, e3, emp e4⟩)
    · split at h
      · rename_i c fs e
        obtain ⟨p, dx, hs, rfl, o1, _⟩ := ins_at hR va e
        cases rx
        split at h
        · rename_i d hd
          obtain ⟨M, _, _⟩ := F.sf.meth c kBool d hd
          obtain ⟨mA, O, _, _, _, _⟩ := ins_get I.hok o1
          obtain ⟨od, J, _⟩ := O.look
          obtain ⟨fm, hF⟩ := I.fr
          have h3 : Aft X.K NM g H (G d kBool [a] [] L) (fun r f' H' => ∀ z, VR X.K NM f' H' r z → ∃ b, z = .bl b ∧ Q b H') (Wx X.K NM W σ) := by
            cases q : G d kBool [a] [] L with
            | ok r L1 =>
              rw [q] at h
              intro f' H' e r1 z rz
              cases r with
              | bl b' =>
                obtain rfl : z = .bl b' := rz
                exact ⟨b', rfl, Aft.here (Aft.ext h e) r1 _ rfl⟩
              | _ => exact h.elim
            | exc x L1 => rw [q] at h; exact h
            | bad => rw [q] at h; exact h
          refine PySem.W.truthy_K hF I.ok.mod.kin J (by
            have := M.at_
            rw [F.sf.pre kBool (by decide)] at this
            exact this) M.fn (wpAny_mono (run_own (Q := fun z H' => ∃ b, z = .bl b ∧ Q b H') (vs := [.ref p]) (us := [.ref p]) (kv := []) (kw := []) (F.gs d kBool) F.room I.env0 F.tk I (.cons rfl .nil) .nil ⟨g, L, [a], [], hR, VRs.cons va VRs.nil, rfl, h3⟩) (fun r s' hr => ?_) fun _ _ z => z)
          obtain ⟨z, H', I', rz, b', rfl, q⟩ := hr
          cases rz
          exact ⟨H', I', q⟩
        · exact h.elim
      · exact h.elim
  cases a with
  | non => obtain rfl : x = .non := va; exact go _ _ rfl rfl rfl
  | bl b => obtain rfl : x = .bl b := va; exact go _ _ rfl rfl rfl
  | int b => obtain rfl : x = .int b := va; exact go _ _ rfl rfl rfl
  | str z =>
    obtain rfl : x = strV z := va
    have h2 : Aft X.K NM g H (if z.length ≤ SL then .ok (!z.isEmpty) L else .bad : R Bool) _ _ := h
    split at h2
    · rename_i hz
      refine go (!z.isEmpty) L (by show (if z.length ≤ SL then _ else _ : R Bool) = _; rw [if_pos hz]) rfl ⟨by rw [strV_len, ← SL_eq]; exact hz, ?_⟩
      rw [strV_len]
      cases z with
      | nil => rfl
      | cons c z => 
        show true = (((z.length + 1 : Nat) : Int) != 0)
        rw [eq_comm, bne_iff_ne]
        omega
    · exact h2.elim
  | tup xs =>
    obtain ⟨p, vs, rfl, e2, e3⟩ := va
    exact go _ _ rfl rfl (.inr (.inl ⟨vs, e2, emp e3⟩))
  | _ => exact gen rfl
end
end PM

set_option Elab.async false
set_option linter.all false
set_option autoImplicit false
set_option maxHeartbeats 1000000
/-! # PM7: attributes, subscripts, slices, chains, None -/
namespace PM
open PySem PySem.Spec PyProof.Rows
open L2 hiding St
section
variable {X : Cx} {NM : List Str} {W : WX} {P : PM.Prog} {G : Gam} {adr : Nat → Nat → Addr} {k : Nat}
/-- an expression read, then an operation on its value -/
theorem se_un {e e' : Expr} {ea : E} {m : LV → LH → R LV} {f : Value → Sem Value} (ha : SE X NM W e (den P G ea).e)
    (hv : ∀ (pins : List (Addr × Obj)) (s : Shared) (σ : St) (H : Hp) (Q : VK), wpAny (model X.prog X.w) X.A (eval e X.env) (fun v s1 => ∃ x H1, Inv X pins σ H1 s1 ∧ L2.RelV x v ∧ wpAny (model X.prog X.w) X.A (f v) (EP X pins σ Q) X.xe s1) X.xe s → wpAny (model X.prog X.w) X.A (eval e' X.env) (EP X pins σ Q) X.xe s)
    (ho : ∀ (pins : List (Addr × Obj)) (s : Shared) (σ : St) (H : Hp) (x : V) (v : Value) (Q : VK) (g : Inj) (a : LV) (L : LH), Inv X pins σ H s → L2.RelV x v → RelH X.K NM g L H → VR X.K NM g H a x → Aft X.K NM g H (m a L) (fun c f' H' => ∀ z, VR X.K NM f' H' c z → Q z H') (Wx X.K NM W σ) →
      wpAny (model X.prog X.w) X.A (f v) (EP X pins σ Q) X.xe s) :
    SE X NM W e' (fun σ H => ((den P G ea).e σ H).bind m) := by
  refine ⟨fun pins s σ H Q I h => ?_⟩
  obtain ⟨g, l, L, hR, hS, h⟩ := h
  refine hv pins s σ H Q (thn (ha.run pins s σ H (fun x H1 => ∃ f1 a L1, RelH X.K NM f1 L1 H1 ∧ VR X.K NM f1 H1 a x ∧ Aft X.K NM f1 H1 (m a L1) (fun a f' H' => ∀ b, VR X.K NM f' H' a b → Q b H') (Wx X.K NM W σ)) I
    (tR_bind hR hS h fun x L1 f1 H1 v e1 r1 s1 rv h1 => ⟨f1, x, L1, r1, rv, h1⟩)) fun v s1 ⟨x, H1, I1, r1, f1, a1, L1, q1, q3, q4⟩ => ⟨x, H1, I1, r1, ho pins s1 σ H1 x v Q f1 a1 L1 I1 r1 q1 q3 q4⟩)
/-- where super() is not meant -/
def baseOk : Expr → Bool
  | .Call (.Name x _) [] [] _ => x != ("super" : Str)
  | _ => true
theorem baseOk_eq {e : Expr} {f : Str} {w : Sem Value} (h : baseOk e = true) : attributeBase e f X.env w = w := by
  unfold attributeBase
  split
  · rename_i x p pos
    have h : (x != ("super" : Str)) = true := h
    rw [if_pos (by rw [h]; rfl)]
    first | done | simp
  · rfl
theorem noX_ok {K : PySem.W.Frag} {α : Type} {r : R α} {f : Inj} {H : Hp} {Q : α → Inj → Hp → Prop} {Qx Qy : LX → Inj → Hp → Prop} (h : Aft K NM f H (noX r) Q Qx) : Aft K NM f H r Q Qy := by
  cases r with
  | ok a L => exact h
  | exc x L => exact h.elim
  | bad => exact h.elim
theorem se_fld (F : Fc X NM W P G adr k) {e : Expr} {ea : E} {f : Nat} {pos : Pos} (hb : baseOk e = true) (ha : SE X NM W e (den P G ea).e) : SE X NM W (.Attribute e (nm NM f) pos) (den P G (.fld f ea)).e := by
  refine se_un (f := fun v => getAttr v (nm NM f) true) (m := getFld P G f) ha (fun pins s σ H Q h => attr_of (baseOk_eq hb) (thn h fun v s1 ⟨x, H1, I1, r1, q⟩ => q)) ?_
  intro pins s σ H x v Q g a L I rx hR va h
  unfold getFld at h
  split at h
  · rename_i c ns ys
    split at h
    · rename_i i hi
      split at h
      · rename_i hf
        split at h
        · rename_i y hy
          have T := F.sf.err c i hi
          obtain ⟨p, dd, ws, rfl, o1, _, o2, _, hlen, hix, rv⟩ := va
          cases rx
          obtain ⟨hno, hl⟩ : PySem.W.findIn X.K (.ref (gad X.K NM c)) (nm NM f) = some none ∧ f < NM.length := by
            rcases hf with rfl | hf
            · exact T.noC
            · exact ⟨(T.noF f hf).1, (T.noF f hf).2.1⟩
          obtain ⟨w, e2, e3⟩ := (FR.lookup F.sf.nd hl (fr_zipN hlen hix rv.on)).2 y hy
          have ho : ObjOk X.prog X.w H s.heap p (ErrO (.ref (gad X.K NM c)) p dd) := I.hok p _ o1
          obtain ⟨⟨oe, vs, q1, q2, q3, q4⟩, _, _⟩ := ho
          have hx : ObjOk X.prog X.w H s.heap dd (.xd ((ns.map (nm NM)).zip ws)) := I.hok dd _ o2
          obtain ⟨mA, hns, hr⟩ := hx
          obtain ⟨od, hd, hlk⟩ := lookIn_ns hns
          obtain ⟨u, hu, ru⟩ := RelO.some_of (v := w) (o := mA (nm NM f)) (by rw [← e2]; exact hr (nm NM f))
          have J : PySem.W.InstAt s.heap p oe (gad X.K NM c) (some od) := ⟨q1, q2, by unfold PySem.W.notCls; rw [q4], by rw [q3]; exact hd⟩
          exact HandSPX.exc_get I.kIn J T.xf.ga T.xf.gg T.xf.exC (PySem.W.findObj_own T.xf.hdC hno rfl (by rw [hlk, hu])) (handed_of ru) ⟨w, H, I.tok _, ru, Aft.here h hR w e3⟩
        · exact h.elim
      · exact h.elim
    · exact h.elim
  · rename_i c
    split at h
    · rename_i hcl
      split at h
      · rename_i y hm
        obtain ⟨u, w, k1, k2, k3, k4⟩ := F.sf.ccl c f y hcl hm
        obtain rfl : x = .ref (gad X.K NM c) := va
        cases rx
        exact PySem.W.cls_value I.kIn k1 k2 (handed_of k3) ⟨w, H, I.tok _, k3, Aft.here h hR w (k4 g H)⟩
      · exact h.elim
    · exact h.elim
  split at h
  · rename_i c fs e1
    obtain ⟨p, dx, gs, rfl, o1, r1⟩ := ins_at hR va e1
    cases rx
    split at h
    · rename_i hm
      split at h
      · rename_i y hy
        obtain ⟨na, hl⟩ := F.sf.fld c f hm
        obtain ⟨w, e2, e3⟩ := (FR.lookup F.sf.nd hl r1).2 y hy
        exact getattr_ok I o1 (F.sf.cls c f _ hm) na e2 fun u s' I' ru => ⟨w, H, I', ru, Aft.here h hR w e3⟩
      · exact h.elim
    · rename_i d hm
      obtain ⟨p', hp⟩ := F.sf.prop c f d hm
      have c' := F.sf.cls c f _ hm
      -- the getter's run
      obtain ⟨mA, O, _, _, _, _⟩ := ins_get I.hok o1
      obtain ⟨od, J, _⟩ := O.look
      obtain ⟨rest, hrec⟩ := hp.rec_
      have I1 := I.tok (s.toks + 1)
      have hc : (PySem.W.clsIn X.K (gad X.K NM c)).isSome = true := by
        obtain ⟨cd, hc, _⟩ := PySem.W.any_some c'.hd
        rw [hc]
        rfl
      refine PySem.W.get_bind I.kIn J (PySem.W.plainGet_of (c'.get (nm NM f))).1 (PySem.W.findObj_data hc hp.at_ hp.get hp.tak) (PySem.W.plainGet_of (c'.get (nm NM f))).2 (wpAny_call (PySem.W.prop_get (s := { s with toks := s.toks + 1 }) I.kIn hrec ?_))
      refine codeAny_mono (F.gs d f X.A.in1 X.stack { s with toks := s.toks + 1 } H [.ref p] [.ref p] [] [] Q (fun _ _ _ => False) ((F.rm.mono (by omega : k + 1 ≤ k + 2)).in1) I1.env0.in1 (.cons rfl .nil) .nil ⟨g, L, [a], [], hR, VRs.cons va VRs.nil, rfl, noX_ok h⟩) fun r s' hq => ?_
      cases r with
      | error er =>
        obtain ⟨_, _, _, _, _, _, _, _, _, _, _, _, hf⟩ := hq
        exact hf.elim
      | ok fl =>
        cases fl with
        | ret u =>
          obtain ⟨v, H', I3, rv, q3⟩ := I1.after hq
          show wpAny _ _ (handedOut u) _ _ _
          rw [PySem.W.handedOut_of (handed_of rv)]
          exact wpAny_pure ⟨v, H', I3, rv, q3⟩
        | next => exact False.elim hq
        | brk => exact False.elim hq
        | cont => exact False.elim hq
    · rename_i y hm
      split at h
      · rename_i hn
        obtain ⟨u, w, hc, rw', hl⟩ := F.sf.con c f y hm
        have e2 := (FR.lookup F.sf.nd hl r1).1 hn
        exact getcon_ok I o1 (F.sf.cls c f _ hm) hc e2 fun s' I' => ⟨w, H, I', hc.rel, Aft.here h hR w (rw' g H)⟩
      · exact h.elim
    · exact h.elim
  · exact h.elim
/-- e[i] -/
def plainIx : Expr → Bool
  | .Slice _ _ _ _ => false
  | _ => true
theorem plainIx_ok {b : Expr} (h : plainIx b = true) : PlainIx b := by
  intro o i
  cases b <;> first | rfl | cases h
theorem atI_ok {K : PySem.W.Frag} {f : Inj} {H : Hp} {xs : List LV} {vs : List V} {i : Int} {x : LV} (r : VRs K NM f H xs vs) (h : PM.atI xs i = some x) : ∃ v, L2.atI vs i = some v ∧ VR K NM f H x v := by
  unfold PM.atI at h
  unfold L2.atI
  have e : PM.ixN xs.length i = L2.ixN vs.length i := by rw [r.length]; rfl
  rw [e] at h
  cases q : L2.ixN vs.length i with
  | none => rw [q] at h; cases h
  | some j =>
    rw [q] at h
    exact r.get h
theorem getIx_ok {f : Inj} {L : LH} {H : Hp} {a b : LV} {x y : V} {Q : VK} {σ : St} (hR : RelH X.K NM f L H) (va : VR X.K NM f H a x) (vb : VR X.K NM f H b y) (h : Aft X.K NM f H (getIx a b L) (fun c f' H' => ∀ z, VR X.K NM f' H' c z → Q z H') (Wx X.K NM W σ)) : rIx X.K x y H Q := by
  unfold getIx at h
  split at h
  · rename_i i
    obtain rfl : y = .int i := vb
    split at h
    · rename_i s
      obtain rfl : x = strV s := va
      split at h
      · rename_i hz
        split at h
        · rename_i c hc
          refine .inr (.inr ⟨⟨s.toArray⟩, i, c, rfl, rfl, by rw [strV_len, ← SL_eq]; exact hz, hc, ?_⟩)
          exact Aft.here h hR _ rfl
        · exact h.elim
      · exact h.elim
    · split at h
      · rename_i xs hs
        split at h
        · rename_i v hv
          obtain ⟨p, vs, rfl, s1, r1⟩ := seqOf_ok hR va hs
          obtain ⟨w, e1, e2⟩ := atI_ok r1 hv
          rcases s1 with s1 | s1
          · exact .inl ⟨p, vs, i, w, rfl, rfl, s1, e1, Aft.here h hR w e2⟩
          · exact .inr (.inl ⟨p, vs, i, w, rfl, rfl, s1, e1, Aft.here h hR w e2⟩)
        · exact h.elim
      · exact h.elim
  · exact h.elim
theorem se_ix {a b : Expr} {ea eb : E} {pos : Pos} (hp : plainIx b = true) (ha : SE X NM W a (den P G ea).e) (hb : SE X NM W b (den P G eb).e) : SE X NM W (.Subscript a b pos) (den P G (.ix ea eb)).e := by
  refine pe_weak (pe_ix ix_seq ha hb (plainIx_ok hp)) fun σ H Q h => ?_
  obtain ⟨f, l, L, hR, hS, h⟩ := h
  refine tR_bind hR hS h fun x L1 f1 H1 v e1 r1 s1 rv h1 => ?_
  refine tR_bind r1 s1 h1 fun y L2 f2 H2 u e2 r2 s2 ru h2 => ?_
  exact getIx_ok r2 (VR.mono e2.mo _ _ rv) ru h2
/-- parts of a slice -/
abbrev SO (X : Cx) (NM : List Str) (W : WX) (pe : Option Expr) (dn : LS → LH → R (Option Int)) : Prop := PO X pe (fun σ H Q => tR X.K NM (fun _ _ a b => a = b) W dn σ H Q)
theorem po_weak {e : Option Expr} {t t' : St → Hp → (Option Int → Hp → Prop) → Prop} (h : PO X e t') (i : ∀ σ H Q, t σ H Q → t' σ H Q) : PO X e t := ⟨fun pins s σ H Q I q => h.run pins s σ H Q I (i σ H Q q)⟩
theorem so_none : SO X NM W none (fun σ H => ((den P G .nil).es σ H).bind partR) := by
  refine po_weak po_none fun σ H Q h => ?_
  obtain ⟨f, l, L, hR, hS, h⟩ := h
  exact Aft.here h hR none rfl
theorem so_some {e : Expr} {ea : E} (h : SE X NM W e (den P G ea).e) : SO X NM W (some e) (fun σ H => ((den P G (.cons ea .nil)).es σ H).bind partR) := by
  refine po_weak (po_some h) fun σ H Q h => ?_
  obtain ⟨f, l, L, hR, hS, h⟩ := h
  have h : Aft X.K NM f H ((((den P G ea).e l L).bind fun v H1 => (R.ok ([] : List LV) H1).bind fun vs H2 => R.ok (v :: vs) H2).bind partR) _ _ := h
  rw [R.bind_assoc] at h
  refine tR_bind hR hS h fun x L1 f1 H1 v e1 r1 s1 rv h1 => ?_
  have h1 : Aft X.K NM f1 H1 (partR [x] L1) _ _ := h1
  cases x with
  | int i =>
    obtain rfl : v = .int i := rv
    exact ⟨i, rfl, Aft.here h1 r1 (some i) rfl⟩
  | _ => exact h1.elim
def rSlG (K : PySem.W.Frag) : V → Option Int → Option Int → Hp → VK → Prop := fun x lo hi H Q => (rSlS x lo hi H Q ∨ rSlL K x lo hi H Q) ∨ rSlA K x lo hi H Q
theorem sl_all : SlR X (rSlG X.K) := (SlR.or sl_str sl_list).or sl_tupA
theorem cut_all {α : Type} (xs : List α) (l h : Option Int) (e : HT.sIx xs.length 0 l = 0 ∧ HT.sIx xs.length xs.length h = xs.length) : PM.cut xs l h = xs := by
  have e1 : sIx xs.length 0 l = 0 := e.1
  have e2 : sIx xs.length xs.length h = xs.length := e.2
  unfold PM.cut
  rw [e1, e2]
  simp
theorem se_slc {a : Expr} {lo hi : Option Expr} {ea el eh : E} {p2 pos : Pos} (ha : SE X NM W a (den P G ea).e) (hl : SO X NM W lo (fun σ H => ((den P G el).es σ H).bind partR)) (hh : SO X NM W hi (fun σ H => ((den P G eh).es σ H).bind partR)) :
    SE X NM W (.Subscript a (.Slice lo hi none p2) pos) (den P G (.slc ea el eh)).e := by
  refine pe_weak (pe_slice sl_all ha hl hh) fun σ H Q h => ?_
  obtain ⟨f, l, L, hR, hS, h⟩ := h
  refine tR_bind hR hS h fun x L1 f1 H1 v e1 r1 s1 rv h1 => ?_
  refine tR_bind r1 s1 h1 fun i L2 f2 H2 i' e2 r2 s2 ri h2 => ?_
  obtain rfl : i = i' := ri
  refine tR_bind r2 s2 h2 fun j L3 f3 H3 j' e3 r3 s3 rj h3 => ?_
  obtain rfl : j = j' := rj
  have rv := VR.mono (e2.trans e3).mo _ _ rv
  have lst : ∀ xs, lstOf L3 x = some xs → Aft X.K NM f3 H3 (newF (PM.cut xs i j) L3) (fun c f' H' => ∀ z, VR X.K NM f' H' c z → Q z H') (Wx X.K NM W σ) → rSlG X.K v i j H3 Q := fun xs hx h3 => by
    obtain ⟨p, vs, rfl, q1, q2⟩ := lstOf_ok r3 rv hx
    obtain ⟨_, q3⟩ := newF_ok h3 r3 (q2.cut i j)
    exact .inl (.inr ⟨p, vs, rfl, q1, q3⟩)
  cases x with
  | str z =>
    obtain rfl : v = strV z := rv
    have h3 : Aft X.K NM f3 H3 (if z.length ≤ SL then .ok (.str (PM.cut z i j)) L3 else .bad : R LV) _ _ := h3
    split at h3
    · rename_i hz
      refine .inl (.inl ⟨⟨z.toArray⟩, rfl, by rw [strV_len, ← SL_eq]; exact hz, ?_⟩)
      have e : cutS ⟨z.toArray⟩ i j = ⟨(PM.cut z i j).toArray⟩ := by
        unfold cutS PM.cut
        rw [strV_len]
        rfl
      rw [e]
      exact Aft.here h3 r3 _ rfl
    · exact h3.elim
  | tup xs =>
    obtain ⟨p, vs, rfl, q1, q2⟩ := rv
    have h3 : Aft X.K NM f3 H3 (.ok (.tup (PM.cut xs i j)) L3 : R LV) _ _ := h3
    refine .inr ⟨p, vs, rfl, q1, fun e => ?_, fun _ p hp => ?_⟩
    · rw [← q2.length] at e
      rw [cut_all xs i j e] at h3
      exact Aft.here h3 r3 _ ⟨p, vs, rfl, q1, q2⟩
    · exact h3 f3 _ (Ext.put hp) (r3.put hp) _ ⟨p, cutV vs i j, rfl, SqT.of upd_same, VRs.mono (Ext.put hp).mo _ _ (q2.cut i j)⟩
  | ref a =>
    have h3 : Aft X.K NM f3 H3 (match lstOf L3 (.ref a) with
      | some xs => newF (PM.cut xs i j) L3
      | none => .bad : R LV) _ _ := h3
    split at h3
    · rename_i xs hx
      exact lst xs hx h3
    · exact h3.elim
  | fz a => exact lst a rfl h3
  | scr a => exact lst a rfl h3
  | _ => exact h3.elim
theorem se_slcM {a : Expr} {lo hi : Option Expr} {ea el eh : E} {p2 pos : Pos} (ha : SE X NM W a (den P G ea).e) (hl : SO X NM W lo (fun σ H => ((den P G el).es σ H).bind partR)) (hh : SO X NM W hi (fun σ H => ((den P G eh).es σ H).bind partR)) :
    SE X NM W (.Subscript a (.Slice lo hi none p2) pos) (den P G (.slcM ea el eh)).e := by
  refine pe_weak (pe_slice sl_all ha hl hh) fun σ H Q h => ?_
  obtain ⟨f, l, L, hR, hS, h⟩ := h
  refine tR_bind hR hS h fun x L1 f1 H1 v e1 r1 s1 rv h1 => ?_
  refine tR_bind r1 s1 h1 fun i L2 f2 H2 i' e2 r2 s2 ri h2 => ?_
  obtain rfl : i = i' := ri
  refine tR_bind r2 s2 h2 fun j L3 f3 H3 j' e3 r3 s3 rj h3 => ?_
  obtain rfl : j = j' := rj
  have rv := VR.mono (e2.trans e3).mo _ _ rv
  unfold getSlM at h3
  split at h3
  · rename_i xs hx
    obtain ⟨p, vs, rfl, q1, q2⟩ := lstOf_ok r3 rv hx
    obtain ⟨_, q3⟩ := newL_ok h3 r3 (q2.cut i j)
    exact .inl (.inr ⟨p, vs, rfl, q1, q3⟩)
  · exact h3.elim
theorem se_rev {e : Expr} {ea : E} {n : Nat} {p1 p2 p3 pos : Pos} (ha : SE X NM W e (den P G ea).e) : SE X NM W (.Subscript e (.Slice none none (some (.UnaryOp .USub (.Constant (.int 1) n p1) p2)) p3) pos) (den P G (.rev ea)).e := by
  refine pe_weak (pe_revL ha) fun σ H Q h => ?_
  obtain ⟨f, l, L, hR, hS, h⟩ := h
  refine tR_bind hR hS h fun x L1 f1 H1 v e1 r1 s1 rv h1 => ?_
  unfold revOf at h1
  split at h1
  · rename_i xs hx
    obtain ⟨p, vs, rfl, q1, q2⟩ := lstOf_ok r1 rv hx
    obtain ⟨_, q3⟩ := newF_ok h1 r1 q2.reverse
    exact ⟨p, vs, rfl, q1, q3⟩
  · exact h1.elim
/-- -e -/
theorem se_neg (F : Fc X NM W P G adr k) {e : Expr} {ea : E} {pos : Pos} (ha : SE X NM W e (den P G ea).e) : SE X NM W (.UnaryOp .USub e pos) (den P G (.neg ea)).e := by
  refine se_un (f := fun v => unaryOp .USub v) ha (fun pins s σ H Q h => UnaryOp_ (thn h fun v s1 ⟨x, H1, I1, r1, q⟩ => q)) ?_
  intro pins s σ H x v Q g a L I rx hR va h
  have gen : Aft X.K NM g H (match insCls L a with
      | some c => ownM P G L c kNeg [a]
      | none => .bad : R LV) (fun c f' H' => ∀ z, VR X.K NM f' H' c z → Q z H') (Wx X.K NM W σ) → wpAny (model X.prog X.w) X.A (unaryOp .USub v) (EP X pins σ Q) X.xe s := fun h => by
    split at h
    · rename_i c hc
      obtain ⟨fs, e1⟩ := insCls_ok hc
      obtain ⟨p, dx, gs, rfl, o1, r1⟩ := ins_at hR va e1
      cases rx
      obtain ⟨d, hd, run⟩ := ownM_run (vs := [.ref p]) (us := [.ref p]) F F.room I.env0 I (.cons rfl .nil) hR (VRs.cons va VRs.nil) h
      obtain ⟨M, _, _⟩ := F.sf.meth c kNeg d hd
      obtain ⟨mA, O, _, _, _, _⟩ := ins_get I.hok o1
      obtain ⟨od, J, _⟩ := O.look
      obtain ⟨fm, hF⟩ := I.fr
      exact PySem.W.ksp_neg hF I.ok.mod.kin J (by
        have := M.at_
        rw [F.sf.pre kNeg (by decide)] at this
        exact this) M.fn run
    · exact h.elim
  cases a with
  | int i =>
    obtain rfl : x = .int i := va
    exact un_neg pins s σ H _ v Q I rx ⟨i, rfl, Aft.here h hR _ rfl⟩
  | _ => exact gen h
/-- x is None -/
theorem isNone_ok {K : PySem.W.Frag} {f : Inj} {H : Hp} {x : LV} {v : V} (r : VR K NM f H x v) : isNone x = decide (v = .non) := by
  cases x with
  | non => obtain rfl : v = .non := r; rfl
  | bl b => obtain rfl : v = .bl b := r; rfl
  | int b => obtain rfl : v = .int b := r; rfl
  | str b => obtain rfl : v = strV b := r; rfl
  | tup xs => obtain ⟨p, vs, rfl, _⟩ := r; rfl
  | ref a => obtain ⟨p, rfl, _⟩ := r; rfl
  | gl g => obtain rfl : v = .ref _ := r; rfl
  | fz xs => obtain ⟨p, vs, rfl, _⟩ := r; rfl
  | scr xs => obtain ⟨p, vs, rfl, _⟩ := r; rfl
  | obj c ns xs => obtain ⟨p, dx, vs, rfl, _⟩ := r; rfl
  | err c ns xs => obtain ⟨p, dd, vs, rfl, _⟩ := r; rfl
  | _ => exact r.elim
theorem se_isN {e : Expr} {ea : E} {j : Nat} {p pos : Pos} (ha : SE X NM W e (den P G ea).e) : SE X NM W (.Compare e [.Is] [.Constant .none j p] pos) (den P G (.isN ea)).e := by
  refine pe_weak (pe_cmpR op_isN ha pe_non rfl) fun σ H Q h => ?_
  obtain ⟨f, l, L, hR, hS, h⟩ := h
  refine tR_bind hR hS h fun x L1 f1 H1 v e1 r1 s1 rv h1 => ?_
  refine ⟨rfl, ?_⟩
  rw [← isNone_ok rv]
  exact Aft.here h1 r1 _ rfl
theorem se_notN {e : Expr} {ea : E} {j : Nat} {p pos : Pos} (ha : SE X NM W e (den P G ea).e) : SE X NM W (.Compare e [.IsNot] [.Constant .none j p] pos) (den P G (.notN ea)).e := by
  refine pe_weak (pe_cmpR op_notN ha pe_non rfl) fun σ H Q h => ?_
  obtain ⟨f, l, L, hR, hS, h⟩ := h
  refine tR_bind hR hS h fun x L1 f1 H1 v e1 r1 s1 rv h1 => ?_
  refine ⟨rfl, ?_⟩
  rw [← isNone_ok rv]
  exact Aft.here h1 r1 _ rfl
/-- a op b op' c -/
theorem chain_K {op op' : CmpOp} {o o' : COp} {a b c : Expr} {ea eb ec : E} {pos : Pos} (ho : OpS X NM W (compareOp op) (cmpV P G o)) (ho' : OpS X NM W (compareOp op') (cmpV P G o')) (ha : SE X NM W a (den P G ea).e) (hb : SE X NM W b (den P G eb).e) (hc : SE X NM W c (den P G ec).e)
    (hm : lastMarks [op, op'] [b, c] = false) : SE X NM W (.Compare a [op, op'] [b, c] pos) (den P G (.chain o o' ea eb ec)).e := by
  refine ⟨fun pins s σ H Q I h => ?_⟩
  obtain ⟨f, l, L, hR, hS, h⟩ := h
  refine Compare_chain (thn (ha.run pins s σ H (fun v H1 => tR X.K NM (VR X.K NM) W (den P G eb).e σ H1 fun u H2 => ∃ f2 x y L2, RelH X.K NM f2 L2 H2 ∧ SR X.K NM f2 H2 l σ ∧ VR X.K NM f2 H2 x v ∧ VR X.K NM f2 H2 y u ∧
      Aft X.K NM f2 H2 ((cmpV P G o x y L2).bind fun r H3 => chainK (fun σ H3 => ((den P G ec).e σ H3).bind fun z H4 => cmpV P G o' y z H4) l r H3) (fun a f' H' => ∀ b, VR X.K NM f' H' a b → Q b H') (Wx X.K NM W σ)) I
    (tR_bind hR hS h fun x L1 f1 H1 v e1 r1 s1 rv h1 => tR_bind r1 s1 h1 fun y L2 f2 H2 u e2 r2 s2 ru h2 => ⟨f2, x, y, L2, r2, s2, VR.mono e2.mo _ _ rv, ru, h2⟩)) fun v s1 ⟨x, H1, I1, r1, q1⟩ => chain_link (thn (hb.run pins s1 σ H1 _ I1 q1) fun u s2 ⟨y, H2, I2, r2, q2⟩ => ?_)) hm
  obtain ⟨f2, x', y', L2, q2, q3, q4, q5, q6⟩ := q2
  refine thn (ho pins s2 σ H2 x y v u (fun z H3 => (z = .bl true ∧ ∃ f3 L3, RelH X.K NM f3 L3 H3 ∧ SR X.K NM f3 H3 l σ ∧ VR X.K NM f3 H3 y' y ∧ Aft X.K NM f3 H3 (((den P G ec).e l L3).bind fun z H4 => cmpV P G o' y' z H4) (fun a f' H' => ∀ b, VR X.K NM f' H' a b → Q b H') (Wx X.K NM W σ)) ∨ (z = .bl false ∧ Q (.bl false) H3)) I2 r1 r2 ⟨f2, x', y', L2, q2, q4, q5, ?_⟩) fun d s3 ⟨z, H3, I3, r3, q⟩ => ?_
  · cases q : cmpV P G o x' y' L2 with
    | ok r L3 =>
      rw [q] at q6
      intro f' H' e r1 z rz
      cases r with
      | bl t =>
        obtain rfl : z = .bl t := rz
        cases t with
        | true => exact .inl ⟨rfl, f', L3, r1, q3.mono e.mo, VR.mono e.mo _ _ q5, Aft.ext q6 e⟩
        | false => exact .inr ⟨rfl, Aft.here (Aft.ext q6 e) r1 _ rfl⟩
      | _ => exact q6.elim
    | exc x L3 => rw [q] at q6; exact q6
    | bad => rw [q] at q6; exact q6
  · rcases q with ⟨rfl, f3, L3, q1, q2, q3, q4⟩ | ⟨rfl, q⟩
    · cases r3
      refine wpAny_truthy_bool (ite_tt (chain_last (thn (hc.run pins s3 σ H3 (fun w H4 => ∃ f4 z L4, RelH X.K NM f4 L4 H4 ∧ VR X.K NM f4 H4 y' y ∧ VR X.K NM f4 H4 z w ∧ Aft X.K NM f4 H4 (cmpV P G o' y' z L4) (fun a f' H' => ∀ b, VR X.K NM f' H' a b → Q b H') (Wx X.K NM W σ)) I3
        (tR_bind q1 q2 q4 fun z L4 f4 H4 w e4 r4 s4 rw' h4 => ⟨f4, z, L4, r4, VR.mono e4.mo _ _ q3, rw', h4⟩)) fun w' s4 ⟨z', H4, I4, r4, q4⟩ => ?_)))
      obtain ⟨f4, z4, L4, w1, w2, w3, w4⟩ := q4
      exact ho' pins s4 σ H4 y z' u w' Q I4 r2 r4 ⟨f4, y', z4, L4, w1, w2, w3, w4⟩
    · cases r3
      exact wpAny_truthy_bool (ite_ff ⟨.bl false, H3, I3, rfl, q⟩)
end
end PM

set_option Elab.async false
set_option linter.all false
set_option autoImplicit false
set_option maxHeartbeats 1000000
/-! # PM8: targets, statements -/
namespace PM
open PySem PySem.Spec PyProof.Rows
open L2 hiding St
section
variable (K : PySem.W.Frag) (NM : List Str)
/-- what follows a statement -/
def AftS (W : WX) (f : Inj) (H : Hp) (r : RS) (D : Ends) : Prop := match r with
  | .ok (.nx l) L => ∀ f' H' σ', Ext f H f' H' → RelH K NM f' L H' → SR K NM f' H' l σ' → D.nx σ' H'
  | .ok (.bk l) L => ∀ f' H' σ', Ext f H f' H' → RelH K NM f' L H' → SR K NM f' H' l σ' → D.bk σ' H'
  | .ok (.ct l) L => ∀ f' H' σ', Ext f H f' H' → RelH K NM f' L H' → SR K NM f' H' l σ' → D.ct σ' H'
  | .ok (.rt v) L => ∀ f' H' w, Ext f H f' H' → RelH K NM f' L H' → VR K NM f' H' v w → D.rt w H'
  | .exc x l L => ∀ f' H' σ', Ext f H f' H' → RelH K NM f' L H' → SR K NM f' H' l σ' → Wx K NM W σ' x f' H'
  | .bad => False
def tS (W : WX) (dn : LS → LH → RS) : TS := fun D σ H => ∃ f l L, RelH K NM f L H ∧ SR K NM f H l σ ∧ AftS K NM W f H (dn l L) D
/-- a target -/
def tG (W : WX) (dn : LV → LS → LH → R LS) : TG := fun v σ H Q => ∃ f l L x, RelH K NM f L H ∧ SR K NM f H l σ ∧ VR K NM f H x v ∧ Aft K NM f H (dn x l L) (fun l' f' H' => ∀ σ', SR K NM f' H' l' σ' → Q σ' H') (Wx K NM W σ)
def tGs (W : WX) (dn : List LV → LS → LH → R LS) : TGs := fun vs σ H Q => ∃ f l L xs, RelH K NM f L H ∧ SR K NM f H l σ ∧ VRs K NM f H xs vs ∧ Aft K NM f H (dn xs l L) (fun l' f' H' => ∀ σ', SR K NM f' H' l' σ' → Q σ' H') (Wx K NM W σ)
end
abbrev SS (X : Cx) (NM : List Str) (W : WX) (st : Stmt) (dn : LS → LH → RS) : Prop := PS X st (tS X.K NM W dn)
abbrev SSs (X : Cx) (NM : List Str) (W : WX) (st : List Stmt) (dn : LS → LH → RS) : Prop := PSs X st (tS X.K NM W dn)
abbrev SG (X : Cx) (NM : List Str) (W : WX) (tg : Expr) (dn : LV → LS → LH → R LS) : Prop := PG X tg (tG X.K NM W dn)
abbrev SGs (X : Cx) (NM : List Str) (W : WX) (tg : List Expr) (dn : List LV → LS → LH → R LS) : Prop := PGs X tg (tGs X.K NM W dn)
section
variable {X : Cx} {NM : List Str} {W : WX} {P : PM.Prog} {G : Gam} {adr : Nat → Nat → Addr} {k : Nat}
theorem ps_weak {e : Stmt} {t t' : TS} (h : PS X e t') (i : ∀ D σ H, t D σ H → t' D σ H) : PS X e t := ⟨fun pins s σ H D I q => h.run pins s σ H D I (i D σ H q)⟩
theorem pss_weak {e : List Stmt} {t t' : TS} (h : PSs X e t') (i : ∀ D σ H, t D σ H → t' D σ H) : PSs X e t := ⟨fun pins s σ H D I q => h.run pins s σ H D I (i D σ H q)⟩
theorem pg_weak {e : Expr} {t t' : TG} (h : PG X e t') (i : ∀ v σ H Q, t v σ H Q → t' v σ H Q) : PG X e t := ⟨fun pins s σ H v u Q I r q => h.run pins s σ H v u Q I r (i v σ H Q q)⟩
theorem pgs_weak {e : List Expr} {t t' : TGs} (h : PGs X e t') (i : ∀ v σ H Q, t v σ H Q → t' v σ H Q) : PGs X e t := ⟨fun pins s σ H v u Q I r q => h.run pins s σ H v u Q I r (i v σ H Q q)⟩
section
variable {K : PySem.W.Frag} {f f1 : Inj} {H H1 : Hp} {D : Ends} {σ : St}
theorem AftS.ext {r : RS} (h : AftS K NM W f H r D) (e : Ext f H f1 H1) : AftS K NM W f1 H1 r D := by
  cases r with
  | ok a L =>
    cases a with
    | nx l => exact fun f' H' σ' e' r' => h f' H' σ' (e.trans e') r'
    | rt l => exact fun f' H' σ' e' r' => h f' H' σ' (e.trans e') r'
    | bk l => exact fun f' H' σ' e' r' => h f' H' σ' (e.trans e') r'
    | ct l => exact fun f' H' σ' e' r' => h f' H' σ' (e.trans e') r'
  | exc x l L => exact fun f' H' σ' e' r' => h f' H' σ' (e.trans e') r'
  | bad => exact h
/-- a part's reading within a statement -/
theorem tR_bindS {α β : Type} {rel : Inj → Hp → α → β → Prop} {dn : LS → LH → R α} {l : LS} {L : LH} {k : α → LH → RS} {Q' : β → Hp → Prop} (hR : RelH K NM f L H) (hS : SR K NM f H l σ)
    (h : AftS K NM W f H (RS.ofR (dn l L) l k) D)
    (hk : ∀ a L1 f1 H1 b, Ext f H f1 H1 → RelH K NM f1 L1 H1 → SR K NM f1 H1 l σ → rel f1 H1 a b → AftS K NM W f1 H1 (k a L1) D → Q' b H1) : tR K NM rel W dn σ H Q' := by
  refine ⟨f, l, L, hR, hS, ?_⟩
  cases q : dn l L with
  | ok a L' =>
    rw [q] at h
    have h : AftS K NM W f H (k a L') D := h
    exact fun f' H' e r b rb => hk a L' f' H' b e r (hS.mono e.mo) rb (AftS.ext h e)
  | exc x L' =>
    rw [q] at h
    exact fun f' H' e r => h f' H' σ e r (hS.mono e.mo)
  | bad => rw [q] at h; exact h
theorem tG_bindS {dn : LV → LS → LH → R LS} {x : LV} {v : V} {l : LS} {L : LH} {k : LS → LH → RS} {Q' : St → Hp → Prop} (hR : RelH K NM f L H) (hS : SR K NM f H l σ) (hv : VR K NM f H x v)
    (h : AftS K NM W f H (RS.ofR (dn x l L) l k) D)
    (hk : ∀ l' L1 f1 H1 σ', Ext f H f1 H1 → RelH K NM f1 L1 H1 → SR K NM f1 H1 l' σ' → AftS K NM W f1 H1 (k l' L1) D → Q' σ' H1) : tG K NM W dn v σ H Q' := by
  refine ⟨f, l, L, x, hR, hS, hv, ?_⟩
  cases q : dn x l L with
  | ok a L' =>
    rw [q] at h
    have h : AftS K NM W f H (k a L') D := h
    exact fun f' H' e r σ' rb => hk a L' f' H' σ' e r rb (AftS.ext h e)
  | exc x L' =>
    rw [q] at h
    exact fun f' H' e r => h f' H' σ e r (hS.mono e.mo)
  | bad => rw [q] at h; exact h
end

/-! ### targets -/
theorem sg_name {i : Nat} {x : Str} {pos : Pos} (hN : X.N.Nodup) (hi : X.N[i]? = some x) (hx : Loc X.env.scope x) (hf : X.fn x = true ∨ X.env.scope.names.lookup x = some .local) : SG X NM W (.Name x pos) (den P G (.tnm i)).g := by
  refine pg_weak (pg_name hN hi hx hf) fun v σ H Q h => ?_
  obtain ⟨f, l, L, y, hR, hS, hv, h⟩ := h
  have h : Aft X.K NM f H (if i < l.length then .ok (l.set i (some y)) L else .bad : R LS) _ _ := h
  split at h
  · exact Aft.here h hR _ (hS.set hv)
  · exact h.elim
theorem sgs_nil : SGs X NM W [] (den P G .nil).gs := by
  refine pgs_weak pgs_nil fun vs σ H Q h => ?_
  obtain ⟨f, l, L, xs, hR, hS, hv, h⟩ := h
  cases xs with
  | nil =>
    obtain rfl : vs = [] := hv
    exact ⟨rfl, Aft.here h hR _ hS⟩
  | cons x xs => exact h.elim
theorem assign_head {e : Expr} {es : List Expr} {env : Env} (h : notStar e = true) : (assignEach (e :: es) env).map (·.2) = assign e env :: (assignEach es env).map (·.2) := by
  cases e <;> first | rfl | cases h
theorem sgs_cons {e : Expr} {es : List Expr} {a r : E} (hn : notStar e = true) (he : SG X NM W e (den P G a).g) (hr : SGs X NM W es (den P G r).gs) : SGs X NM W (e :: es) (den P G (.cons a r)).gs := by
  refine pgs_weak (pgs_cons he hr (assign_head hn)) fun vs σ H Q h => ?_
  obtain ⟨f, l, L, xs, hR, hS, hv, h⟩ := h
  cases xs with
  | nil => exact h.elim
  | cons x xs =>
    obtain ⟨w, ws, rfl, r1, r2⟩ := hv
    have h : Aft X.K NM f H (noX (((den P G a).g x l L).bind fun σ1 H1 => (den P G r).gs xs σ1 H1)) _ _ := h
    refine ⟨w, ws, rfl, f, l, L, x, hR, hS, r1, ?_⟩
    cases q : (den P G a).g x l L with
    | ok l' L' =>
      rw [q] at h
      intro f' H' e r3 σ' s'
      have h : Aft X.K NM f H ((den P G r).gs xs l' L') _ (Wx X.K NM W σ') := noX_ok h
      exact ⟨f', l', L', xs, r3, s', VRs.mono e.mo _ _ r2, Aft.ext h e⟩
    | exc y L' => rw [q] at h; exact h.elim
    | bad => rw [q] at h; exact h.elim
theorem assign_len : ∀ {es : List Expr} {env : Env}, es.all notStar = true → (assignEach es env).length = es.length ∧ (assignEach es env).findIdx? (·.1) = none
  | [], _, _ => ⟨rfl, rfl⟩
  | e :: es, env, h => by
    rw [List.all_cons, Bool.and_eq_true] at h
    obtain ⟨h1, h2⟩ := assign_len (es := es) (env := env) h.2
    have e1 : assignEach (e :: es) env = (false, assign e env) :: assignEach es env := by
      have := h.1
      cases e <;> first | rfl | cases this
    rw [e1]
    refine ⟨by simp [h1], ?_⟩
    rw [List.findIdx?_cons]
    simp [h2]
/-- a, b = .. -/
theorem sg_tup {es : List Expr} {a : E} {kk : Nat} {pos : Pos} (hc : X.calm = true) (hn : es.all notStar = true) (hs : SGs X NM W es (den P G a).gs) (hlen : ∀ xs l L, xs.length ≠ es.length → (den P G a).gs xs l L = .bad) : SG X NM W (.Tuple es kk pos) (den P G (.ttp a)).g := by
  have ha := assign_len (env := X.env) hn
  refine ⟨fun pins s σ H v u Q I r h => ?_⟩
  obtain ⟨f, l, L, x, hR, hS, hv, h⟩ := h
  have h : Aft X.K NM f H (match seqOf L x with
    | some xs => (den P G a).gs xs l L
    | none => .bad : R LS) _ _ := h
  split at h
  · rename_i xs hx
    obtain ⟨p, vs, rfl, s1, r1⟩ := seqOf_ok hR hv hx
    have hl : xs.length = es.length := by
      by_cases e : xs.length = es.length
      · exact e
      · rw [hlen xs l L e] at h; exact h.elim
    rcases s1 with s1 | s1
    · exact (pg_lst hc hs (hn := ha.1) (hst := ha.2)).run pins s σ H _ u Q I r ⟨p, vs, rfl, s1, by rw [← r1.length]; exact hl, f, l, L, xs, hR, hS, r1, h⟩
    · exact (pg_tup hc hs (hn := ha.1) (hst := ha.2)).run pins s σ H _ u Q I r ⟨p, vs, rfl, s1, by rw [← r1.length]; exact hl, f, l, L, xs, hR, hS, r1, h⟩
  · exact h.elim
/-- o[i] = v -/
theorem setIx_ok {f : Inj} {L : LH} {H : Hp} {σ : St} {o i x : LV} {vo vi vx : V} {Q : Hp → Prop} {l : LS} (hR : RelH X.K NM f L H) (r1 : VR X.K NM f H o vo) (r2 : VR X.K NM f H i vi) (r3 : VR X.K NM f H x vx)
    (h : Aft X.K NM f H (setIx o i x L) (fun _ f' H' => Q H') (Wx X.K NM W σ)) : rSetL vo vi vx H Q := by
  unfold setIx at h
  split at h
  · rename_i a j
    obtain rfl : vi = .int j := r2
    split at h
    · rename_i xs e
      split at h
      · rename_i n hn
        obtain ⟨p, vs, rfl, e2, e3, e4⟩ := lst_at hR r1 e
        refine ⟨p, vs, j, n, rfl, rfl, e3, by rw [← e4.length]; exact hn, ?_⟩
        exact Aft.wrote h hR e2 (u := .lst (vs.set n vx)) ⟨vs.set n vx, upd_same, VRs.mono (Ext.write hR e2).mo _ _ (e4.set n r3)⟩
      · exact h.elim
    · exact h.elim
  · exact h.elim
theorem assign_sub {o i : Expr} {pos : Pos} (h : plainIx i = true) : ∀ v, assign (.Subscript o i pos) X.env v = (do
      let ov ← holding [v] (eval o X.env)
      let iv ← holding [v, ov] (eval i X.env)
      standAt pos
      holding [v, ov, iv] (setItem ov iv v)
      release [v, ov, iv] []) := by
  intro v
  cases i <;> first | rfl | cases h
theorem sg_sub {o i : Expr} {eo ei : E} {pos : Pos} (hp : plainIx i = true) (ho : SE X NM W o (den P G eo).e) (hi : SE X NM W i (den P G ei).e) : SG X NM W (.Subscript o i pos) (den P G (.tix eo ei)).g := by
  refine pg_weak (pg_sub ho hi set_list (assign_sub hp)) fun v σ H Q h => ?_
  obtain ⟨f, l, L, x, hR, hS, hv, h⟩ := h
  refine tR_bind hR hS h fun a L1 f1 H1 va e1 r1 s1 ra h1 => ?_
  refine tR_bind r1 s1 h1 fun b L2 f2 H2 vb e2 r2 s2 rb h2 => ?_
  have h2 : Aft X.K NM f2 H2 ((setIx a b x L2).bind fun _ H3 => .ok l H3) _ _ := h2
  refine setIx_ok (W := W) (l := l) (σ := σ) r2 (VR.mono e2.mo _ _ ra) rb (VR.mono (e1.trans e2).mo _ _ hv) (Q := fun H' => Q σ H') ?_
  cases q : setIx a b x L2 with
  | ok u L' =>
    rw [q] at h2
    intro f' H' e r
    exact Aft.here (Aft.ext h2 e) r σ (s2.mono e.mo)
  | exc y L' => rw [q] at h2; exact h2
  | bad => rw [q] at h2; exact h2
end
end PM

set_option Elab.async false
set_option linter.all false
set_option autoImplicit false
set_option maxHeartbeats 1000000
/-! # PM9: iterators, statements -/
namespace PM
open PySem PySem.Spec PyProof.Rows
open L2 hiding St
section
variable (K : PySem.W.Frag) (NM : List Str)
/-- the walk of an iterator -/
def JR (f : Inj) (H : Hp) (I : LIt) (J : It) : Prop := ∀ f' H' L i r, Mo f H f' H' → RelH K NM f' L H' → I.nx L i = some r → match r with
  | none => J.stop i H'
  | some v => J.go i H' ∧ ∀ x H2, J.yld i H' x H2 → Ext f' H' f' H2 ∧ RelH K NM f' L H2 ∧ VR K NM f' H2 v x
end
theorem Mo.trans {f f1 f2 : Inj} {H H1 H2 : Hp} (a : Mo f H f1 H1) (b : Mo f1 H1 f2 H2) : Mo f H f2 H2 := ⟨fun x p e => b.sub x p (a.sub x p e), fun q xs e => b.tup q xs (a.tup q xs e), fun q o u e => b.frz q o u (a.frz q o u e), fun q o h t n => by
  obtain ⟨h1, h2⟩ := a.un q o h t n
  exact b.un q o h1 t h2⟩
theorem JR.mono {K : PySem.W.Frag} {NM : List Str} {f f1 : Inj} {H H1 : Hp} {I : LIt} {J : It} (h : JR K NM f H I J) (m : Mo f H f1 H1) : JR K NM f1 H1 I J := fun f' H' L i r m' => h f' H' L i r (m.trans m')
abbrev SI (X : Cx) (NM : List Str) (W : WX) (tg it : Expr) (dn : LS → LH → R LIt) : Prop := PI X tg it (fun σ H R => tR X.K NM (JR X.K NM) W dn σ H R)
section
variable {X : Cx} {NM : List Str} {W : WX} {P : PM.Prog} {G : Gam} {adr : Nat → Nat → Addr} {k : Nat}
theorem pi_weak {tg e : Expr} {t t' : TI} (h : PI X tg e t') (i : ∀ σ H Q, t σ H Q → t' σ H Q) : PI X tg e t := ⟨fun pins s σ H Q I q => h.run pins s σ H Q I (i σ H Q q)⟩
section
variable {K : PySem.W.Frag} {f : Inj} {H : Hp}
/-- lists: by the heap of the turn -/
theorem jr_ref {a : Nat} {p : Addr} (e : f a = some p) : JR K NM f H (.l (.ref a)) (Itl K p) := by
  intro f' H' L i r m hR h
  have h : (lstOf L (.ref a)).map (fun xs => xs[i]?) = some r := h
  cases q : lstOf L (.ref a) with
  | none => rw [q] at h; cases h
  | some xs =>
    rw [q] at h
    have hr : r = xs[i]? := by injection h with h; exact h.symm
    subst hr
    have e' := m.sub a p e
    have q : (match L[a]? with
      | some (.lst xs) => some xs
      | _ => none) = some xs := q
    split at q
    · rename_i ys e1
      cases q
      obtain ⟨p', vs, e2, e3, e4, e5⟩ := lst_at hR (x := .ref p) ⟨p, rfl, e'⟩ e1
      cases e2
      cases hi : xs[i]? with
      | none => exact ⟨vs, .inl (.inl e4), by rw [← e5.length]; exact List.getElem?_eq_none_iff.mp hi⟩
      | some x =>
        obtain ⟨w, w1, w2⟩ := e5.get hi
        refine ⟨⟨vs, w, .inl (.inl e4), w1⟩, fun z H2 hy => ?_⟩
        obtain ⟨rfl, hz⟩ := hy
        have := hz vs (.inl (.inl e4))
        rw [w1] at this
        cases this
        exact ⟨Ext.refl _ _, hR, w2⟩
    · cases q
theorem jr_fz {xs : List LV} {p : Addr} {vs : List V} (hf : FzL f H p vs) (hv : VRs K NM f H xs vs) : JR K NM f H (.l (.fz xs)) (Itl K p) := by
  intro f' H' L i r m hR h
  have h : some (xs[i]?) = some r := h
  cases h
  have e4 := (hf.mono m).sql (K := K)
  have e5 := VRs.mono m _ _ hv
  cases hi : xs[i]? with
  | none => exact ⟨vs, e4, by rw [← e5.length]; exact List.getElem?_eq_none_iff.mp hi⟩
  | some x =>
    obtain ⟨w, w1, w2⟩ := e5.get hi
    refine ⟨⟨vs, w, e4, w1⟩, fun z H2 hy => ?_⟩
    obtain ⟨rfl, hz⟩ := hy
    have := hz vs e4
    rw [w1] at this
    cases this
    exact ⟨Ext.refl _ _, hR, w2⟩
theorem jr_scr {xs : List LV} {p : Addr} {vs : List V} (hf : ScL K f H p vs) (hv : VRs K NM f H xs vs) : JR K NM f H (.l (.scr xs)) (Itl K p) := by
  intro f' H' L i r m hR h
  have h : some (xs[i]?) = some r := h
  cases h
  have e4 := (hf.mono m).sql
  have e5 := VRs.mono m _ _ hv
  cases hi : xs[i]? with
  | none => exact ⟨vs, e4, by rw [← e5.length]; exact List.getElem?_eq_none_iff.mp hi⟩
  | some x =>
    obtain ⟨w, w1, w2⟩ := e5.get hi
    refine ⟨⟨vs, w, e4, w1⟩, fun z H2 hy => ?_⟩
    obtain ⟨rfl, hz⟩ := hy
    have := hz vs e4
    rw [w1] at this
    cases this
    exact ⟨Ext.refl _ _, hR, w2⟩
theorem jr_tup {xs : List LV} {p : Addr} {vs : List V} (hf : SqT K H p vs) (hv : VRs K NM f H xs vs) : JR K NM f H (.t xs) (Itt K p) := by
  intro f' H' L i r m hR h
  have h : some (xs[i]?) = some r := h
  cases h
  have e4 := m.sqT hf
  have e5 := VRs.mono m _ _ hv
  cases hi : xs[i]? with
  | none => exact ⟨vs, e4, by rw [← e5.length]; exact List.getElem?_eq_none_iff.mp hi⟩
  | some x =>
    obtain ⟨w, w1, w2⟩ := e5.get hi
    refine ⟨⟨vs, w, e4, w1⟩, fun z H2 hy => ?_⟩
    obtain ⟨rfl, hz⟩ := hy
    have := hz vs e4
    rw [w1] at this
    cases this
    exact ⟨Ext.refl _ _, hR, w2⟩
theorem jr_rng {lo : Int} {n : Nat} : JR K NM f H (.r lo 1 n) (Itr lo n) := by
  intro f' H' L i r m hR h
  have h : some (if i < n then some (LV.int (lo + i * 1)) else none) = some r := h
  cases h
  by_cases hi : i < n
  · rw [if_pos hi]
    refine ⟨hi, fun z H2 hy => ?_⟩
    obtain ⟨rfl, rfl⟩ := hy
    exact ⟨Ext.refl _ _, hR, by rw [Int.mul_one]; rfl⟩
  · rw [if_neg hi]
    exact Nat.le_of_not_lt hi
theorem jr_rngc {lo c : Int} {n : Nat} : JR K NM f H (.r lo c n) (Itc lo c n) := by
  intro f' H' L i r m hR h
  have h : some (if i < n then some (LV.int (lo + i * c)) else none) = some r := h
  cases h
  by_cases hi : i < n
  · rw [if_pos hi]
    refine ⟨hi, fun z H2 hy => ?_⟩
    obtain ⟨rfl, rfl⟩ := hy
    exact ⟨Ext.refl _ _, hR, rfl⟩
  · rw [if_neg hi]
    exact Nat.le_of_not_lt hi
theorem jr_str {z : List Nat} : JR K NM f H (.s z) (Its ⟨z.toArray⟩) := by
  intro f' H' L i r m hR h
  have h : some ((z[i]?).map fun c => LV.str [c]) = some r := h
  cases h
  cases hi : z[i]? with
  | none =>
    show (⟨z.toArray⟩ : Str).cps.size ≤ i
    simpa using hi
  | some c =>
    refine ⟨?_, fun v H2 hy => ?_⟩
    · show i < (⟨z.toArray⟩ : Str).cps.size
      have := (List.getElem?_eq_some_iff.mp hi).1
      simpa using this
    · obtain ⟨rfl, c', h1, rfl⟩ := hy
      have h1 : z.toArray[i]? = some c' := h1
      rw [List.getElem?_toArray, hi] at h1
      cases h1
      exact ⟨Ext.refl _ _, hR, rfl⟩
/-- a new pair -/
theorem pair_new {f' : Inj} {H' : Hp} {L : LH} {T : Addr} {x y : V} {a b : LV} (hR : RelH K NM f' L H') (hT : H' T = none) (ra : VR K NM f' H' a x) (rb : VR K NM f' H' b y) :
    Ext f' H' f' (upd H' T (.tup [x, y])) ∧ RelH K NM f' L (upd H' T (.tup [x, y])) ∧ VR K NM f' (upd H' T (.tup [x, y])) (.tup [a, b]) (.ref T) :=
  ⟨Ext.put hT, hR.put hT, T, [x, y], rfl, SqT.of upd_same, VRs.mono (Ext.put hT).mo _ _ (VRs.cons ra (VRs.cons rb VRs.nil))⟩
theorem jr_enum {l : LV} {p : Addr} (hp : JR K NM f H (.l l) (Itl K p)) : JR K NM f H (.el l) (Ite K p) := by
  intro f' H' L i r m hR h
  have h : (lstOf L l).map (fun xs => (xs[i]?).map fun v => LV.tup [.int i, v]) = some r := h
  cases q : lstOf L l with
  | none => rw [q] at h; cases h
  | some xs =>
    rw [q] at h
    have hr : r = (xs[i]?).map fun v => LV.tup [.int i, v] := by injection h with h; exact h.symm
    subst hr
    have g := hp f' H' L i (xs[i]?) m hR (by show (lstOf L l).map _ = _; rw [q]; rfl)
    cases hi : xs[i]? with
    | none => rw [hi] at g; exact g
    | some x =>
      rw [hi] at g
      obtain ⟨⟨vs, w, g1, g2⟩, g3⟩ := g
      refine ⟨⟨vs, w, g1, g2⟩, fun z H2 hy => ?_⟩
      obtain ⟨T, y, rfl, hT, rfl, hy⟩ := hy
      obtain ⟨_, _, gv⟩ := g3 y H' ⟨rfl, hy⟩
      exact pair_new hR hT rfl gv
theorem jr_zip {x y : LV} {p q : Addr} (hp : JR K NM f H (.l x) (Itl K p)) (hq : JR K NM f H (.l y) (Itl K q)) : JR K NM f H (.z x y) (Itz K p q) := by
  intro f' H' L i r m hR h
  have h : (match lstOf L x, lstOf L y with
    | some xs, some ys => some (match xs[i]?, ys[i]? with
      | some v, some w => some (LV.tup [v, w])
      | _, _ => none)
    | _, _ => none) = some r := h
  split at h
  · rename_i xs ys e1 e2
    have g1 := hp f' H' L i (xs[i]?) m hR (by show (lstOf L x).map _ = _; rw [e1]; rfl)
    have g2 := hq f' H' L i (ys[i]?) m hR (by show (lstOf L y).map _ = _; rw [e2]; rfl)
    have l2 := hq f' H' L ys.length (ys[ys.length]?) m hR (by show (lstOf L y).map _ = _; rw [e2]; rfl)
    have l1 := hp f' H' L xs.length (xs[xs.length]?) m hR (by show (lstOf L x).map _ = _; rw [e1]; rfl)
    rw [List.getElem?_eq_none (Nat.le_refl _)] at l1 l2
    obtain ⟨vs0, a1, a2⟩ := l1
    obtain ⟨ws0, b1, b2⟩ := l2
    have hr : r = (match xs[i]?, ys[i]? with
      | some v, some w => some (LV.tup [v, w])
      | _, _ => none) := by injection h with h; exact h.symm
    subst hr
    cases hi : xs[i]? with
    | none =>
      rw [hi] at g1
      obtain ⟨vs, c1, c2⟩ := g1
      exact ⟨vs, ws0, c1, b1, .inl c2⟩
    | some v =>
      rw [hi] at g1
      cases hj : ys[i]? with
      | none =>
        rw [hj] at g2
        obtain ⟨ws, c1, c2⟩ := g2
        exact ⟨vs0, ws, a1, c1, .inr c2⟩
      | some w =>
        rw [hj] at g2
        obtain ⟨⟨vs, v', c1, c2⟩, c3⟩ := g1
        obtain ⟨⟨ws, w', d1, d2⟩, d3⟩ := g2
        refine ⟨⟨vs, ws, v', w', c1, d1, c2, d2⟩, fun z H2 hy => ?_⟩
        obtain ⟨T, y1, y2, rfl, hT, rfl, h1, h2⟩ := hy
        obtain ⟨_, _, gv⟩ := c3 y1 H' ⟨rfl, h1⟩
        obtain ⟨_, _, gw⟩ := d3 y2 H' ⟨rfl, h2⟩
        exact pair_new hR hT gv gw
  · cases h
theorem jr_zipT {xs ys : List LV} {p q : Addr} {vs ws : List V} (hp : SqT K H p vs) (hv : VRs K NM f H xs vs) (hq : SqT K H q ws) (hw : VRs K NM f H ys ws) : JR K NM f H (.zt xs ys) (RZ.ItzT K p q) := by
  intro f' H' L i r m hR h
  have h : some (match xs[i]?, ys[i]? with
      | some v, some w => some (LV.tup [v, w])
      | _, _ => none) = some r := h
  have hr : r = (match xs[i]?, ys[i]? with
      | some v, some w => some (LV.tup [v, w])
      | _, _ => none) := by injection h with h; exact h.symm
  subst hr
  have p4 := m.sqT hp
  have p5 := VRs.mono m _ _ hv
  have q4 := m.sqT hq
  have q5 := VRs.mono m _ _ hw
  cases hi : xs[i]? with
  | none => exact ⟨vs, ws, p4, q4, .inl (by rw [← p5.length]; exact List.getElem?_eq_none_iff.mp hi)⟩
  | some v =>
    obtain ⟨v', v1, v2⟩ := p5.get hi
    cases hj : ys[i]? with
    | none => exact ⟨vs, ws, p4, q4, .inr (by rw [← q5.length]; exact List.getElem?_eq_none_iff.mp hj)⟩
    | some w =>
      obtain ⟨w', w1, w2⟩ := q5.get hj
      refine ⟨⟨vs, ws, v', w', p4, q4, v1, w1⟩, fun z H2 hy => ?_⟩
      obtain ⟨T, y1, y2, rfl, hT, rfl, h1, h2⟩ := hy
      have e1 := h1 vs p4
      have e2 := h2 ws q4
      rw [v1] at e1
      rw [w1] at e2
      cases e1
      cases e2
      exact pair_new hR hT v2 w2
theorem jr_rev {l : LV} {p : Addr} {n : Nat} (hp : JR K NM f H (.l l) (Itl K p)) : JR K NM f H (.bl l n) (Itv K p n) := by
  intro f' H' L i r m hR h
  have h : ((lstOf L l).bind fun xs => if xs.length = n then some (if i < n then xs[n - 1 - i]? else none) else none) = some r := h
  cases q : lstOf L l with
  | none => rw [q] at h; cases h
  | some xs =>
    rw [q] at h
    have h : (if xs.length = n then some (if i < n then xs[n - 1 - i]? else none) else none) = some r := h
    split at h
    · rename_i hn
      have hr : r = (if i < n then xs[n - 1 - i]? else none) := by injection h with h; exact h.symm
      subst hr
      by_cases hi : i < n
      · rw [if_pos hi]
        have hj : n - 1 - i < xs.length := by omega
        have g := hp f' H' L (n - 1 - i) (xs[n - 1 - i]?) m hR (by show (lstOf L l).map _ = _; rw [q]; rfl)
        rw [List.getElem?_eq_getElem hj] at g ⊢
        obtain ⟨⟨vs, w, g1, g2⟩, g3⟩ := g
        exact ⟨⟨hi, vs, w, g1, g2⟩, fun z H2 hy => g3 z H2 hy⟩
      · rw [if_neg hi]
        exact Nat.le_of_not_lt hi
    · cases h
theorem jr_revT {xs : List LV} {p : Addr} {vs : List V} (hf : SqT K H p vs) (hv : VRs K NM f H xs vs) : JR K NM f H (.bt xs) (RT.ItvT K p vs.length) := by
  intro f' H' L i r m hR h
  have h : some (xs.reverse[i]?) = some r := h
  have hr : r = xs.reverse[i]? := by injection h with h; exact h.symm
  subst hr
  have e4 := m.sqT hf
  have e5 := VRs.mono m _ _ hv
  have hl := e5.length
  by_cases hi : i < vs.length
  · rw [List.getElem?_reverse (by omega)]
    have hj : xs.length - 1 - i < xs.length := by omega
    obtain ⟨w, w1, w2⟩ := e5.get (List.getElem?_eq_getElem hj)
    rw [List.getElem?_eq_getElem hj]
    rw [hl] at w1
    refine ⟨⟨hi, vs, w, e4, w1⟩, fun z H2 hy => ?_⟩
    obtain ⟨rfl, hz⟩ := hy
    have := hz vs e4
    rw [w1] at this
    cases this
    exact ⟨Ext.refl _ _, hR, w2⟩
  · rw [List.getElem?_eq_none (by simp; omega)]
    exact Nat.le_of_not_lt hi
end
/-- a list as it is walked -/
theorem jr_list {K : PySem.W.Frag} {f : Inj} {L : LH} {H : Hp} {x : LV} {v : V} {xs : List LV} (r : RelH K NM f L H) (rv : VR K NM f H x v) (h : lstOf L x = some xs) : ∃ p vs, v = .ref p ∧ SqL K H p vs ∧ VRs K NM f H xs vs ∧ JR K NM f H (.l x) (Itl K p) := by
  obtain ⟨p, vs, e1, e2, e3⟩ := lstOf_ok r rv h
  cases x with
  | ref a =>
    obtain ⟨q, e4, e5⟩ := rv
    rw [e1] at e4
    cases e4
    exact ⟨p, vs, e1, e2, e3, jr_ref e5⟩
  | fz ys =>
    cases h
    obtain ⟨q, ws, e4, e5, e6⟩ := rv
    rw [e1] at e4
    cases e4
    exact ⟨p, vs, e1, e2, e3, jr_fz e5 e6.on⟩
  | scr ys =>
    cases h
    obtain ⟨p', ws, e4, e5, e6⟩ := rv
    rw [e1] at e4
    cases e4
    exact ⟨p, vs, e1, e2, e3, jr_scr e5 e6.on⟩
  | _ => cases h

/-! ### what is walked -/
theorem pi_or {tg e : Expr} {t t' : TI} (h : PI X tg e t) (h' : PI X tg e t') : PI X tg e (fun σ H R => t σ H R ∨ t' σ H R) := ⟨fun pins s σ H R I q => q.elim (h.run pins s σ H R I) (h'.run pins s σ H R I)⟩
/-- with the result known ahead -/
theorem tR_bindE {α β γ : Type} {K : PySem.W.Frag} {f : Inj} {H : Hp} {rel : Inj → Hp → α → β → Prop} {dn : LS → LH → R α} {l : LS} {L : LH} {σ : St} {k : α → LH → R γ} {Q : γ → Inj → Hp → Prop} {Q' : β → Hp → Prop} (hR : RelH K NM f L H) (hS : SR K NM f H l σ)
    (h : Aft K NM f H ((dn l L).bind k) Q (Wx K NM W σ))
    (hk : ∀ a L1 f1 H1 b, dn l L = .ok a L1 → Ext f H f1 H1 → RelH K NM f1 L1 H1 → SR K NM f1 H1 l σ → rel f1 H1 a b → Aft K NM f1 H1 (k a L1) Q (Wx K NM W σ) → Q' b H1) : tR K NM rel W dn σ H Q' := by
  refine ⟨f, l, L, hR, hS, ?_⟩
  cases q : dn l L with
  | ok a L' =>
    rw [q] at h
    have h : Aft K NM f H (k a L') Q (Wx K NM W σ) := h
    exact fun f' H' e r b rb => hk a L' f' H' b q e r (hS.mono e.mo) rb (Aft.ext h e)
  | exc x L' => rw [q] at h; exact h
  | bad => rw [q] at h; exact h
/-- e: a list, a tuple, a text -/
theorem si_val {tg e : Expr} {ea : E} (he : SE X NM W e (den P G ea).e) : SI X NM W tg e (den P G (.itv ea)).i := by
  refine pi_weak (pi_or (pi_list he) (pi_or (pi_tup he) (pi_str he))) fun σ H Q h => ?_
  obtain ⟨f, l, L, hR, hS, h⟩ := h
  have h : Aft X.K NM f H (((den P G ea).e l L).bind itvOf) _ _ := h
  by_cases ht : ∃ xs L1, (den P G ea).e l L = .ok (.tup xs) L1
  · obtain ⟨xs, L0, hq⟩ := ht
    refine .inr (.inl (tR_bindE hR hS h fun x L1 f1 H1 v hx e1 r1 s1 rv h1 => ?_))
    rw [hq] at hx
    cases hx
    obtain ⟨p, vs, rfl, q1, q2⟩ := rv
    exact ⟨p, rfl, ⟨vs, q1⟩, Aft.here h1 r1 _ (jr_tup q1 q2)⟩
  · by_cases hs : ∃ xs L1, (den P G ea).e l L = .ok (.str xs) L1
    · obtain ⟨xs, L0, hq⟩ := hs
      refine .inr (.inr (tR_bindE hR hS h fun x L1 f1 H1 v hx e1 r1 s1 rv h1 => ?_))
      rw [hq] at hx
      cases hx
      obtain rfl : v = strV xs := rv
      exact ⟨⟨xs.toArray⟩, rfl, Aft.here h1 r1 _ jr_str⟩
    · refine .inl (tR_bindE hR hS h fun x L1 f1 H1 v hx e1 r1 s1 rv h1 => ?_)
      have lst : ∀ xs, lstOf L1 x = some xs → Aft X.K NM f1 H1 (.ok (.l x) L1 : R LIt) (fun a f' H' => ∀ b, JR X.K NM f' H' a b → Q b H') (Wx X.K NM W σ) → ∃ a, v = .ref a ∧ (∃ xs, SqL X.K H1 a xs) ∧ Q (Itl X.K a) H1 := fun xs hx h1 => by
        obtain ⟨p, vs, rfl, q1, q2, q3⟩ := jr_list r1 rv hx
        exact ⟨p, rfl, ⟨vs, q1⟩, Aft.here h1 r1 _ q3⟩
      cases x with
      | tup xs => exact (ht ⟨xs, L1, hx⟩).elim
      | str z => exact (hs ⟨z, L1, hx⟩).elim
      | ref a =>
        have h1 : Aft X.K NM f1 H1 (match lstOf L1 (.ref a) with
          | some _ => .ok (.l (.ref a)) L1
          | none => .bad : R LIt) _ _ := h1
        split at h1
        · rename_i xs hx
          exact lst xs hx h1
        · exact h1.elim
      | fz a => exact lst a rfl h1
      | scr a => exact lst a rfl h1
      | _ => exact h1.elim
/-- how many values -/
theorem es_nil {l : LS} {L L1 : LH} {xs : List LV} (h : (den P G .nil).es l L = .ok xs L1) : xs = [] := by cases h; rfl
theorem es_cons {a r : E} {l : LS} {L L1 : LH} {xs : List LV} (h : (den P G (.cons a r)).es l L = .ok xs L1) : ∃ x ys L2, xs = x :: ys ∧ (den P G r).es l L2 = .ok ys L1 := by
  have h : ((den P G a).e l L).bind (fun v H1 => ((den P G r).es l H1).bind fun vs H2 => .ok (v :: vs) H2) = .ok xs L1 := h
  cases q : (den P G a).e l L with
  | ok v L2 =>
    rw [q] at h
    have h : ((den P G r).es l L2).bind (fun vs H2 => .ok (v :: vs) H2) = .ok xs L1 := h
    cases q2 : (den P G r).es l L2 with
    | ok ys L3 => rw [q2] at h; cases h; exact ⟨v, ys, L2, rfl, q2⟩
    | exc _ _ => rw [q2] at h; cases h
    | bad => rw [q2] at h; cases h
  | exc _ _ => rw [q] at h; cases h
  | bad => rw [q] at h; cases h
theorem si_rng1 {tg a : Expr} {ea : E} {p pos : Pos} (hg : Gl X "range") (hm : X.mg "range" = none) (hn : notStar a = true) (ha : SA X NM W [a] (den P G (.cons ea .nil)).es) : SI X NM W tg (.Call (.Name "range" p) [a] [] pos) (den P G (.itr (.cons ea .nil))).i := by
  refine pi_weak (pi_range1 hg hm ha (hs := star_head hn)) fun σ H Q h => ?_
  obtain ⟨f, l, L, hR, hS, h⟩ := h
  have h : Aft X.K NM f H (((den P G (.cons ea .nil)).es l L).bind rngOf) _ _ := h
  refine tR_bindE hR hS h fun xs L1 f1 H1 v hx e1 r1 s1 rv h1 => ?_
  obtain ⟨x, ys, L2, rfl, h2⟩ := es_cons hx
  obtain rfl := es_nil h2
  obtain ⟨w, ws, rfl, rw', rn⟩ := rv
  obtain rfl : ws = [] := rn
  cases x with
  | int j =>
    obtain rfl : w = .int j := rw'
    have h1 : Aft X.K NM f1 H1 (if -(2 ^ 62) ≤ j ∧ j < 2 ^ 62 then .ok (.r 0 1 j.toNat) L1 else .bad : R LIt) _ _ := h1
    split at h1
    · rename_i hj
      exact ⟨j, rfl, hj.1, hj.2, Aft.here h1 r1 _ jr_rng⟩
    · exact h1.elim
  | _ => exact h1.elim
theorem si_rng2 {tg a b : Expr} {ea eb : E} {p pos : Pos} (hg : Gl X "range") (hm : X.mg "range" = none) (hn : notStar a = true) (hn2 : notStar b = true) (ha : SA X NM W [a, b] (den P G (.cons ea (.cons eb .nil))).es) :
    SI X NM W tg (.Call (.Name "range" p) [a, b] [] pos) (den P G (.itr (.cons ea (.cons eb .nil)))).i := by
  refine pi_weak (pi_range2 hg hm ha (hs := by rw [star_head hn, star_head hn2]; rfl) (hs2 := star_head hn2)) fun σ H Q h => ?_
  obtain ⟨f, l, L, hR, hS, h⟩ := h
  have h : Aft X.K NM f H (((den P G (.cons ea (.cons eb .nil))).es l L).bind rngOf) _ _ := h
  refine tR_bindE hR hS h fun xs L1 f1 H1 v hx e1 r1 s1 rv h1 => ?_
  obtain ⟨x, ys, L2, rfl, h2⟩ := es_cons hx
  obtain ⟨y, zs, L3, rfl, h3⟩ := es_cons h2
  obtain rfl := es_nil h3
  obtain ⟨w, ws, rfl, rw', w2, ws2, rfl, rw2, rn⟩ := rv
  obtain rfl : ws2 = [] := rn
  cases x with
  | int i => cases y with
    | int j =>
      obtain rfl : w = .int i := rw'
      obtain rfl : w2 = .int j := rw2
      have h1 : Aft X.K NM f1 H1 (if -(2 ^ 62) ≤ i ∧ i < 2 ^ 62 ∧ -(2 ^ 62) ≤ j ∧ j < 2 ^ 62 then .ok (.r i 1 (j - i).toNat) L1 else .bad : R LIt) _ _ := h1
      split at h1
      · rename_i hj
        exact ⟨i, j, rfl, hj, Aft.here h1 r1 _ jr_rng⟩
      · exact h1.elim
    | _ => exact h1.elim
  | _ => cases y <;> exact h1.elim
theorem si_rng3 {tg a b c : Expr} {ea eb ec : E} {p pos : Pos} (hg : Gl X "range") (hm : X.mg "range" = none) (hn : notStar a = true) (hn2 : notStar b = true) (hn3 : notStar c = true) (ha : SA X NM W [a, b, c] (den P G (.cons ea (.cons eb (.cons ec .nil)))).es) :
    SI X NM W tg (.Call (.Name "range" p) [a, b, c] [] pos) (den P G (.itr (.cons ea (.cons eb (.cons ec .nil))))).i := by
  refine pi_weak (pi_range3 hg hm ha (hs := star_head hn) (hpl := by rw [star_head hn2, star_head hn3]; rfl)) fun σ H Q h => ?_
  obtain ⟨f, l, L, hR, hS, h⟩ := h
  have h : Aft X.K NM f H (((den P G (.cons ea (.cons eb (.cons ec .nil)))).es l L).bind rngOf) _ _ := h
  refine tR_bindE hR hS h fun xs L1 f1 H1 v hx e1 r1 s1 rv h1 => ?_
  obtain ⟨x, ys, L2, rfl, h2⟩ := es_cons hx
  obtain ⟨y, zs, L3, rfl, h3⟩ := es_cons h2
  obtain ⟨z, us, L4, rfl, h4⟩ := es_cons h3
  obtain rfl := es_nil h4
  obtain ⟨w, ws, rfl, rw', w2, ws2, rfl, rw2, w3, ws3, rfl, rw3, rn⟩ := rv
  obtain rfl : ws3 = [] := rn
  cases x with
  | int i => cases y with
    | int j => cases z with
      | int c' =>
        obtain rfl : w = .int i := rw'
        obtain rfl : w2 = .int j := rw2
        obtain rfl : w3 = .int c' := rw3
        have h1 : Aft X.K NM f1 H1 (if c' = -1 ∧ -(2 ^ 62) ≤ i ∧ i < 2 ^ 62 ∧ -(2 ^ 62) ≤ j ∧ j < 2 ^ 62 then .ok (.r i (-1) (i - j).toNat) L1 else .bad : R LIt) _ _ := h1
        split at h1
        · rename_i hj
          have q := Aft.here h1 r1 _ jr_rngc
          obtain ⟨hc, h1', h2', h3', h4'⟩ := hj
          subst hc
          exact ⟨i, j, -1, (i - j).toNat, rfl, RgC.neg h1' h2' h3' h4', q⟩
        · exact h1.elim
      | _ => exact h1.elim
    | _ => cases z <;> exact h1.elim
  | _ => cases y <;> cases z <;> exact h1.elim
theorem jr_enumT {K : PySem.W.Frag} {f : Inj} {H : Hp} {xs : List LV} {p : Addr} {vs : List V} (hf : SqT K H p vs) (hv : VRs K NM f H xs vs) : JR K NM f H (.et xs) (IteT K p) := by
  intro f' H' L i r m hR h
  have h : (if i ≤ xs.length then some ((xs[i]?).map fun v => LV.tup [.int i, v]) else none) = some r := h
  have e4 := m.sqT hf
  have e5 := VRs.mono m _ _ hv
  split at h
  · rename_i hle
    have hr : r = (xs[i]?).map fun v => LV.tup [.int i, v] := by injection h with h; exact h.symm
    subst hr
    cases hi : xs[i]? with
    | none => exact ⟨vs, e4, by have := List.getElem?_eq_none_iff.mp hi; have := e5.length; omega⟩
    | some x =>
      obtain ⟨w, w1, w2⟩ := e5.get hi
      refine ⟨⟨vs, w, e4, w1⟩, fun z H2 hy => ?_⟩
      obtain ⟨T, y, rfl, hT, rfl, hy⟩ := hy
      have := hy vs e4
      rw [w1] at this
      cases this
      exact pair_new hR hT rfl w2
  · cases h
theorem si_enum {e : Expr} {ea : E} {elts : List Expr} {kk : Nat} {p pos tpos : Pos} (hg : Gl X "enumerate") (hm : X.mg "enumerate" = none) (hn : notStar e = true) (he : SE X NM W e (den P G ea).e) : SI X NM W (.Tuple elts kk tpos) (.Call (.Name "enumerate" p) [e] [] pos) (den P G (.ite ea)).i := by
  refine pi_weak (pi_or (pi_enum hg hm (pa_cons he pa_nil (star_head hn)) (hs := star_head hn)) (pi_enumT hg hm (pa_cons he pa_nil (star_head hn)) (hs := star_head hn))) fun σ H Q h => ?_
  obtain ⟨f, l, L, hR, hS, h⟩ := h
  have h : Aft X.K NM f H (((den P G ea).e l L).bind iteOf) _ _ := h
  by_cases ht : ∃ xs L1, (den P G ea).e l L = .ok (.tup xs) L1
  · obtain ⟨xs, L0, hq⟩ := ht
    refine .inr (tR_bindE hR hS h fun x L1 f1 H1 v hx e1 r1 s1 rv h1 => ?_)
    rw [hq] at hx
    cases hx
    obtain ⟨p, vs, rfl, q1, q2⟩ := rv
    exact ⟨p, vs, rfl, q1, Aft.here h1 r1 _ (jr_enumT q1 q2)⟩
  · refine .inl (tR_bindE hR hS h fun x L1 f1 H1 v hx e1 r1 s1 rv h1 => ?_)
    have lst : ∀ xs, lstOf L1 x = some xs → Aft X.K NM f1 H1 (.ok (.el x) L1 : R LIt) (fun a f' H' => ∀ b, JR X.K NM f' H' a b → Q b H') (Wx X.K NM W σ) → ∃ a xs, [v] = [V.ref a] ∧ SqL X.K H1 a xs ∧ Q (Ite X.K a) H1 := fun xs hx h1 => by
      obtain ⟨p, vs, rfl, q1, q2, q3⟩ := jr_list r1 rv hx
      exact ⟨p, vs, rfl, q1, Aft.here h1 r1 _ (jr_enum q3)⟩
    cases x with
    | tup xs => exact (ht ⟨xs, L1, hx⟩).elim
    | ref a =>
      have h1 : Aft X.K NM f1 H1 (match lstOf L1 (.ref a) with
        | some _ => .ok (.el (.ref a)) L1
        | none => .bad : R LIt) _ _ := h1
      split at h1
      · rename_i xs hx
        exact lst xs hx h1
      · exact h1.elim
    | fz a => exact lst a rfl h1
    | scr a => exact lst a rfl h1
    | _ => exact h1.elim
theorem si_zip {e e2 : Expr} {ea eb : E} {elts : List Expr} {kk : Nat} {p pos tpos : Pos} (hg : Gl X "zip") (hm : X.mg "zip" = none) (hn : notStar e = true) (hn2 : notStar e2 = true) (he : SE X NM W e (den P G ea).e) (he2 : SE X NM W e2 (den P G eb).e) :
    SI X NM W (.Tuple elts kk tpos) (.Call (.Name "zip" p) [e, e2] [] pos) (den P G (.itz ea eb)).i := by
  refine pi_weak (RZ.pi_zipA hg hm (pa_cons he (pa_cons he2 pa_nil (star_head hn2)) (star_head hn)) (hs := star_head hn) (hpl := by rw [star_head hn2]; rfl)) fun σ H Q h => ?_
  obtain ⟨f, l, L, hR, hS, h⟩ := h
  refine tR_bind hR hS h fun x L1 f1 H1 v e1 r1 s1 rv h1 => ?_
  refine tR_bind r1 s1 h1 fun y L2 f2 H2 w e2 r2 s2 rw' h2 => ?_
  have rv := VR.mono e2.mo _ _ rv
  have lst : ∀ xs ys, lstOf L2 x = some xs → lstOf L2 y = some ys → Aft X.K NM f2 H2 (.ok (.z x y) L2 : R LIt) (fun a f' H' => ∀ b, JR X.K NM f' H' a b → Q b H') (Wx X.K NM W σ) →
      ∃ a b xs ys, [v, w] = [V.ref a, V.ref b] ∧ ((SqL X.K H2 a xs ∧ SqL X.K H2 b ys ∧ Q (Itz X.K a b) H2) ∨ (SqT X.K H2 a xs ∧ SqT X.K H2 b ys ∧ Q (RZ.ItzT X.K a b) H2)) := fun xs ys hx hy h2 => by
    obtain ⟨p, vs, rfl, q1, q2, q3⟩ := jr_list r2 rv hx
    obtain ⟨p', vs', rfl, q1', q2', q3'⟩ := jr_list r2 rw' hy
    exact ⟨p, p', vs, vs', rfl, .inl ⟨q1, q1', Aft.here h2 r2 _ (jr_zip q3 q3')⟩⟩
  unfold itzOf at h2
  split at h2
  · rename_i xs ys
    obtain ⟨p, vs, rfl, q1, q2⟩ := rv
    obtain ⟨p', vs', rfl, q1', q2'⟩ := rw'
    exact ⟨p, p', vs, vs', rfl, .inr ⟨q1, q1', Aft.here h2 r2 _ (jr_zipT q1 q2 q1' q2')⟩⟩
  · split at h2
    · rename_i xs ys hx hy
      exact lst xs ys hx hy h2
    · exact h2.elim
theorem si_rev {tg e : Expr} {ea : E} {p pos : Pos} (hg : Gl X "reversed") (hm : X.mg "reversed" = none) (hn : notStar e = true) (he : SE X NM W e (den P G ea).e) : SI X NM W tg (.Call (.Name "reversed" p) [e] [] pos) (den P G (.itb ea)).i := by
  refine pi_weak (RT.pi_revA hg hm he (hs := star_head hn)) fun σ H Q h => ?_
  obtain ⟨f, l, L, hR, hS, h⟩ := h
  have h : Aft X.K NM f H (((den P G ea).e l L).bind itbOf) _ _ := h
  refine tR_bind hR hS h fun x L1 f1 H1 v e1 r1 s1 rv h1 => ?_
  have lst : ∀ xs, lstOf L1 x = some xs → Aft X.K NM f1 H1 (.ok (.bl x xs.length) L1 : R LIt) (fun a f' H' => ∀ b, JR X.K NM f' H' a b → Q b H') (Wx X.K NM W σ) → ∃ (a : Addr) (xs : List V), v = .ref a ∧ ((SqL X.K H1 a xs ∧ Q (Itv X.K a xs.length) H1) ∨ (SqT X.K H1 a xs ∧ Q (RT.ItvT X.K a xs.length) H1)) := fun xs hx h1 => by
    obtain ⟨p, vs, rfl, q1, q2, q3⟩ := jr_list r1 rv hx
    refine ⟨p, vs, rfl, .inl ⟨q1, ?_⟩⟩
    rw [q2.length] at h1
    exact Aft.here h1 r1 _ (jr_rev q3)
  cases x with
  | tup xs =>
    obtain ⟨p, vs, rfl, q1, q2⟩ := rv
    exact ⟨p, vs, rfl, .inr ⟨q1, Aft.here h1 r1 _ (jr_revT q1 q2)⟩⟩
  | ref a =>
    have h1 : Aft X.K NM f1 H1 (match lstOf L1 (.ref a) with
      | some xs => .ok (.bl (.ref a) xs.length) L1
      | none => .bad : R LIt) _ _ := h1
    split at h1
    · rename_i xs hx
      exact lst xs hx h1
    · exact h1.elim
  | fz a => exact lst a rfl h1
  | scr a => exact lst a rfl h1
  | _ => exact h1.elim
end
end PM

set_option Elab.async false
set_option linter.all false
set_option autoImplicit false
set_option maxHeartbeats 1000000
/-! # PM10: statements -/
namespace PM
open PySem PySem.Spec PyProof.Rows
open L2 hiding St
section
variable {X : Cx} {NM : List Str} {W : WX} {P : PM.Prog} {G : Gam} {adr : Nat → Nat → Addr} {k : Nat}
theorem AftS.nx {K : PySem.W.Frag} {f : Inj} {l : LS} {L : LH} {H : Hp} {D : Ends} {σ : St} (h : AftS K NM W f H (.ok (.nx l) L) D) (r : RelH K NM f L H) (s : SR K NM f H l σ) : D.nx σ H := h f H σ (Ext.refl f H) r s
theorem sss_nil : SSs X NM W [] (den P G .skip).s := by
  refine pss_weak pss_nil fun D σ H h => ?_
  obtain ⟨f, l, L, hR, hS, h⟩ := h
  exact AftS.nx h hR hS
theorem sss_cons {st : Stmt} {rest : List Stmt} {a r : E} (h1 : SS X NM W st (den P G a).s) (h2 : SSs X NM W rest (den P G r).s) : SSs X NM W (st :: rest) (den P G (.seq a r)).s := by
  refine pss_weak (pss_cons h1 h2) fun D σ H h => ?_
  obtain ⟨f, l, L, hR, hS, h⟩ := h
  have h : AftS X.K NM W f H (match (den P G a).s l L with
    | .ok (.nx σ1) H1 => (den P G r).s σ1 H1
    | r => r) D := h
  refine ⟨f, l, L, hR, hS, ?_⟩
  split at h
  · rename_i l1 L1 e
    rw [e]
    exact fun f' H' σ' e' r' s' => ⟨f', l1, L1, r', s', AftS.ext h e'⟩
  · rename_i hx
    cases q : (den P G a).s l L with
    | ok fl L1 =>
      rw [q] at h hx
      cases fl with
      | nx l1 => exact absurd rfl (hx l1 L1)
      | rt v => exact h
      | bk v => exact h
      | ct v => exact h
    | exc x l1 L1 => rw [q] at h; exact h
    | bad => rw [q] at h; exact h
theorem ss_pass {pos : Pos} : SS X NM W (.Pass pos) (den P G .skip).s := by
  refine ps_weak ps_pass fun D σ H h => ?_
  obtain ⟨f, l, L, hR, hS, h⟩ := h
  exact AftS.nx h hR hS
theorem ss_brk {pos : Pos} : SS X NM W (.Break pos) (den P G .brk).s := by
  refine ps_weak ps_break fun D σ H h => ?_
  obtain ⟨f, l, L, hR, hS, h⟩ := h
  exact h f H σ (Ext.refl f H) hR hS
theorem ss_cnt {pos : Pos} : SS X NM W (.Continue pos) (den P G .cnt).s := by
  refine ps_weak ps_continue fun D σ H h => ?_
  obtain ⟨f, l, L, hR, hS, h⟩ := h
  exact h f H σ (Ext.refl f H) hR hS
theorem ss_doc {x : Str} {j : Nat} {pos pos' : Pos} : SS X NM W (.Expr (.Constant (.str x) j pos) pos') (den P G .skip).s := by
  refine ps_weak ps_doc fun D σ H h => ?_
  obtain ⟨f, l, L, hR, hS, h⟩ := h
  exact AftS.nx h hR hS
/-- comprehensions are stored in their own way -/
def noComp : Expr → Bool
  | .ListComp _ _ _ _ => false
  | .SetComp _ _ _ _ => false
  | .DictComp _ _ _ _ _ => false
  | _ => true
theorem swap_no {e : Expr} {t : Option Expr} {n : Nat} {env : Env} (h : noComp e = true) : swapsWith e t n env = pure false := by
  cases e <;> first | rfl | cases h
theorem ss_expr {e : Expr} {ea : E} {pos : Pos} (hn : noComp e = true) (he : SE X NM W e (den P G ea).e) : SS X NM W (.Expr e pos) (den P G (.ex ea)).s := by
  refine ps_weak (ps_expr he (swap_no hn)) fun D σ H h => ?_
  obtain ⟨f, l, L, hR, hS, h⟩ := h
  exact tR_bindS hR hS h fun a L1 f1 H1 b e r s rb h1 => AftS.nx h1 r s
theorem ss_ret {e : Expr} {ea : E} {pos : Pos} (he : SE X NM W e (den P G ea).e) : SS X NM W (.Return (some e) pos) (den P G (.ret ea)).s := by
  refine ps_weak (ps_ret he) fun D σ H h => ?_
  obtain ⟨f, l, L, hR, hS, h⟩ := h
  exact tR_bindS hR hS h fun a L1 f1 H1 b e r s rb h1 => h1 f1 H1 b (Ext.refl _ _) r rb
theorem ss_retN {pos : Pos} : SS X NM W (.Return none pos) (den P G (.ret .non)).s := by
  refine ps_weak ps_retN fun D σ H h => ?_
  obtain ⟨f, l, L, hR, hS, h⟩ := h
  exact h f H .non (Ext.refl _ _) hR rfl
theorem ss_if {c : Expr} {a b : List Stmt} {ec ea eb : E} {pos : Pos} (hc : ST X NM W c (den P G ec).t) (ha : SSs X NM W a (den P G ea).s) (hb : SSs X NM W b (den P G eb).s) : SS X NM W (.If c a b pos) (den P G (.iff ec ea eb)).s := by
  refine ps_weak (ps_if hc ha hb) fun D σ H h => ?_
  obtain ⟨f, l, L, hR, hS, h⟩ := h
  refine tR_bindS hR hS h fun t L1 f1 H1 t' e r s rb h1 => ?_
  subst rb
  cases t with
  | true => exact ⟨f1, l, L1, r, s, h1⟩
  | false => exact ⟨f1, l, L1, r, s, h1⟩
/-- x = e -/
theorem ss_set {i : Nat} {x : Str} {e : Expr} {ea : E} {pos pos' : Pos} (hN : X.N.Nodup) (hi : X.N[i]? = some x) (hx : Loc X.env.scope x) (hf : X.fn x = true ∨ X.env.scope.names.lookup x = some .local) (hn : noComp e = true) (he : SE X NM W e (den P G ea).e) :
    SS X NM W (.Assign [.Name x pos'] e pos) (den P G (.asg (.tnm i) ea)).s := by
  refine ps_weak (ps_set hN hi hx he (swap_no hn) hf) fun D σ H h => ?_
  obtain ⟨f, l, L, hR, hS, h⟩ := h
  refine tR_bindS hR hS h fun v L1 f1 H1 w e r s rb h1 => ?_
  have h1 : AftS X.K NM W f1 H1 (RS.ofR (if i < l.length then .ok (l.set i (some v)) L1 else .bad : R LS) l fun σ1 H2 => .ok (.nx σ1) H2) D := h1
  split at h1
  · exact AftS.nx h1 r (s.set rb)
  · exact h1.elim
/-- another target -/
theorem ss_asg {tg e : Expr} {et ea : E} {pos : Pos} (he : SE X NM W e (den P G ea).e) (hg : SG X NM W tg (den P G et).g) (hn : noComp e = true) (hw : swappedStores [tg] e X.env = pure none) (h1 : notStar tg = true) : SS X NM W (.Assign [tg] e pos) (den P G (.asg et ea)).s := by
  refine ps_weak (ps_asg he hg (hs := swap_no hn) (hw := hw) (h1 := assign_head h1)) fun D σ H h => ?_
  obtain ⟨f, l, L, hR, hS, h⟩ := h
  refine tR_bindS hR hS h fun v L1 f1 H1 w e r s rb h1 => ?_
  exact tG_bindS r s rb h1 fun l' L2 f2 H2 σ' e2 r2 s2 h2 => AftS.nx h2 r2 s2
/-- a pair of names, both at once -/
theorem ss_par {i j : Nat} {x y : Str} {a b : Expr} {ea eb : E} {px py pt : Pos} {kt k2 : Nat} {pt2 pos : Pos} (hc : X.calm = true) (hN : X.N.Nodup) (hi : X.N[i]? = some x) (hj : X.N[j]? = some y) (hij : i ≠ j)
    (hx : X.env.scope.names.lookup x = some .local) (hy : X.env.scope.names.lookup y = some .local) (ha : SA X NM W [a, b] (den P G (.cons ea (.cons eb .nil))).es)
    (hw : swappedStores [.Tuple [.Name x px, .Name y py] kt pt] (.Tuple [a, b] k2 pt2) X.env = pure (some [x, y])) :
    SS X NM W (.Assign [.Tuple [.Name x px, .Name y py] kt pt] (.Tuple [a, b] k2 pt2) pos) (den P G (.asg (.ttp (.cons (.tnm i) (.cons (.tnm j) .nil))) (.tup (.cons ea (.cons eb .nil))))).s := by
  refine ps_weak (ps_par hc hN hi hj hij hx hy ha hw) fun D σ H h => ?_
  obtain ⟨f, l, L, hR, hS, h⟩ := h
  have h : AftS X.K NM W f H (RS.ofR (((den P G (.cons ea (.cons eb .nil))).es l L).bind fun vs H1 => if vs.length ≤ SL then .ok (.tup vs) H1 else .bad) l fun v H1 => RS.ofR ((den P G (.ttp (.cons (.tnm i) (.cons (.tnm j) .nil)))).g v l H1) l fun σ1 H2 => .ok (.nx σ1) H2) D := h
  have h : AftS X.K NM W f H (RS.ofR ((den P G (.cons ea (.cons eb .nil))).es l L) l fun vs H1 => RS.ofR (if vs.length ≤ SL then .ok (.tup vs) H1 else .bad : R LV) l fun v H1 => RS.ofR ((den P G (.ttp (.cons (.tnm i) (.cons (.tnm j) .nil)))).g v l H1) l fun σ1 H2 => .ok (.nx σ1) H2) D := by
    cases q : (den P G (.cons ea (.cons eb .nil))).es l L with
    | ok vs L1 => rw [q] at h; exact h
    | exc x L1 => rw [q] at h; exact h
    | bad => rw [q] at h; exact h
  refine tR_bindS hR hS h fun vs L1 f1 H1 ws e r s rb h1 => ?_
  split at h1
  · cases vs with
    | nil => exact h1.elim
    | cons v vs =>
      cases vs with
      | nil =>
        have h1 : AftS X.K NM W f1 H1 (RS.ofR (noX ((if i < l.length then .ok (l.set i (some v)) L1 else .bad : R LS).bind fun _ _ => .bad) : R LS) l fun σ1 H2 => .ok (.nx σ1) H2) D := h1
        exfalso
        by_cases hil : i < l.length
        · rw [if_pos hil] at h1; exact h1.elim
        · rw [if_neg hil] at h1; exact h1.elim
      | cons v2 vs =>
        obtain ⟨w, ws1, rfl, q1, w2, ws2, rfl, q2, q3⟩ := rb
        have h1 : AftS X.K NM W f1 H1 (RS.ofR (noX ((if i < l.length then .ok (l.set i (some v)) L1 else .bad : R LS).bind fun σ1 H1 => noX ((if j < σ1.length then .ok (σ1.set j (some v2)) H1 else .bad : R LS).bind fun σ1 H1 => (den P G .nil).gs vs σ1 H1)) : R LS) l fun σ1 H2 => .ok (.nx σ1) H2) D := h1
        by_cases hil : i < l.length
        · rw [if_pos hil] at h1
          have h1 : AftS X.K NM W f1 H1 (RS.ofR (noX (noX ((if j < (l.set i (some v)).length then .ok ((l.set i (some v)).set j (some v2)) L1 else .bad : R LS).bind fun σ1 H1 => (den P G .nil).gs vs σ1 H1)) : R LS) l fun σ1 H2 => .ok (.nx σ1) H2) D := h1
          by_cases hjl : j < (l.set i (some v)).length
          · rw [if_pos hjl] at h1
            cases vs with
            | nil =>
              obtain rfl : ws2 = [] := q3
              exact ⟨w, w2, rfl, AftS.nx h1 r ((s.set q1).set q2)⟩
            | cons _ _ => exact h1.elim
          · rw [if_neg hjl] at h1; exact h1.elim
        · rw [if_neg hil] at h1; exact h1.elim
  · exact h1.elim
end
end PM

set_option Elab.async false
set_option linter.all false
set_option autoImplicit false
set_option maxHeartbeats 1000000
/-! # PM11: stores in fields, op=, loops -/
namespace PM
open PySem PySem.Spec PyProof.Rows
open L2 hiding St
section
variable {X : Cx} {NM : List Str} {W : WX} {P : PM.Prog} {G : Gam} {adr : Nat → Nat → Addr} {k : Nat}
/-- o.f = e -/
theorem ss_fldG (F : Fc X NM W P G adr k) {o e : Expr} {f : Nat} {eo ea : E} {pos pos' : Pos} (ho : SE X NM W o (den P G eo).e) (he : SE X NM W e (den P G ea).e) : SS X NM W (.Assign [.Attribute o (nm NM f) pos'] e pos) (den P G (.asg (.tfl f eo) ea)).s := by
  refine ps_weak (ps_fld ho he (by cases e <;> rfl)) fun D σ H h => ?_
  obtain ⟨j, l, L, hR, hS, h⟩ := h
  refine tR_bindS hR hS h fun v L1 f1 H1 w e1 r1 s1 rv h1 => ?_
  have h1 : AftS X.K NM W f1 H1 (RS.ofR (((den P G eo).e l L1).bind fun x H2 => (setFld P f x v H2).bind fun _ H3 => .ok l H3) l fun σ1 H2 => .ok (.nx σ1) H2) D := h1
  have h1 : AftS X.K NM W f1 H1 (RS.ofR ((den P G eo).e l L1) l fun x H2 => RS.ofR (setFld P f x v H2) l fun _ H3 => .ok (.nx l) H3) D := by
    cases q : (den P G eo).e l L1 with
    | ok x L2 =>
      rw [q] at h1
      have h1 : AftS X.K NM W f1 H1 (RS.ofR ((setFld P f x v L2).bind fun _ H3 => .ok l H3) l fun σ1 H2 => .ok (.nx σ1) H2) D := h1
      show AftS X.K NM W f1 H1 (RS.ofR (setFld P f x v L2) l fun _ H3 => .ok (.nx l) H3) D
      cases q2 : setFld P f x v L2 with
      | ok u L3 => rw [q2] at h1; exact h1
      | exc y L3 => rw [q2] at h1; exact h1
      | bad => rw [q2] at h1; exact h1
    | exc x L2 => rw [q] at h1; exact h1
    | bad => rw [q] at h1; exact h1
  refine tR_bindS r1 s1 h1 fun x L2 f2 H2 w2 e2 r2 s2 rx h2 => ?_
  have rv := VR.mono e2.mo _ _ rv
  unfold setFld at h2
  split at h2
  · rename_i a
    split at h2
    · rename_i c fs e3
      split at h2
      · rename_i hm
        split at h2
        · rename_i hl
          obtain ⟨p, dx, gs, rfl, q1, q2, q3⟩ := insR_at r2 rx e3
          obtain ⟨na, hlt⟩ := F.sf.fld c f hm
          refine ⟨p, _, dx, gs, rfl, q2, F.sf.cls c f _ hm, na, by rw [← q3.length]; omega, ?_⟩
          have m := (Ext.write r2 (u := .ins (gad X.K NM c) dx (putF (nm NM f) w gs)) q1).mo
          refine h2 f2 _ σ (Ext.write r2 q1) (r2.write q1 ⟨dx, _, upd_same, FR.mono m _ _ (FR.put F.sf.nd hlt rv q3)⟩) (s2.mono m)
        · exact h2.elim
      · exact h2.elim
    · exact h2.elim
  · exact h2.elim
/-- x op= y by values -/
def InpR (X : Cx) (NM : List Str) (o : BOp) : V → V → Hp → VK → Prop := fun x y H Q => ∃ g a b L, RelH X.K NM g L H ∧ VR X.K NM g H a x ∧ VR X.K NM g H b y ∧ Aft X.K NM g H (augop o a b L) (fun c f' H' => ∀ z, VR X.K NM f' H' c z → Q z H') (fun _ _ _ => False)
theorem inp_all {op : Operator} {o : BOp} (h : opT false op = some o) : PIp X op (InpR X NM o) := by
  intro pins s σ H x y v u Q I rx ry ⟨g, a, b, L, hR, va, vb, q⟩
  have non : ∀ {α : Prop}, augop o a b L = .bad → α := fun e => by rw [e] at q; exact q.elim
  cases a with
  | int i => cases b with
    | int j =>
      obtain rfl : x = .int i := va
      obtain rfl : y = .int j := vb
      cases op <;> first | (cases h; done) | (cases h)
      · exact iop_add pins s σ H _ _ v u Q I rx ry ⟨i, j, rfl, rfl, Aft.here q hR _ rfl⟩
      · exact iop_sub pins s σ H _ _ v u Q I rx ry ⟨i, j, rfl, rfl, Aft.here q hR _ rfl⟩
      · have q : Aft X.K NM g H (if mulOk i j = true then .ok (.int (i * j)) L else .bad : R LV) _ _ := q
        split at q
        · rename_i hm
          obtain ⟨t, rfl⟩ := rx
          obtain ⟨t', rfl⟩ := ry
          exact imul_int ⟨.int (i * j), H, I.tok _, ⟨_, rfl⟩, Aft.here q hR _ rfl⟩ (mulOk_ok hm)
        · exact q.elim
      · have q : Aft X.K NM g H (if 0 < j then .ok (.int (i % j)) L else .bad : R LV) _ _ := q
        split at q
        · rename_i hz
          exact iop_mod pins s σ H _ _ v u Q I rx ry ⟨i, j, rfl, rfl, hz, Aft.here q hR _ rfl⟩
        · exact q.elim
      · exact q.elim
      · exact q.elim
      · have q : Aft X.K NM g H (if 0 < j ∧ j.natAbs.log2 < 9000 then .ok (.int (i / j)) L else .bad : R LV) _ _ := q
        split at q
        · rename_i hz
          exact iop_fdivW pins s σ H _ _ v u Q I rx ry ⟨i, j, rfl, rfl, hz, Aft.here q hR _ rfl⟩
        · exact q.elim
    | _ => exact non rfl
  | str i => cases b with
    | str j =>
      obtain rfl : x = strV i := va
      obtain rfl : y = strV j := vb
      cases op <;> first | (cases h; done) | (cases h; exact q.elim) | (cases h)
      have q : Aft X.K NM g H (if i.length + j.length ≤ SL then .ok (.str (i ++ j)) L else .bad : R LV) _ _ := q
      split at q
      · rename_i hz
        refine iop_add_str pins s σ H _ _ v u Q I rx ry ⟨_, _, rfl, rfl, by rw [strV_len, strV_len, ← SL_eq]; exact hz, ?_⟩
        rw [strV_cat]
        exact Aft.here q hR _ rfl
      · exact q.elim
    | _ => exact non rfl
  | ref a =>
    cases op <;> first | (cases h; done) | (cases h; exact q.elim) | (cases h)
    have q : Aft X.K NM g H (match L[a]?, lstH L b with
      | some (.lst xs), some ys => if xs.length + ys.length ≤ SL then .ok (.ref a) (L.set a (.lst (xs ++ ys))) else .bad
      | _, _ => .bad : R LV) _ _ := q
    split at q
    · rename_i xs ys e1 e2
      obtain ⟨p, vs, rfl, f1, h1, r1⟩ := lst_at hR va e1
      obtain ⟨p', ws, rfl, h2, r2⟩ := lstH_at hR vb e2
      split at q
      · rename_i hz
        refine iop_ext pins s σ H _ _ v u Q I rx ry ⟨p, p', vs, ws, rfl, rfl, h1, h2, by rw [← r1.length, ← r2.length, ← SL_eq]; exact hz, ?_⟩
        exact Aft.wrote q hR f1 (u := .lst (vs ++ ws)) ⟨vs ++ ws, upd_same, VRs.mono (Ext.write hR f1).mo _ _ (r1.append r2)⟩ _ ⟨p, rfl, f1⟩
      · exact q.elim
    · exact q.elim
  | _ => cases b <;> exact non rfl
theorem ss_aug {i : Nat} {x : Str} {e : Expr} {op : Operator} {o : BOp} {ea : E} {pos pos' : Pos} (hop : opT false op = some o) (hN : X.N.Nodup) (hi : X.N[i]? = some x) (hx : Loc X.env.scope x) (hf : X.fn x = true ∨ X.env.scope.names.lookup x = some .local) (he : SE X NM W e (den P G ea).e) :
    SS X NM W (.AugAssign (.Name x pos') op e pos) (den P G (.augn o i ea)).s := by
  refine ps_weak (ps_aug hN hi hx he (inp_all (NM := NM) hop) hf) fun D σ H h => ?_
  obtain ⟨f, l, L, hR, hS, h⟩ := h
  have h : AftS X.K NM W f H (match l[i]? with
      | some (some x) => if i < l.length then RS.ofR ((den P G ea).e l L) l fun y H1 => RS.ofR (augop o x y H1) l fun z H2 => .ok (.nx (l.set i (some z))) H2 else .bad
      | _ => .bad) D := h
  split at h
  · rename_i y e1
    obtain ⟨v, e2, e3⟩ := hS.2 i y e1
    split at h
    · refine ⟨v, e2, tR_bindS hR hS h fun z L1 f1 H1 w e4 r1 s1 rz h1 => ?_⟩
      refine ⟨f1, y, z, L1, r1, VR.mono e4.mo _ _ e3, rz, ?_⟩
      cases q : augop o y z L1 with
      | ok c L2 =>
        rw [q] at h1
        exact fun f' H' e r u ru => AftS.nx (AftS.ext h1 e) r ((s1.mono e.mo).set ru)
      | exc c L2 =>
        exfalso
        unfold augop at q
        repeat' (split at q)
        all_goals cases q
      | bad => rw [q] at h1; exact h1.elim
    · exact h.elim
  · exact h.elim
/-! ### loops -/
theorem ss_whl (F : Fc X NM W P G adr k) {c : Expr} {body : List Stmt} {ec eb : E} {pos : Pos} (hc : ST X NM W c (den P G ec).t) (hb : SSs X NM W body (den P G eb).s) : SS X NM W (.While c body [] pos) (den P G (.whl ec eb)).s := by
  refine ps_weak (ps_while F.po hc hb) fun D σ H h => ?_
  obtain ⟨f, l, L, hR, hS, h⟩ := h
  refine ⟨fun m σ H => ∃ f l L, RelH X.K NM f L H ∧ SR X.K NM f H l σ ∧ AftS X.K NM W f H (whlL (den P G ec).t (den P G eb).s m l L) D, ⟨P.loops, f, l, L, hR, hS, h⟩, ?_⟩
  clear h hR hS
  rintro m σ H ⟨f, l, L, hR, hS, h⟩
  cases m with
  | zero => exact h.elim
  | succ m =>
    refine tR_bindS hR hS h fun t L1 f1 H1 t' e r s rb h1 => ?_
    subst rb
    cases t with
    | false => exact AftS.nx h1 r s
    | true =>
      have h1 : AftS X.K NM W f1 H1 (match (den P G eb).s l L1 with
        | .ok (.nx σ2) H2 => whlL (den P G ec).t (den P G eb).s m σ2 H2
        | .ok (.ct σ2) H2 => whlL (den P G ec).t (den P G eb).s m σ2 H2
        | .ok (.bk σ2) H2 => .ok (.nx σ2) H2
        | .ok (.rt v) H2 => .ok (.rt v) H2
        | .exc x σ2 H2 => .exc x σ2 H2
        | .bad => .bad) D := h1
      show ∃ N : St → Hp → Prop, _
      refine ⟨_, fun σ' H' q => ⟨m, Nat.lt_succ_self m, q⟩, f1, l, L1, r, s, ?_⟩
      cases q : (den P G eb).s l L1 with
      | ok fl L2 =>
        rw [q] at h1
        cases fl with
        | nx l2 => exact fun f' H' σ' e' r' s' => ⟨f', l2, L2, r', s', AftS.ext h1 e'⟩
        | ct l2 => exact fun f' H' σ' e' r' s' => ⟨f', l2, L2, r', s', AftS.ext h1 e'⟩
        | bk l2 => exact h1
        | rt v => exact h1
      | exc x l2 L2 => rw [q] at h1; exact h1
      | bad => rw [q] at h1; exact h1
/-- no set display is walked -/
def noSet : Expr → Bool
  | .Set _ _ _ => false
  | _ => true
theorem fold_no {e : Expr} {env : Env} (h : noSet e = true) : ∀ x, foldedSetIterable e env x = pure x := by
  intro x
  cases e <;> first | rfl | cases h
theorem ss_for (F : Fc X NM W P G adr k) {tg it : Expr} {body : List Stmt} {et ei eb : E} {pos : Pos} (hi : SI X NM W tg it (den P G ei).i) (hg : SG X NM W tg (den P G et).g) (hb : SSs X NM W body (den P G eb).s) (hn : noSet it = true) :
    SS X NM W (.For tg it body [] pos) (den P G (.for et ei eb)).s := by
  refine ps_weak (ps_for F.po F.calm hi hg hb (fold_no hn)) fun D σ H h => ?_
  obtain ⟨f, l, L, hR, hS, h⟩ := h
  refine tR_bindS hR hS h fun J L1 f1 H1 J' e r s rj h1 => ?_
  refine ⟨fun i m σ H => ∃ f l L, RelH X.K NM f L H ∧ SR X.K NM f H l σ ∧ JR X.K NM f H J J' ∧ AftS X.K NM W f H (forL (fun i H => J.nx H i) (den P G et).g (den P G eb).s m i l L) D, ⟨P.loops, f1, l, L1, r, s, rj, h1⟩, ?_⟩
  clear h h1 hR hS r s rj e
  rintro i m σ H ⟨f, l, L, hR, hS, hJ, h⟩
  cases m with
  | zero => exact h.elim
  | succ m =>
    have h : AftS X.K NM W f H (match J.nx L i with
      | none => .bad
      | some none => .ok (.nx l) L
      | some (some v) => RS.ofR ((den P G et).g v l L) l fun σ1 H1 => match (den P G eb).s σ1 H1 with
        | .ok (.nx σ2) H2 => forL (fun i H => J.nx H i) (den P G et).g (den P G eb).s m (i + 1) σ2 H2
        | .ok (.ct σ2) H2 => forL (fun i H => J.nx H i) (den P G et).g (den P G eb).s m (i + 1) σ2 H2
        | .ok (.bk σ2) H2 => .ok (.nx σ2) H2
        | .ok (.rt v) H2 => .ok (.rt v) H2
        | .exc x σ2 H2 => .exc x σ2 H2
        | .bad => .bad) D := h
    split at h
    · exact h.elim
    · rename_i hx
      exact .inl ⟨hJ f H L i none (Ext.refl f H).mo hR hx, AftS.nx h hR hS⟩
    · rename_i v hx
      obtain ⟨go, yl⟩ := hJ f H L i (some v) (Ext.refl f H).mo hR hx
      refine .inr ⟨go, _, fun σ' H' q => ⟨m, Nat.lt_succ_self m, q⟩, fun x H' hy => ?_⟩
      obtain ⟨e1, r1, rv⟩ := yl x H' hy
      refine tG_bindS r1 (hS.mono e1.mo) rv (AftS.ext h e1) fun l' L2 f2 H2 σ2 e2 r2 s2 h2 => ?_
      refine ⟨f2, l', L2, r2, s2, ?_⟩
      have hJ2 := hJ.mono (e1.trans e2).mo
      cases q : (den P G eb).s l' L2 with
      | ok fl L3 =>
        rw [q] at h2
        cases fl with
        | nx l3 => exact fun f' H' σ' e' r' s' => ⟨f', l3, L3, r', s', hJ2.mono e'.mo, AftS.ext h2 e'⟩
        | ct l3 => exact fun f' H' σ' e' r' s' => ⟨f', l3, L3, r', s', hJ2.mono e'.mo, AftS.ext h2 e'⟩
        | bk l3 => exact h2
        | rt v => exact h2
      | exc x l3 L3 => rw [q] at h2; exact h2
      | bad => rw [q] at h2; exact h2
end
end PM

set_option Elab.async false
set_option linter.all false
set_option autoImplicit false
set_option maxHeartbeats 1000000
/-! # PM12: built-in calls, isinstance, f-strings -/
namespace PM
open PySem PySem.Spec PyProof.Rows
open L2 hiding St
section
variable {X : Cx} {NM : List Str} {W : WX} {P : PM.Prog} {G : Gam} {adr : Nat → Nat → Addr} {k : Nat}
/-- a call of a known value with values -/
def CalS (X : Cx) (NM : List Str) (W : WX) (f : Value) (m : List LV → LH → R LV) : Prop :=
  ∀ (pins : List (Addr × Obj)) (s : Shared) (σ : St) (H : Hp) (xs : List V) (us : List Value) (Q : VK), Inv X pins σ H s → Vals xs us →
    (∃ g as L, RelH X.K NM g L H ∧ VRs X.K NM g H as xs ∧ Aft X.K NM g H (m as L) (fun c f' H' => ∀ z, VR X.K NM f' H' c z → Q z H') (Wx X.K NM W σ)) →
    wpAny (model X.prog X.w) X.A (call f us) (EP X pins σ Q) X.xe s
theorem calS_of {f : Value} {r : List V → Hp → VK → Prop} {m : List LV → LH → R LV} (h : CallR X f r) (i : ∀ σ H Q g as L xs, RelH X.K NM g L H → VRs X.K NM g H as xs → Aft X.K NM g H (m as L) (fun c f' H' => ∀ z, VR X.K NM f' H' c z → Q z H') (Wx X.K NM W σ) → r xs H Q) : CalS X NM W f m :=
  fun pins s σ H xs us Q I rv ⟨g, as, L, h1, h2, h3⟩ => h pins s σ H xs us Q I rv (i σ H Q g as L xs h1 h2 h3)
theorem plain_all : ∀ {es : List Expr} {env : Env} {pos : Pos}, es.all notStar = true → (backTo pos (starEach es env)).any (·.1) = false
  | [], _, _, _ => rfl
  | e :: es, env, pos, h => by
    rw [List.all_cons, Bool.and_eq_true] at h
    rw [star_head h.1]
    show (false || (backTo pos (starEach es env)).any (·.1)) = false
    rw [plain_all h.2]
    rfl
/-- f(e, ..), f a built-in function | type -/
theorem se_bltB {x : Str} {id : String} {b : Bl} {e : Expr} {es : List Expr} {ea : E} {p pos : Pos} (hc : CalS X NM W (.builtin id) (fun vs H => callB P G b vs H)) (hg : Gl X x) (hm : X.mg x = none) (hv : bootBuiltins x = some (.builtin id)) (hn : x ≠ "__name__") (hd : (x == ("__debug__" : Str)) = false)
    (hs : (e :: es).all notStar = true) (ha : SA X NM W (e :: es) (den P G ea).es) : SE X NM W (.Call (.Name x p) (e :: es) [] pos) (den P G (.blt b ea)).e := by
  have hs2 : notStar e = true ∧ es.all notStar = true := by rw [List.all_cons, Bool.and_eq_true] at hs; exact hs
  refine ⟨fun pins s σ H Q I h => ?_⟩
  obtain ⟨f, l, L, hR, hS, h⟩ := h
  refine wpAny_Call_Name_kw (ld_blt I hg hm hv ?_ hn hd)
  refine PyProof.Rows.callWith_builtin1 (thn (ha.run pos pins s σ H (fun vs H1 => ∃ g as L, RelH X.K NM g L H1 ∧ VRs X.K NM g H1 as vs ∧ Aft X.K NM g H1 (callB P G b as L) (fun c f' H' => ∀ z, VR X.K NM f' H' c z → Q z H') (Wx X.K NM W σ)) I
    (tR_bind hR hS h fun as L1 f1 H1 vs e1 r1 s1 rv h1 => ⟨f1, as, L1, r1, rv, h1⟩)) fun us s1 ⟨vs, H1, I1, r1, q1⟩ => hc pins s1 σ H1 vs us Q I1 r1 q1) (star_head hs2.1) (plain_all hs2.2)
theorem se_bltT {x : Str} {T : String} {b : Bl} {e : Expr} {es : List Expr} {ea : E} {p pos : Pos} (hc : CalS X NM W (.type T) (fun vs H => callB P G b vs H)) (hg : Gl X x) (hm : X.mg x = none) (hv : bootBuiltins x = some (.type T)) (hn : x ≠ "__name__") (hd : (x == ("__debug__" : Str)) = false)
    (hs : (e :: es).all notStar = true) (ha : SA X NM W (e :: es) (den P G ea).es) : SE X NM W (.Call (.Name x p) (e :: es) [] pos) (den P G (.blt b ea)).e := by
  have hs2 : notStar e = true ∧ es.all notStar = true := by rw [List.all_cons, Bool.and_eq_true] at hs; exact hs
  refine ⟨fun pins s σ H Q I h => ?_⟩
  obtain ⟨f, l, L, hR, hS, h⟩ := h
  refine wpAny_Call_Name_kw (ld_blt I hg hm hv ?_ hn hd)
  refine PyProof.Rows.callWith_type1 (thn (ha.run pos pins s σ H (fun vs H1 => ∃ g as L, RelH X.K NM g L H1 ∧ VRs X.K NM g H1 as vs ∧ Aft X.K NM g H1 (callB P G b as L) (fun c f' H' => ∀ z, VR X.K NM f' H' c z → Q z H') (Wx X.K NM W σ)) I
    (tR_bind hR hS h fun as L1 f1 H1 vs e1 r1 s1 rv h1 => ⟨f1, as, L1, r1, rv, h1⟩)) fun us s1 ⟨vs, H1, I1, r1, q1⟩ => hc pins s1 σ H1 vs us Q I1 r1 q1) (star_head hs2.1) (plain_all hs2.2)

/-! ### the functions by values -/
theorem one_of {K : PySem.W.Frag} {g : Inj} {H : Hp} {a : LV} {xs : List V} (h : VRs K NM g H [a] xs) : ∃ x, xs = [x] ∧ VR K NM g H a x := by
  obtain ⟨w, ws, rfl, r, rn⟩ := h
  obtain rfl : ws = [] := rn
  exact ⟨w, rfl, r⟩
theorem two_of {K : PySem.W.Frag} {g : Inj} {H : Hp} {a b : LV} {xs : List V} (h : VRs K NM g H [a, b] xs) : ∃ x y, xs = [x, y] ∧ VR K NM g H a x ∧ VR K NM g H b y := by
  obtain ⟨w, ws, rfl, r, w2, ws2, rfl, r2, rn⟩ := h
  obtain rfl : ws2 = [] := rn
  exact ⟨w, w2, rfl, r, r2⟩
/-- one value only -/
theorem cal_one {f : Value} {r : List V → Hp → VK → Prop} {b : Bl} (h : CallR X f r) (hb : ∀ x y L, call2 b x y L = .bad) (i : ∀ σ H Q g a L x, RelH X.K NM g L H → VR X.K NM g H a x → Aft X.K NM g H (call1 P G b a L) (fun c f' H' => ∀ z, VR X.K NM f' H' c z → Q z H') (Wx X.K NM W σ) → r [x] H Q) : CalS X NM W f (fun vs H => callB P G b vs H) :=
  calS_of h fun σ H Q g as L xs hR rv h => by
    match as, rv, h with
    | [x], rv, h =>
      obtain ⟨v, rfl, rx⟩ := one_of rv
      exact i σ H Q g x L v hR rx h
    | [], _, h | _ :: _ :: _ :: _, _, h => exact h.elim
    | [x, y], _, h =>
      have h : Aft X.K NM g H (call2 b x y L) _ _ := h
      rw [hb] at h
      exact h.elim
theorem no2 {b : Bl} (h : b ≠ .max2) (h' : b ≠ .min2) : ∀ (x y : LV) (L : LH), call2 b x y L = .bad := by
  intro x y L
  cases x <;> first | rfl | (cases y <;> first | rfl | (cases b <;> first | rfl | exact absurd rfl h | exact absurd rfl h'))
theorem cal_int : CalS X NM W (.type "int") (fun vs H => callB P G .int vs H) := cal_one call_int1 (no2 nofun nofun) fun σ H Q g a L x hR rx h => by
  cases a with
  | int i =>
    obtain rfl : x = .int i := rx
    exact .inl ⟨i, rfl, Aft.here h hR _ rfl⟩
  | bl i =>
    obtain rfl : x = .bl i := rx
    exact .inr ⟨i, rfl, Aft.here h hR _ rfl⟩
  | _ => exact h.elim
theorem or_call {f : Value} {r r' : List V → Hp → VK → Prop} (h : CallR X f r) (h' : CallR X f r') : CallR X f (fun xs H Q => r xs H Q ∨ r' xs H Q) := fun pins s σ H xs us Q I rv q => q.elim (h pins s σ H xs us Q I rv) (h' pins s σ H xs us Q I rv)
theorem intText_eq (i : Int) : (⟨(intText i).toArray⟩ : Str) = Str.ofString (toString i) := by
  unfold intText
  simp
theorem cal_abs : CalS X NM W (.builtin "abs") (fun vs H => callB P G .abs vs H) := cal_one call_abs (no2 nofun nofun) fun σ H Q g a L x hR rx h => by
  cases a with
  | int i =>
    obtain rfl : x = .int i := rx
    exact ⟨i, rfl, Aft.here h hR _ rfl⟩
  | _ => exact h.elim
theorem ints_ok {K : PySem.W.Frag} {g : Inj} {H : Hp} : ∀ {xs : List LV} {vs : List V} {ns : List Int}, intsOf xs = some ns → VRs K NM g H xs vs → vs = ns.map V.int
  | [], vs, ns, h, r => by cases h; obtain rfl : vs = [] := r; rfl
  | .int i :: xs, vs, ns, h, r => by
    obtain ⟨w, ws, rfl, r1, r2⟩ := r
    obtain rfl : w = .int i := r1
    have h : (intsOf xs).map (i :: ·) = some ns := h
    cases q : intsOf xs with
    | none => rw [q] at h; cases h
    | some ms => rw [q] at h; cases h; rw [ints_ok q r2]; rfl
  | .non :: _, _, _, h, _ | .bl _ :: _, _, _, h, _ | .str _ :: _, _, _, h, _ | .tup _ :: _, _, _, h, _ | .ref _ :: _, _, _, h, _ | .gl _ :: _, _, _, h, _ | .fz _ :: _, _, _, h, _ | .scr _ :: _, _, _, h, _ | .obj _ _ _ :: _, _, _, h, _ | .dct _ _ :: _, _, _, h, _ | .clo _ _ :: _, _, _, h, _ | .err _ _ _ :: _, _, _, h, _ => by cases h
theorem bools_ok {K : PySem.W.Frag} {g : Inj} {H : Hp} : ∀ {xs : List LV} {vs : List V} {ns : List Bool}, boolsOf xs = some ns → VRs K NM g H xs vs → vs = ns.map V.bl
  | [], vs, ns, h, r => by cases h; obtain rfl : vs = [] := r; rfl
  | .bl i :: xs, vs, ns, h, r => by
    obtain ⟨w, ws, rfl, r1, r2⟩ := r
    obtain rfl : w = .bl i := r1
    have h : (boolsOf xs).map (i :: ·) = some ns := h
    cases q : boolsOf xs with
    | none => rw [q] at h; cases h
    | some ms => rw [q] at h; cases h; rw [bools_ok q r2]; rfl
  | .non :: _, _, _, h, _ | .int _ :: _, _, _, h, _ | .str _ :: _, _, _, h, _ | .tup _ :: _, _, _, h, _ | .ref _ :: _, _, _, h, _ | .gl _ :: _, _, _, h, _ | .fz _ :: _, _, _, h, _ | .scr _ :: _, _, _, h, _ | .obj _ _ _ :: _, _, _, h, _ | .dct _ _ :: _, _, _, h, _ | .clo _ _ :: _, _, _, h, _ | .err _ _ _ :: _, _, _, h, _ => by cases h
/-- a list's items by a reading -/
theorem via_list {α : Type} {K : PySem.W.Frag} {g : Inj} {L : LH} {H : Hp} {x : LV} {f : List LV → Option α} {ns : α} {v : V} (hR : RelH K NM g L H) (rx : VR K NM g H x v) (h : (lstOf L x).bind f = some ns) : ∃ p ys vs, v = .ref p ∧ SqL K H p vs ∧ VRs K NM g H ys vs ∧ f ys = some ns := by
  cases q : lstOf L x with
  | none => rw [q] at h; cases h
  | some ys =>
    rw [q] at h
    obtain ⟨p, vs, rfl, q1, q2⟩ := lstOf_ok hR rx q
    exact ⟨p, ys, vs, rfl, q1, q2, h⟩
/-- a list's or a tuple's items by a reading -/
theorem via_seq {α : Type} {K : PySem.W.Frag} {g : Inj} {L : LH} {H : Hp} {x : LV} {f : List LV → Option α} {ns : α} {v : V} (hR : RelH K NM g L H) (rx : VR K NM g H x v) (h : (seqOf L x).bind f = some ns) : ∃ p ys vs, v = .ref p ∧ (SqL K H p vs ∨ SqT K H p vs) ∧ VRs K NM g H ys vs ∧ f ys = some ns := by
  cases q : seqOf L x with
  | none => rw [q] at h; cases h
  | some ys =>
    rw [q] at h
    obtain ⟨p, vs, rfl, q1, q2⟩ := seqOf_ok hR rx q
    exact ⟨p, ys, vs, rfl, q1, q2, h⟩
theorem cr_sumLT (hc : X.calm = true) : CallR X (.builtin "sum") (fun vs H Q => ∃ (a : Addr) (ns : List Int), vs = [V.ref a] ∧ (SqL X.K H a (ns.map V.int) ∨ SqT X.K H a (ns.map V.int)) ∧ Q (.int ns.sum) H) := by
  intro pins s σ H vs us Q I r h
  obtain ⟨a, ns, rfl, hs, q⟩ := h
  rcases hs with hs | hs
  · exact cr_sum hc pins s σ H _ us Q I r ⟨a, ns, rfl, hs, q⟩
  · obtain ⟨its, rv, hl, _⟩ := I.tuple hs
    rw [Vals.ref1 r]
    have hi := rv.ints
    have hl : s.heap.IsTuple a its.toArray := hl
    obtain ⟨xs, hx⟩ := hi.allInts.items
    have hn : numsOf its.toArray.toList = ns := by rw [show its.toArray.toList = its from rfl, hi.numsOf]
    rw [hx] at hl hn
    rw [nums_intItems] at hn
    refine PySem.W.ktm_sumG (I.ok.hd hc) hl fun h' tk t' hk => ⟨.int _, H, I.kept hk, ⟨_, rfl⟩, ?_⟩
    rw [preSum_eq, List.take_of_length_le (by simp), hn]
    exact q
theorem cal_sum (hc : X.calm = true) : CalS X NM W (.builtin "sum") (fun vs H => callB P G .sum vs H) := cal_one (cr_sumLT hc) (no2 nofun nofun) fun σ H Q g a L x hR rx h => by
  have h : Aft X.K NM g H (match (seqOf L a).bind intsOf with
    | some ns => .ok (.int ns.sum) L
    | none => .bad : R LV) _ _ := h
  split at h
  · rename_i ns hn
    obtain ⟨p, ys, vs, rfl, q1, q2, q3⟩ := via_seq hR rx hn
    obtain rfl := ints_ok q3 q2
    exact ⟨p, ns, rfl, q1, Aft.here h hR _ rfl⟩
  · exact h.elim
theorem cal_all (hc : X.calm = true) : CalS X NM W (.builtin "all") (fun vs H => callB P G .all vs H) := cal_one (cr_all hc) (no2 nofun nofun) fun σ H Q g a L x hR rx h => by
  have h : Aft X.K NM g H (match (lstOf L a).bind boolsOf with
    | some ns => .ok (.bl (ns.all id)) L
    | none => .bad : R LV) _ _ := h
  split at h
  · rename_i ns hn
    obtain ⟨p, ys, vs, rfl, q1, q2, q3⟩ := via_list hR rx hn
    obtain rfl := bools_ok q3 q2
    exact ⟨p, ns, rfl, q1, Aft.here h hR _ rfl⟩
  · exact h.elim
theorem cal_any (hc : X.calm = true) : CalS X NM W (.builtin "any") (fun vs H => callB P G .any vs H) := cal_one (cr_any hc) (no2 nofun nofun) fun σ H Q g a L x hR rx h => by
  have h : Aft X.K NM g H (match (lstOf L a).bind boolsOf with
    | some ns => .ok (.bl (ns.any id)) L
    | none => .bad : R LV) _ _ := h
  split at h
  · rename_i ns hn
    obtain ⟨p, ys, vs, rfl, q1, q2, q3⟩ := via_list hR rx hn
    obtain rfl := bools_ok q3 q2
    exact ⟨p, ns, rfl, q1, Aft.here h hR _ rfl⟩
  · exact h.elim
/-- two ints -/
theorem cal_two {f : Value} {r : List V → Hp → VK → Prop} {b : Bl} {m : Int → Int → Int} (h : CallR X f r) (h1 : ∀ x L, call1 P G b x L = .bad) (h2 : ∀ i j L, call2 b (.int i) (.int j) L = .ok (.int (m i j)) L) (i : ∀ i j H Q, Q (.int (m i j)) H → r [.int i, .int j] H Q) : CalS X NM W f (fun vs H => callB P G b vs H) :=
  calS_of h fun σ H Q g as L xs hR rv h => by
    match as, rv, h with
    | [x], rv, h =>
      have h : Aft X.K NM g H (call1 P G b x L) _ _ := h
      rw [h1] at h
      exact h.elim
    | [], _, h | _ :: _ :: _ :: _, _, h => exact h.elim
    | [x, y], rv, h =>
      obtain ⟨v, w, rfl, rx, ry⟩ := two_of rv
      have h : Aft X.K NM g H (call2 b x y L) _ _ := h
      cases x with
      | int a => cases y with
        | int c =>
          obtain rfl : v = .int a := rx
          obtain rfl : w = .int c := ry
          rw [h2] at h
          exact i a c H Q (Aft.here h hR _ rfl)
        | _ => exact h.elim
      | _ => cases y <;> exact h.elim
theorem cal_max2 (hc : X.calm = true) : CalS X NM W (.builtin "max") (fun vs H => callB P G .max2 vs H) := cal_two (m := fun i j => if j > i then j else i) (call_max2 hc) (fun _ _ => rfl) (fun _ _ _ => rfl) fun i j H Q q => ⟨i, j, rfl, q⟩
theorem cal_min2 (hc : X.calm = true) : CalS X NM W (.builtin "min") (fun vs H => callB P G .min2 vs H) := cal_two (m := fun i j => if j < i then j else i) (call_min2 hc) (fun _ _ => rfl) (fun _ _ _ => rfl) fun i j H Q q => ⟨i, j, rfl, q⟩
theorem cal_list : CalS X NM W (.type "list") (fun vs H => callB P G .list vs H) := cal_one call_list_of (no2 nofun nofun) fun σ H Q g a L x hR rx h => by
  have h : Aft X.K NM g H (match seqOf L a with
    | some xs => newF xs L
    | none => .bad : R LV) _ _ := h
  split at h
  · rename_i ys hy
    obtain ⟨p, vs, rfl, q1, q2⟩ := seqOf_ok hR rx hy
    obtain ⟨_, q3⟩ := newF_ok h hR q2
    exact ⟨p, vs, rfl, q1, q3⟩
  · exact h.elim
theorem cal_listM : CalS X NM W (.type "list") (fun vs H => callB P G .listM vs H) := cal_one call_list_of (no2 nofun nofun) fun σ H Q g a L x hR rx h => by
  have h : Aft X.K NM g H (match seqOf L a with
    | some xs => newL xs L
    | none => .bad : R LV) _ _ := h
  split at h
  · rename_i ys hy
    obtain ⟨p, vs, rfl, q1, q2⟩ := seqOf_ok hR rx hy
    obtain ⟨_, q3⟩ := newL_ok h hR q2
    exact ⟨p, vs, rfl, q1, q3⟩
  · exact h.elim
theorem cal_tuple : CalS X NM W (.type "tuple") (fun vs H => callB P G .tuple vs H) := cal_one call_tuple_of (no2 nofun nofun) fun σ H Q g a L x hR rx h => by
  have h : Aft X.K NM g H (match seqOf L a with
    | some xs => .ok (.tup xs) L
    | none => .bad : R LV) _ _ := h
  split at h
  · rename_i ys hy
    obtain ⟨p, vs, rfl, q1, q2⟩ := seqOf_ok hR rx hy
    rcases q1 with q1 | q1
    · exact ⟨p, vs, rfl, .inl ⟨q1, fun l hl => h g _ (Ext.put hl) (hR.put hl) _ ⟨l, vs, rfl, SqT.of upd_same, VRs.mono (Ext.put hl).mo _ _ q2⟩⟩⟩
    · exact ⟨p, vs, rfl, .inr ⟨q1, Aft.here h hR _ ⟨p, vs, rfl, q1, q2⟩⟩⟩
  · exact h.elim
theorem ownM_bind {c m : Nat} {xs : List LV} {L : LH} {g : Inj} {H : Hp} {σ : St} {Q : VK} {kk : LV → LH → R LV} (h : Aft X.K NM g H ((ownM P G L c m xs).bind kk) (fun c f' H' => ∀ z, VR X.K NM f' H' c z → Q z H') (Wx X.K NM W σ))
    {Q' : VK} (hk : ∀ r L1 f' H', RelH X.K NM f' L1 H' → Aft X.K NM f' H' (kk r L1) (fun c f' H' => ∀ z, VR X.K NM f' H' c z → Q z H') (Wx X.K NM W σ) → ∀ z, VR X.K NM f' H' r z → Q' z H') : Aft X.K NM g H (ownM P G L c m xs) (fun c f' H' => ∀ z, VR X.K NM f' H' c z → Q' z H') (Wx X.K NM W σ) := by
  cases q : ownM P G L c m xs with
  | ok r L1 =>
    rw [q] at h
    exact fun f' H' e r1 z rz => hk r L1 f' H' r1 (Aft.ext h e) z rz
  | exc x L1 => rw [q] at h; exact h
  | bad => rw [q] at h; exact h
theorem cal_len (F : Fc X NM W P G adr k) : CalS X NM W (.builtin "len") (fun vs H => callB P G .len vs H) := by
  intro pins s σ H xs us Q I rv ⟨g, as, L, hR, ra, h⟩
  match as, ra, h with
  | [], _, h | _ :: _ :: _ :: _, _, h => exact h.elim
  | [x, y], _, h =>
    have h : Aft X.K NM g H (call2 .len x y L) _ _ := h
    rw [no2 (b := .len) nofun nofun] at h
    exact h.elim
  | [x], ra, h =>
    obtain ⟨v, rfl, rx⟩ := one_of ra
    have main : Aft X.K NM g H (match seqOf L x with
      | some xs => .ok (.int xs.length) L
      | none => match insCls L x with
        | some c => (ownM P G L c kLen [x]).bind fun r H1 => match r with
          | .int i => if 0 ≤ i ∧ i < 2 ^ 62 then .ok (.int i) H1 else .bad
          | _ => .bad
        | none => .bad : R LV) (fun c f' H' => ∀ z, VR X.K NM f' H' c z → Q z H') (Wx X.K NM W σ) → wpAny (model X.prog X.w) X.A (call (.builtin "len") us) (EP X pins σ Q) X.xe s := fun h => by
      split at h
      · rename_i ys hy
        obtain ⟨p, vs, rfl, q1, q2⟩ := seqOf_ok hR rx hy
        exact call_len_seq pins s σ H _ us Q I rv ⟨p, vs, rfl, q1, by rw [← q2.length]; exact Aft.here h hR _ rfl⟩
      · split at h
        · rename_i c hc
          obtain ⟨fs, e1⟩ := insCls_ok hc
          obtain ⟨p, dx, gs, rfl, o1, r1⟩ := ins_at hR rx e1
          obtain ⟨u, rfl, ru⟩ := rv.one
          cases ru
          have h2 := ownM_bind (Q' := fun z H' => ∃ i : Int, z = .int i ∧ (0 ≤ i ∧ i < 2 ^ 62) ∧ Q (.int i) H') h fun r L1 f' H' r1 h3 z rz => by
            cases r with
            | int i =>
              obtain rfl : z = .int i := rz
              have h3 : Aft X.K NM f' H' (if 0 ≤ i ∧ i < 2 ^ 62 then .ok (.int i) L1 else .bad : R LV) _ _ := h3
              split at h3
              · rename_i hi
                exact ⟨i, rfl, hi, Aft.here h3 r1 _ rfl⟩
              · exact h3.elim
            | _ => exact h3.elim
          obtain ⟨d, hd, run⟩ := ownM_run (vs := [.ref p]) (us := [.ref p]) F ((F.rm.mono (by omega : k + 1 ≤ k + 2)).in1) I.env0.in1 I (.cons rfl .nil) hR (VRs.cons rx VRs.nil) h2
          obtain ⟨M, _, _⟩ := F.sf.meth c kLen d hd
          obtain ⟨mA, O, _, _, _, _⟩ := ins_get I.hok o1
          obtain ⟨od, J, _⟩ := O.look
          obtain ⟨fm, hF⟩ := I.fr
          refine PySem.W.len_K hF I.ok.mod.kin J (by
            have := M.at_
            rw [F.sf.pre kLen (by decide)] at this
            exact this) M.fn (wpAny_mono run (fun r s' hr => ?_) fun _ _ z => z)
          obtain ⟨z, H', I', rz, i, rfl, hi, q⟩ := hr
          obtain ⟨t, rfl⟩ := rz
          exact ⟨⟨hi.1, by omega⟩, .int i, H', I'.tok _, ⟨_, rfl⟩, q⟩
        · exact h.elim
    cases x with
    | str z =>
      obtain rfl : v = strV z := rx
      have h : Aft X.K NM g H (if z.length ≤ SL then .ok (.int z.length) L else .bad : R LV) _ _ := h
      split at h
      · rename_i hz
        refine call_len_str pins s σ H _ us Q I rv ⟨⟨z.toArray⟩, rfl, by rw [strV_len, ← SL_eq]; exact hz, ?_⟩
        rw [strV_len]
        exact Aft.here h hR _ rfl
      · exact h.elim
    | _ => exact main h
theorem cal_repr (F : Fc X NM W P G adr k) : CalS X NM W (.builtin "repr") (fun vs H => callB P G .repr vs H) := by
  intro pins s σ H xs us Q I rv ⟨g, as, L, hR, ra, h⟩
  match as, ra, h with
  | [], _, h | _ :: _ :: _ :: _, _, h => exact h.elim
  | [x, y], _, h =>
    have h : Aft X.K NM g H (call2 .repr x y L) _ _ := h
    rw [no2 (b := .repr) nofun nofun] at h
    exact h.elim
  | [x], ra, h =>
    obtain ⟨v, rfl, rx⟩ := one_of ra
    have gen : Aft X.K NM g H (match insCls L x with
        | some c => (ownM P G L c kRepr [x]).bind fun r H1 => match r with
          | .str s => .ok (.str s) H1
          | _ => .bad
        | none => .bad : R LV) (fun c f' H' => ∀ z, VR X.K NM f' H' c z → Q z H') (Wx X.K NM W σ) → wpAny (model X.prog X.w) X.A (call (.builtin "repr") us) (EP X pins σ Q) X.xe s := fun h => by
      split at h
      · rename_i c hc
        obtain ⟨fs, e1⟩ := insCls_ok hc
        obtain ⟨p, dx, gs, rfl, o1, r1⟩ := ins_at hR rx e1
        obtain ⟨u, rfl, ru⟩ := rv.one
        cases ru
        have h2 := ownM_bind (Q' := fun z H' => ∃ i, z = strV i ∧ Q (strV i) H') h fun r L1 f' H' r1 h3 z rz => by
          cases r with
          | str i =>
            obtain rfl : z = strV i := rz
            exact ⟨i, rfl, Aft.here h3 r1 _ rfl⟩
          | _ => exact h3.elim
        obtain ⟨d, hd, run⟩ := ownM_run (vs := [.ref p]) (us := [.ref p]) F ((F.rm.mono (by omega : k + 1 ≤ k + 2)).in1) I.env0.in1 I (.cons rfl .nil) hR (VRs.cons rx VRs.nil) h2
        obtain ⟨M, _, _⟩ := F.sf.meth c kRepr d hd
        obtain ⟨mA, O, _, _, _, _⟩ := ins_get I.hok o1
        obtain ⟨od, J, _⟩ := O.look
        obtain ⟨fm, hF⟩ := I.fr
        refine PySem.W.repr_K (by have := ((F.rm.mono (by omega : k + 1 ≤ k + 2)).in1).un; omega) hF I.ok.mod.kin J (by
          have := M.at_
          rw [F.sf.pre kRepr (by decide)] at this
          exact this) M.fn (wpAny_mono run (fun r s' hr => ?_) fun _ _ z => z)
        obtain ⟨z, H', I', rz, i, rfl, q⟩ := hr
        obtain ⟨t, rfl⟩ := rz
        exact ⟨strV i, H', I', ⟨_, rfl⟩, q⟩
      · exact h.elim
    cases x with
    | int i =>
      obtain rfl : v = .int i := rx
      have h : Aft X.K NM g H (if i.natAbs.log2 < 1920 then .ok (.str (intText i)) L else .bad : R LV) _ _ := h
      split at h
      · rename_i hz
        refine SkE.call_repr_int pins s σ H _ us Q I rv ⟨i, rfl, hz, ?_⟩
        have q := Aft.here h hR (strV (intText i)) rfl
        rw [show strV (intText i) = V.str (Str.ofString (toString i)) from congrArg V.str (intText_eq i)] at q
        exact q
      · exact h.elim
    | _ => exact gen h
theorem cal_bool (F : Fc X NM W P G adr k) : CalS X NM W (.type "bool") (fun vs H => callB P G .bool vs H) := by
  intro pins s σ H xs us Q I rv ⟨g, as, L, hR, ra, h⟩
  match as, ra, h with
  | [], _, h | _ :: _ :: _ :: _, _, h => exact h.elim
  | [x, y], _, h =>
    have h : Aft X.K NM g H (call2 .bool x y L) _ _ := h
    rw [no2 (b := .bool) nofun nofun] at h
    exact h.elim
  | [x], ra, h =>
    obtain ⟨v, rfl, rx⟩ := one_of ra
    have gen : Aft X.K NM g H (match lstOf L x with
        | some xs => .ok (.bl (!xs.isEmpty)) L
        | none => match insCls L x with
          | some c => (ownM P G L c kBool [x]).bind fun r H1 => match r with
            | .bl b => .ok (.bl b) H1
            | _ => .bad
          | none => .bad : R LV) (fun c f' H' => ∀ z, VR X.K NM f' H' c z → Q z H') (Wx X.K NM W σ) → wpAny (model X.prog X.w) X.A (call (.type "bool") us) (EP X pins σ Q) X.xe s := fun h => by
      split at h
      · rename_i ys hx
        obtain ⟨p, vs, rfl, q1, q2⟩ := lstOf_ok hR rx hx
        refine call_boolL pins s σ H _ us Q I rv ⟨p, vs, rfl, q1, ?_⟩
        have e : (!vs.isEmpty) = !ys.isEmpty := by
          have := q2.length
          cases ys <;> cases vs <;> first | rfl | (simp at this)
        rw [e]
        exact Aft.here h hR _ rfl
      · split at h
        · rename_i c hc
          obtain ⟨fs, e1⟩ := insCls_ok hc
          obtain ⟨p, dx, gs, rfl, o1, r1⟩ := ins_at hR rx e1
          obtain ⟨u, rfl, ru⟩ := rv.one
          cases ru
          have h2 := ownM_bind (Q' := fun z H' => ∃ i, z = .bl i ∧ Q (.bl i) H') h fun r L1 f' H' r1 h3 z rz => by
            cases r with
            | bl i =>
              obtain rfl : z = .bl i := rz
              exact ⟨i, rfl, Aft.here h3 r1 _ rfl⟩
            | _ => exact h3.elim
          obtain ⟨d, hd, run⟩ := ownM_run (vs := [.ref p]) (us := [.ref p]) F (F.rm.in1).in1 I.env0.in1.in1 I (.cons rfl .nil) hR (VRs.cons rx VRs.nil) h2
          obtain ⟨M, _, _⟩ := F.sf.meth c kBool d hd
          obtain ⟨mA, O, _, _, _, _⟩ := ins_get I.hok o1
          obtain ⟨od, J, _⟩ := O.look
          obtain ⟨fm, hF⟩ := I.fr
          refine bool_own (PySem.W.truthy_K hF I.ok.mod.kin J (by
            have := M.at_
            rw [F.sf.pre kBool (by decide)] at this
            exact this) M.fn (wpAny_mono run (fun r s' hr => ?_) fun _ _ z => z))
          obtain ⟨z, H', I', rz, i, rfl, q⟩ := hr
          cases rz
          exact ⟨.bl i, H', I', rfl, q⟩
        · exact h.elim
    cases x with
    | int i =>
      obtain rfl : v = .int i := rx
      exact call_bool1 pins s σ H _ us Q I rv (.inl ⟨i, rfl, Aft.here h hR _ rfl⟩)
    | bl i =>
      obtain rfl : v = .bl i := rx
      exact call_bool1 pins s σ H _ us Q I rv (.inr ⟨i, rfl, Aft.here h hR _ rfl⟩)
    | _ => exact gen h
theorem cal_str (F : Fc X NM W P G adr k) : CalS X NM W (.type "str") (fun vs H => callB P G .str vs H) := by
  intro pins s σ H xs us Q I rv ⟨g, as, L, hR, ra, h⟩
  match as, ra, h with
  | [], _, h | _ :: _ :: _ :: _, _, h => exact h.elim
  | [x, y], _, h =>
    have h : Aft X.K NM g H (call2 .str x y L) _ _ := h
    rw [no2 (b := .str) nofun nofun] at h
    exact h.elim
  | [x], ra, h =>
    obtain ⟨v, rfl, rx⟩ := one_of ra
    have gen : Aft X.K NM g H (match insCls L x with
        | some c => (ownM P G L c kStr [x]).bind fun r H1 => match r with
          | .str s => .ok (.str s) H1
          | _ => .bad
        | none => .bad : R LV) (fun c f' H' => ∀ z, VR X.K NM f' H' c z → Q z H') (Wx X.K NM W σ) → wpAny (model X.prog X.w) X.A (call (.type "str") us) (EP X pins σ Q) X.xe s := fun h => by
      split at h
      · rename_i c hc
        obtain ⟨fs, e1⟩ := insCls_ok hc
        obtain ⟨p, dx, gs, rfl, o1, r1⟩ := ins_at hR rx e1
        obtain ⟨u, rfl, ru⟩ := rv.one
        cases ru
        have h2 := ownM_bind (Q' := fun z H' => ∃ i, z = strV i ∧ Q (strV i) H') h fun r L1 f' H' r1 h3 z rz => by
          cases r with
          | str i =>
            obtain rfl : z = strV i := rz
            exact ⟨i, rfl, Aft.here h3 r1 _ rfl⟩
          | _ => exact h3.elim
        obtain ⟨d, hd, run⟩ := ownM_run (vs := [.ref p]) (us := [.ref p]) F (F.rm.in1).in1 I.env0.in1.in1 I (.cons rfl .nil) hR (VRs.cons rx VRs.nil) h2
        obtain ⟨M, _, _⟩ := F.sf.meth c kStr d hd
        obtain ⟨mA, O, _, _, _, _⟩ := ins_get I.hok o1
        obtain ⟨od, J, _⟩ := O.look
        refine PySem.W.kso_call (by have := ((F.rm.in1).in1).un; omega) I.kIn J (by
          have := M.at_
          rw [F.sf.pre kStr (by decide)] at this
          exact this) M.fn (wpAny_mono run (fun r s' hr => ?_) fun _ _ z => z)
        obtain ⟨z, H', I', rz, i, rfl, q⟩ := hr
        obtain ⟨t, rfl⟩ := rz
        exact ⟨strV i, H', I', ⟨_, rfl⟩, q⟩
      · exact h.elim
    cases x with
    | int i =>
      obtain rfl : v = .int i := rx
      have h : Aft X.K NM g H (if i.natAbs.log2 < 1920 then .ok (.str (intText i)) L else .bad : R LV) _ _ := h
      split at h
      · rename_i hz
        refine call_str_int pins s σ H _ us Q I rv ⟨i, rfl, hz, ?_⟩
        have q := Aft.here h hR (strV (intText i)) rfl
        rw [show strV (intText i) = V.str (Str.ofString (toString i)) from congrArg V.str (intText_eq i)] at q
        exact q
      · exact h.elim
    | str z =>
      obtain rfl : v = strV z := rx
      exact SkE.call_str_str pins s σ H _ us Q I rv ⟨⟨z.toArray⟩, rfl, Aft.here h hR _ rfl⟩
    | _ => exact gen h
end
end PM

set_option Elab.async false
set_option linter.all false
set_option autoImplicit false
set_option maxHeartbeats 1000000
/-! # PM13: isinstance, f-strings, calls of functions -/
namespace PM
open PySem PySem.Spec PyProof.Rows
open L2 hiding St
section
variable {X : Cx} {NM : List Str} {W : WX} {P : PM.Prog} {G : Gam} {adr : Nat → Nat → Addr} {k : Nat}
/-! ### isinstance -/
def Ty.v (K : PySem.W.Frag) (NM : List Str) : Ty → V
  | .int => .ty "int" | .bool => .ty "bool" | .str => .ty "str" | .list => .ty "list" | .tuple => .ty "tuple" | .dict => .ty "dict"
  | .own c => .ref (gad K NM c)
def Ty.u (K : PySem.W.Frag) (NM : List Str) : Ty → Value
  | .int => .type "int" | .bool => .type "bool" | .str => .type "str" | .list => .type "list" | .tuple => .type "tuple" | .dict => .type "dict"
  | .own c => .ref (gad K NM c)
theorem Ty.cls (K : PySem.W.Frag) (NM : List Str) (t : Ty) : ClsV (t.v K NM) (t.u K NM) := by
  cases t <;> first | exact .ty _ | exact .own _
theorem sqL_ty {K : PySem.W.Frag} {H : Hp} {p : Addr} {vs : List V} (h : SqL K H p vs) : TyX K H (.ref p) (.type "list") := by
  rcases h with (h | ⟨o, h⟩) | ⟨o, its, n, h, hc, _⟩
  · exact .base (.lst h)
  · exact .base (.frz h)
  · exact .kList h hc
theorem sqT_ty {K : PySem.W.Frag} {H : Hp} {p : Addr} {vs : List V} (h : SqT K H p vs) : TyX K H (.ref p) (.type "tuple") := by
  rcases h with (h | ⟨o, h⟩) | ⟨o, its, n, h, hc, _⟩
  · exact .base (.tup h)
  · exact .fTuple h
  · exact .kTuple h hc
theorem kitT {K : PySem.W.Frag} {t : Ty} {a : String} {b : Bool} (NM : List Str) (ht : t.isBlt = true) (h : ∀ s, (t.u K NM) = .type s → kitB a s = some b) : PySem.W.kitOne K (.type a) (t.u K NM) = some b := by
  cases t <;> first | (cases ht; done) | exact kit_ty (h _ rfl)
theorem tyOne_ok {adr : Nat → Nat → Addr} (sf : Sf X.K NM P adr) {f : Inj} {L : LH} {H : Hp} {x : LV} {v : V} {t : Ty} {b : Bool} (r : RelH X.K NM f L H) (rv : VR X.K NM f H x v) (h : tyOne P t x L = some b) :
    ∃ T, TyX X.K H v T ∧ PySem.W.kitOne X.K T (t.u X.K NM) = some b ∧ ∀ t' b', tyOne P t' x L = some b' → PySem.W.kitOne X.K T (t'.u X.K NM) = some b' := by
  suffices q : (∃ T, TyX X.K H v T ∧ ∀ t' b', tyOne P t' x L = some b' → PySem.W.kitOne X.K T (t'.u X.K NM) = some b') by
    obtain ⟨T, q1, q2⟩ := q
    exact ⟨T, q1, q2 t b h, q2⟩
  have blt : ∀ (a : String), a ∈ tyNames → (∀ t' b', t'.isBlt = true → tyOne P t' x L = some b' → ∀ s, (t'.u X.K NM) = .type s → kitB a s = some b') → (∀ d b', tyOne P (.own d) x L = some b' → b' = false) →
      ∀ t' b', tyOne P t' x L = some b' → PySem.W.kitOne X.K (.type a) (t'.u X.K NM) = some b' := fun a ha h1 h2 t' b' hb => by
    cases ht : t'.isBlt with
    | true => exact kitT NM ht (h1 t' b' ht hb)
    | false =>
      cases t' with
      | own d =>
        obtain rfl := h2 d b' hb
        have hd : P.isCls d = true := by
          cases e : P.isCls d with
          | true => rfl
          | false =>
            have hb : (if P.isCls d = true then _ else none) = some false := hb
            rw [e] at hb
            cases hb
        exact sf.kit2 a ha d hd
      | _ => cases ht
  have own0 : (∀ d, (tyOne P (.own d) x L) = if P.isCls d then some false else none) → ∀ d b', tyOne P (.own d) x L = some b' → b' = false := fun e d b' hb => by
    rw [e] at hb
    split at hb
    · cases hb; rfl
    · cases hb
  have gen : (∀ t', tyOne P t' x L = match t' with
      | .own d => if P.isCls d then (match lstOf L x with
        | some _ => some false
        | none => match insOf L x with
          | some (c, _) => if P.isCls c then some ((P.mro c).contains d) else none
          | none => none) else none
      | t' => match lstOf L x with
        | some _ => some (decide (t' = .list))
        | none => match insOf L x with
          | some (c, _) => if P.isCls c then some false else none
          | none => none) → (∃ T, TyX X.K H v T ∧ ∀ t' b', tyOne P t' x L = some b' → PySem.W.kitOne X.K T (t'.u X.K NM) = some b') := fun key => by
    cases e : lstOf L x with
    | some xs =>
      obtain ⟨p, vs, rfl, q1, q2⟩ := lstOf_ok r rv e
      refine ⟨_, sqL_ty q1, blt _ (by decide) (fun t' b' ht hb s hs => ?_) (fun d b' hb => ?_)⟩
      · rw [key, e] at hb
        cases t' <;> first | (cases ht; done) | (cases hb; cases hs; decide +kernel)
      · rw [key, e] at hb
        dsimp only at hb
        split at hb
        · cases hb; rfl
        · cases hb
    | none =>
      cases e2 : insOf L x with
      | none =>
        exfalso
        rw [key, e, e2] at h
        cases t <;> first | (cases h; done) | (dsimp only at h; split at h <;> cases h)
      | some z =>
        obtain ⟨c, fs⟩ := z
        obtain ⟨p, dx, gs, rfl, q1, q2⟩ := ins_at r rv e2
        have hc : P.isCls c = true := by
          cases hcc : P.isCls c with
          | true => rfl
          | false =>
            exfalso
            rw [key, e, e2] at h
            cases t <;> dsimp only at h <;> rw [hcc] at h <;> first | (cases h; done) | (split at h <;> cases h)
        obtain ⟨s1, s2, s3, s4, s5⟩ := sf.sis c hc
        refine ⟨_, .base (.ins q1 s1 s2 s3 s4 s5), fun t' b' hb => ?_⟩
        rw [key, e, e2] at hb
        cases t' with
        | own d =>
          dsimp only at hb
          by_cases hd : P.isCls d = true
          · rw [if_pos hd, if_pos hc] at hb
            rw [← hb]
            exact sf.kit1 c d hc hd
          · rw [if_neg hd] at hb
            cases hb
        | int => dsimp only at hb; rw [if_pos hc] at hb; cases hb; exact sf.kit3 "int" (by decide) c hc
        | bool => dsimp only at hb; rw [if_pos hc] at hb; cases hb; exact sf.kit3 "bool" (by decide) c hc
        | str => dsimp only at hb; rw [if_pos hc] at hb; cases hb; exact sf.kit3 "str" (by decide) c hc
        | list => dsimp only at hb; rw [if_pos hc] at hb; cases hb; exact sf.kit3 "list" (by decide) c hc
        | tuple => dsimp only at hb; rw [if_pos hc] at hb; cases hb; exact sf.kit3 "tuple" (by decide) c hc
        | dict => dsimp only at hb; rw [if_pos hc] at hb; cases hb; exact sf.kit3 "dict" (by decide) c hc
  cases x with
  | non =>
    obtain rfl : v = .non := rv
    exact ⟨_, .base .non, blt _ (by decide) (fun t' b' ht hb s hs => by cases t' <;> first | (cases ht; done) | (cases hb; cases hs; decide +kernel)) (own0 fun d => rfl)⟩
  | bl c =>
    obtain rfl : v = .bl c := rv
    exact ⟨_, .base (.bl c), blt _ (by decide) (fun t' b' ht hb s hs => by cases t' <;> first | (cases ht; done) | (cases hb; cases hs; decide +kernel)) (own0 fun d => rfl)⟩
  | int c =>
    obtain rfl : v = .int c := rv
    exact ⟨_, .base (.int c), blt _ (by decide) (fun t' b' ht hb s hs => by cases t' <;> first | (cases ht; done) | (cases hb; cases hs; decide +kernel)) (own0 fun d => rfl)⟩
  | str c =>
    obtain rfl : v = strV c := rv
    exact ⟨_, .base (.str _), blt _ (by decide) (fun t' b' ht hb s hs => by cases t' <;> first | (cases ht; done) | (cases hb; cases hs; decide +kernel)) (own0 fun d => rfl)⟩
  | tup xs =>
    obtain ⟨p, vs, rfl, q1, q2⟩ := rv
    exact ⟨_, sqT_ty q1, blt _ (by decide) (fun t' b' ht hb s hs => by cases t' <;> first | (cases ht; done) | (cases hb; cases hs; decide +kernel)) (own0 fun d => rfl)⟩
  | _ => exact gen fun t' => by cases t' <;> rfl
theorem tyAny_ok {adr : Nat → Nat → Addr} (sf : Sf X.K NM P adr) {f : Inj} {L : LH} {H : Hp} {x : LV} {v : V} (r : RelH X.K NM f L H) (rv : VR X.K NM f H x v) : ∀ (ts : List Ty) (b : Bool) (T : Value), (∀ t' b', tyOne P t' x L = some b' → PySem.W.kitOne X.K T (t'.u X.K NM) = some b') → tyAny P x L ts = some b → PySem.W.kitAny X.K T (ts.map (Ty.u X.K NM)) = some b
  | [], b, T, _, h => by cases h; rfl
  | t :: ts, b, T, hT, h => by
    unfold tyAny at h
    unfold PySem.W.kitAny
    show (match PySem.W.kitOne X.K T (t.u X.K NM) with
      | some true => some true
      | some false => PySem.W.kitAny X.K T (ts.map (Ty.u X.K NM))
      | none => none) = some b
    split at h
    · rename_i e
      rw [hT t true e]
      exact h
    · rename_i e
      rw [hT t false e]
      exact tyAny_ok sf r rv ts b T hT h
    · cases h
/-- a class's name, read -/
def CN (X : Cx) (NM : List Str) (e : Expr) (t : Ty) : Prop := PE X e (tC (t.v X.K NM))
theorem se_isi (F : Fc X NM W P G adr k) {e c : Expr} {t : Ty} {ea : E} {p pos : Pos} (hg : Gl X "isinstance") (hc : CN X NM c t) (hn : notStar e = true) (hn2 : notStar c = true) (he : SE X NM W e (den P G ea).e) : SE X NM W (.Call (.Name "isinstance" p) [e, c] [] pos) (den P G (.isi ea [t])).e := by
  refine pe_weak (pe_callB call_isi hg (F.mgn _ (by decide)) (by first | exact boot_isinstance | rfl) (pa_cons he (pa_cons hc pa_nil (star_head hn2)) (star_head hn)) (he := star_head hn) (hpl := by rw [star_head hn2]; rfl)) fun σ H Q h => ?_
  obtain ⟨f, l, L, hR, hS, h⟩ := h
  refine tR_bind hR hS h fun x L1 f1 H1 v e1 r1 s1 rv h1 => ?_
  have h1 : Aft X.K NM f1 H1 (match tyAny P x L1 [t] with
    | some b => .ok (.bl b) L1
    | none => .bad : R LV) _ _ := h1
  split at h1
  · rename_i b hb
    have hb : tyOne P t x L1 = some b := by
      unfold tyAny at hb
      split at hb
      · rename_i e; rw [e]; exact hb
      · rename_i e; rw [e]; exact hb
      · cases hb
    obtain ⟨T, q1, q2, _⟩ := tyOne_ok F.sf r1 rv hb
    exact ⟨v, t.v X.K NM, T, t.u X.K NM, b, rfl, Ty.cls _ _ t, q1, q2, Aft.here h1 r1 _ rfl⟩
  · exact h1.elim
/-- .. a written tuple of them -/
def CNs (X : Cx) (NM : List Str) : List Expr → List Ty → Prop
  | [], [] => True
  | e :: es, t :: ts => notStar e = true ∧ CN X NM e t ∧ CNs X NM es ts
  | _, _ => False
theorem pa_cns : ∀ {es : List Expr} {ts : List Ty}, CNs X NM es ts → PA X es (fun _ H Q => Q (ts.map (Ty.v X.K NM)) H)
  | [], [], _ => pa_nil
  | e :: es, t :: ts, h => pa_cons h.2.1 (pa_cns h.2.2) (star_head h.1)
theorem cls_pair (K : PySem.W.Frag) (NM : List Str) : ∀ ts : List Ty, Paired ClsV (ts.map (Ty.v K NM)) (ts.map (Ty.u K NM))
  | [] => .nil
  | t :: ts => .cons (Ty.cls K NM t) (cls_pair K NM ts)
theorem se_isiT (F : Fc X NM W P G adr k) {e : Expr} {cs : List Expr} {ts : List Ty} {kk : Nat} {ea : E} {p tp pos : Pos} (hg : Gl X "isinstance") (hc : CNs X NM cs ts) (hl : ts.length ≤ 100) (hne : ts ≠ []) (hn : notStar e = true) (he : SE X NM W e (den P G ea).e) :
    SE X NM W (.Call (.Name "isinstance" p) [e, .Tuple cs kk tp] [] pos) (den P G (.isi ea ts)).e := by
  refine pe_weak (pe_callB call_isiT hg (F.mgn _ (by decide)) (by first | exact boot_isinstance | rfl) (pa_cons he (pa_cons (pe_tup (pa_cns hc)) pa_nil) (star_head hn)) (he := star_head hn) (hpl := rfl)) fun σ H Q h => ?_
  obtain ⟨f, l, L, hR, hS, h⟩ := h
  refine tR_bind hR hS h fun x L1 f1 H1 v e1 r1 s1 rv h1 => ?_
  refine ⟨by rw [List.length_map, sizeLine_eq]; omega, fun q hq => ?_⟩
  have h1 : Aft X.K NM f1 H1 (match tyAny P x L1 ts with
    | some b => .ok (.bl b) L1
    | none => .bad : R LV) _ _ := h1
  split at h1
  · rename_i b hb
    have hQ : ∀ f' H', Ext f1 H1 f' H' → RelH X.K NM f' L1 H' → Q (.bl b) H' := fun f' H' e r => h1 f' H' e r _ rfl
    have rv' := VR.mono (Ext.put (u := .tup (ts.map (Ty.v X.K NM))) hq).mo _ _ rv
    have r' := r1.put (u := .tup (ts.map (Ty.v X.K NM))) hq
    cases ts with
    | nil => exact absurd rfl hne
    | cons t ts =>
      have hb1 : ∃ b1, tyOne P t x L1 = some b1 := by
        unfold tyAny at hb
        split at hb
        · exact ⟨_, ‹_›⟩
        · exact ⟨_, ‹_›⟩
        · cases hb
      obtain ⟨b1, hb1⟩ := hb1
      obtain ⟨T, q1, q2, q3⟩ := tyOne_ok F.sf r' rv' hb1
      exact ⟨v, q, _, T, _, b, rfl, upd_same, cls_pair X.K NM (t :: ts), q1, tyAny_ok F.sf r' rv' (t :: ts) b T q3 hb, hQ f1 _ (Ext.put hq) r'⟩
  · exact h1.elim
/-! ### f-strings -/
def SJ (X : Cx) (NM : List Str) (W : WX) (es : List Expr) (dn : List Nat → LS → LH → R (List Nat)) : Prop :=
  ∃ ts, PJ X es ts ∧ ∀ acc σ H (Q : Str → Hp → Prop), tR X.K NM (fun _ _ a b => b = (⟨a.toArray⟩ : Str)) W (dn acc) σ H Q → tJs ts ⟨acc.toArray⟩ σ H Q
theorem sj_nil : SJ X NM W [] (den P G .nil).fs := ⟨[], .nil, fun acc σ H Q h => by
  obtain ⟨f, l, L, hR, hS, h⟩ := h
  exact Aft.here h hR _ rfl⟩
theorem sj_cons {e : Expr} {es : List Expr} {a r : E} (he : SE X NM W e (den P G a).e) (hr : SJ X NM W es (den P G r).fs) : SJ X NM W (e :: es) (den P G (.cons a r)).fs := by
  obtain ⟨ts, h1, h2⟩ := hr
  refine ⟨_ :: ts, .cons he h1, fun acc σ H Q h => ?_⟩
  obtain ⟨f, l, L, hR, hS, h⟩ := h
  refine tR_bind hR hS h fun x L1 f1 H1 v e1 r1 s1 rv h1 => ?_
  cases x with
  | str s =>
    obtain rfl : v = strV s := rv
    have h1 : Aft X.K NM f1 H1 (if acc.length + s.length ≤ SL then (den P G r).fs (acc ++ s) l L1 else .bad : R (List Nat)) _ _ := h1
    split at h1
    · rename_i hz
      refine ⟨⟨s.toArray⟩, rfl, ?_, ?_⟩
      · rw [strV_cat, strV_len, List.length_append, ← SL_eq]; exact hz
      · rw [strV_cat]
        exact h2 (acc ++ s) σ H1 Q ⟨f1, l, L1, r1, s1, h1⟩
    · exact h1.elim
  | _ => exact h1.elim
theorem se_fst {v1 v2 : Expr} {rest : List Expr} {a : E} {pos : Pos} (h : SJ X NM W (v1 :: v2 :: rest) (den P G a).fs) : SE X NM W (.JoinedStr (v1 :: v2 :: rest) pos) (den P G (.fst a)).e := by
  obtain ⟨ts, h1, h2⟩ := h
  refine pe_weak (pe_joined h1) fun σ H Q h => ?_
  obtain ⟨f, l, L, hR, hS, h⟩ := h
  refine h2 [] σ H _ ?_
  refine tR_bind hR hS h fun x L1 f1 H1 v e1 r1 s1 rv h2 => ?_
  subst rv
  exact Aft.here h2 r1 _ rfl
theorem se_fmt {e : Expr} {a : E} {pos : Pos} (he : SE X NM W e (den P G a).e) : SE X NM W (.FormattedValue e (-1) none pos) (den P G (.fmt a)).e := by
  refine pe_weak (pe_fmt he) fun σ H Q h => ?_
  obtain ⟨f, l, L, hR, hS, h⟩ := h
  refine tR_bind hR hS h fun x L1 f1 H1 v e1 r1 s1 rv h1 => ?_
  cases x with
  | str s =>
    obtain rfl : v = strV s := rv
    have h1 : Aft X.K NM f1 H1 (if s.length ≤ SL then .ok (.str s) L1 else .bad : R LV) _ _ := h1
    split at h1
    · rename_i hz
      exact .inl ⟨⟨s.toArray⟩, rfl, by rw [strV_len, ← SL_eq]; exact hz, Aft.here h1 r1 _ rfl⟩
    · exact h1.elim
  | int i =>
    obtain rfl : v = .int i := rv
    have h1 : Aft X.K NM f1 H1 (if i.natAbs.log2 < 1920 then .ok (.str (intText i)) L1 else .bad : R LV) _ _ := h1
    split at h1
    · rename_i hz
      refine .inr ⟨i, rfl, hz, ?_⟩
      have q := Aft.here h1 r1 (strV (intText i)) rfl
      rw [show strV (intText i) = V.str (Str.ofString (toString i)) from congrArg V.str (intText_eq i)] at q
      exact q
    · exact h1.elim
  | _ => exact h1.elim
theorem se_fst1 {e : Expr} {dn : LS → LH → R LV} {pos : Pos} (he : SE X NM W e dn) : SE X NM W (.JoinedStr [e] pos) dn := pe_joined1 he
end
end PM

set_option Elab.async false
set_option linter.all false
set_option autoImplicit false
set_option maxHeartbeats 1000000
/-! # PMb: a call that sees only what it is given, and whose answer is only read -/
namespace PM
open PySem PySem.Spec PyProof.Rows
open L2 hiding St
section
variable {K : PySem.W.Frag} {NM : List Str} {j f : Inj} {H H' : Hp} {L L1 : LH}
/-- the places rs alone, counted from 0 -/
def sel (j : Inj) (rs : List Nat) : Inj := ⟨fun i => (rs[i]?).bind j.m, j.B, fun i p h => by
  cases e : rs[i]? with
  | none => rw [e] at h; cases h
  | some a => rw [e] at h; exact j.hb a p h⟩
theorem sel_at {rs : List Nat} {i : Nat} {p : Addr} (h : (sel j rs) i = some p) : ∃ a, rs[i]? = some a ∧ j a = some p := by
  have h : (rs[i]?).bind j.m = some p := h
  cases e : rs[i]? with
  | none => rw [e] at h; cases h
  | some a => rw [e] at h; exact ⟨a, rfl, h⟩
theorem sel_of {rs : List Nat} {i a : Nat} {p : Addr} (h : rs[i]? = some a) (h2 : j a = some p) : (sel j rs) i = some p := by
  show (rs[i]?).bind j.m = some p
  rw [h]
  exact h2
structure GoodRs (j : Inj) (rs : List Nat) : Prop where
  nd : rs.Nodup
  at_ : ∀ a ∈ rs, ∃ p, j a = some p
theorem sel_mo (rs t : List Nat) : Mo (sel j rs) H (sel j (rs ++ t)) H := ⟨fun i p h => by
  obtain ⟨a, h1, h2⟩ := sel_at h
  exact sel_of (by rw [List.getElem?_append_left (List.getElem?_eq_some_iff.mp h1).1]; exact h1) h2, fun _ _ h => h, fun _ _ _ h => h, fun _ _ h _ n => ⟨h, n⟩⟩
theorem argRef_ok {rs rs' : List Nat} {v v' : LV} {w : V} (g : GoodRs j rs) (r : VR K NM j H v w) (h : argRef rs v = some (v', rs')) : GoodRs j rs' ∧ (∃ t, rs' = rs ++ t) ∧ VR K NM (sel j rs') H v' w := by
  have pure : ∀ v : LV, VR K NM j H v w → (if noRef v then some (v, rs) else none) = some (v', rs') → GoodRs j rs' ∧ (∃ t, rs' = rs ++ t) ∧ VR K NM (sel j rs') H v' w := fun v r h => by
    split at h
    · rename_i n
      cases h
      exact ⟨g, ⟨[], by simp⟩, VR.mono (Mo.on (sel j rs) H) _ _ (show VR K NM (sel j rs).off H _ w from (VR.offN n r : VR K NM j.off H _ w))⟩
    · cases h
  cases v with
  | ref a =>
    obtain ⟨p, e1, e2⟩ := r
    have h : (if rs.contains a = true then some (LV.ref (rs.idxOf a), rs) else some (LV.ref rs.length, rs ++ [a])) = some (v', rs') := h
    split at h
    · rename_i hc
      cases h
      have hm : a ∈ rs := by simpa using hc
      refine ⟨g, ⟨[], by simp⟩, p, e1, sel_of (a := a) ?_ e2⟩
      rw [List.getElem?_eq_getElem (List.idxOf_lt_length_of_mem hm)]
      exact congrArg some (List.getElem_idxOf _)
    · rename_i hc
      cases h
      have hm : ¬ a ∈ rs := by simpa using hc
      refine ⟨⟨?_, fun b hb => ?_⟩, ⟨[a], rfl⟩, p, e1, sel_of (a := a) (by simp) e2⟩
      · rw [List.nodup_append]
        exact ⟨g.nd, by simp, fun x hx y hy z => hm (by
          rw [List.mem_singleton] at hy
          rw [← hy, ← z]
          exact hx)⟩
      · rcases List.mem_append.mp hb with hb | hb
        · exact g.at_ b hb
        · rw [List.mem_singleton] at hb
          rw [hb]
          exact ⟨p, e2⟩
  | _ => exact pure _ r h
theorem argRefs_ok : ∀ {vs vs' : List LV} {rs rs' : List Nat} {ws : List V}, GoodRs j rs → VRs K NM j H vs ws → argRefs rs vs = some (vs', rs') → GoodRs j rs' ∧ (∃ t, rs' = rs ++ t) ∧ VRs K NM (sel j rs') H vs' ws
  | [], vs', rs, rs', ws, g, r, h => by
    cases h
    exact ⟨g, ⟨[], by simp⟩, r⟩
  | v :: vs, vs', rs, rs', ws, g, r, h => by
    obtain ⟨w, ws, rfl, r1, r2⟩ := r
    unfold argRefs at h
    split at h
    · rename_i v1 rs1 e1
      split at h
      · rename_i vs2 rs2 e2
        cases h
        obtain ⟨g1, ⟨t1, q1⟩, x1⟩ := argRef_ok g r1 e1
        obtain ⟨g2, ⟨t2, q2⟩, x2⟩ := argRefs_ok g1 r2 e2
        refine ⟨g2, ⟨t1 ++ t2, by rw [q2, q1, List.append_assoc]⟩, w, ws, rfl, ?_, x2⟩
        rw [q2]
        exact VR.mono (sel_mo rs1 t2) _ _ x1
      · cases h
    · cases h
theorem FR.unzip : ∀ {fs : List (Nat × LV)} {gs : List (Str × V)}, FR K NM f H fs gs → ∃ vs, gs = ((fs.map (·.1)).map (nm NM)).zip vs ∧ VRs K NM f H (fs.map (·.2)) vs ∧ ∀ n ∈ fs.map (·.1), n < NM.length
  | [], gs, h => by
    obtain rfl : gs = [] := h
    exact ⟨[], rfl, VRs.nil, by simp⟩
  | (n, x) :: fs, gs, h => by
    obtain ⟨w, ws, rfl, hn, r1, r2⟩ := h
    obtain ⟨vs, e, r3, h3⟩ := FR.unzip r2
    refine ⟨w :: vs, by rw [e]; rfl, ⟨w, vs, rfl, r1, r3⟩, fun m hm => ?_⟩
    rw [List.map_cons] at hm
    cases hm with
    | head => exact hn
    | tail _ hm => exact h3 m hm
theorem zip_fs : ∀ fs : List (Nat × LV), (fs.map (·.1)).zip (fs.map (·.2)) = fs
  | [] => rfl
  | q :: fs => by rw [List.map_cons, List.map_cons, List.zip_cons_cons, zip_fs fs]
theorem OR.offN {p : Addr} {o : LO} (n : objOk o = true) (h : OR K NM f H p o) : OR K NM f.off H p o := by
  cases o with
  | lst xs =>
    obtain ⟨vs, a, b⟩ := h
    exact ⟨vs, a, VRs.offN n b⟩
  | ins c fs =>
    obtain ⟨dx, gs, a, b⟩ := h
    obtain ⟨vs, e, r, hn⟩ := FR.unzip b
    refine ⟨dx, gs, a, ?_⟩
    have q := fr_zipN (NM := NM) (K := K) (f := f.off) (by simp) hn (VRs.offN n r)
    rw [e]
    rw [zip_fs] at q
    exact q
  | dic kvs => exact h
theorem optAll_get {α β : Type} {g : α → Option β} : ∀ {xs : List α} {ys : List β}, optAll g xs = some ys → xs.length = ys.length ∧ ∀ (i : Nat) (y : β), ys[i]? = some y → ∃ x, xs[i]? = some x ∧ g x = some y
  | [], ys, h => by cases h; exact ⟨rfl, fun i y h => by simp at h⟩
  | x :: xs, ys, h => by
    unfold optAll at h
    split at h
    · rename_i d ds h1 h2
      cases h
      obtain ⟨l, q⟩ := optAll_get h2
      refine ⟨by simp [l], fun i y hy => ?_⟩
      cases i with
      | zero => simp at hy; subst hy; exact ⟨x, by simp, h1⟩
      | succ i => simp at hy; obtain ⟨z, z1, z2⟩ := q i y hy; exact ⟨z, by simpa using z1, z2⟩
    · cases h
theorem sel_rel {rs : List Nat} {L0 : LH} (r : RelH K NM j L H) (g : GoodRs j rs) (h : objs L rs = some L0) : RelH K NM (sel j rs) L0 H := by
  obtain ⟨hl, hg⟩ := optAll_get h
  refine ⟨fun a b p h1 h2 => ?_, fun a p h1 => ?_, fun i o ho => ?_, r.bn, r.tab⟩
  · obtain ⟨x, x1, x2⟩ := sel_at h1
    obtain ⟨y, y1, y2⟩ := sel_at h2
    have e := r.inj x y p x2 y2
    subst e
    exact (List.getElem?_inj (List.getElem?_eq_some_iff.mp x1).1 g.nd).mp (x1.trans y1.symm)
  · obtain ⟨x, x1, _⟩ := sel_at h1
    rw [← hl]
    exact (List.getElem?_eq_some_iff.mp x1).1
  · obtain ⟨a, a1, a2⟩ := hg i o ho
    split at a2
    · rename_i o' e
      split at a2
      · rename_i ok
        cases a2
        obtain ⟨p, p1, p2⟩ := r.obj a _ e
        exact ⟨p, sel_of a1 p1, (OR.offN ok p2).mono (Mo.on (sel j rs) H) rfl⟩
      · cases a2
    · cases a2
theorem wb_ok {L : LH} : ∀ {rs : List Nat} {L1 L' : LH}, rs.Nodup → wb L rs L1 = some L' → L'.length = L.length ∧ (∀ a : Nat, ¬ a ∈ rs → L'[a]? = L[a]?) ∧ ∀ i a : Nat, rs[i]? = some a → a < L.length → ∃ o, L1[i]? = some o ∧ objOk o = true ∧ L'[a]? = some o
  | [], L1, L', _, h => by cases h; exact ⟨rfl, fun _ _ => rfl, fun i a h => by simp at h⟩
  | a :: rs, [], L', _, h => by cases h
  | a :: rs, o :: L1, L', nd, h => by
    unfold wb at h
    rw [List.nodup_cons] at nd
    split at h
    · rename_i ok
      cases e : wb L rs L1 with
      | none => rw [e] at h; cases h
      | some L2 =>
        rw [e] at h
        cases h
        obtain ⟨h1, h2, h3⟩ := wb_ok nd.2 e
        refine ⟨by simp [h1], fun b hb => ?_, fun i b hb hl => ?_⟩
        · rw [List.mem_cons, not_or] at hb
          rw [List.getElem?_set_ne (Ne.symm hb.1)]
          exact h2 b hb.2
        · cases i with
          | zero =>
            simp at hb
            subst hb
            exact ⟨o, by simp, ok, by rw [List.getElem?_set_self (by rw [h1]; exact hl)]⟩
          | succ i =>
            simp at hb
            obtain ⟨u, u1, u2, u3⟩ := h3 i b hb hl
            refine ⟨u, by simpa using u1, u2, ?_⟩
            rw [List.getElem?_set_ne]
            · exact u3
            · rintro rfl
              exact nd.1 (List.mem_of_getElem? hb)
    · cases h
/-- the heap behind the call, as the caller sees it -/
theorem back_ext {rs : List Nat} (e : Ext (sel j rs) H f H') : Ext j H j H' where
  sub := fun _ _ h => h
  new := fun _ _ h => .inl h
  keep := e.keep
  fr := fun q o h t n => e.fr q o h t fun i z => by
    obtain ⟨a, _, a2⟩ := sel_at z
    exact n a a2
  tup := e.tup
  frz := e.frz
  bs := fun _ h => h
  bw := fun _ h => .inl h
theorem back_mo {rs : List Nat} (e : Ext (sel j rs) H f H') : Mo f.off H' j.off H' := ⟨fun _ _ h => (nomatch h), fun _ _ h => h, fun _ _ _ h => h, fun q o h _ n => ⟨h, fun b => n (e.bs q b)⟩⟩
theorem back_rel {rs : List Nat} {L' : LH} (r : RelH K NM j L H) (g : GoodRs j rs) (e : Ext (sel j rs) H f H') (r1 : RelH K NM f L1 H') (h : wb L rs L1 = some L') : RelH K NM j L' H' := by
  obtain ⟨w1, w2, w3⟩ := wb_ok g.nd h
  refine ⟨r.inj, fun a p q => by rw [w1]; exact r.dom a p q, fun a o ho => ?_, fun p q => e.keep p (r.bn p q), r1.tab⟩
  by_cases hm : a ∈ rs
  · obtain ⟨p, hp⟩ := g.at_ a hm
    obtain ⟨i, hi, ei⟩ := List.getElem_of_mem hm
    have ei : rs[i]? = some a := by rw [List.getElem?_eq_getElem hi, ei]
    obtain ⟨o', o1, o2, o3⟩ := w3 i a ei (r.dom a p hp)
    rw [ho] at o3
    cases o3
    obtain ⟨p', p1, p2⟩ := r1.obj i _ o1
    have := e.sub i p (sel_of ei hp)
    rw [p1] at this
    cases this
    refine ⟨_, hp, ?_⟩
    have q := (OR.offN o2 p2).mono (back_mo e) rfl
    exact q.mono (Mo.on j H') rfl
  · rw [w2 a hm] at ho
    obtain ⟨p, p1, p2⟩ := r.obj a o ho
    refine ⟨p, p1, p2.mono (back_ext e).mo ?_⟩
    cases q : H p with
    | none => exact absurd q (r.there p1)
    | some u =>
      have hmp := r.mpd p1
      exact e.fr p u q (fun ps z => by rw [q, z] at hmp; exact hmp) fun i z => by
        obtain ⟨b, b1, b2⟩ := sel_at z
        have := r.inj a b p p1 b2
        subst this
        exact hm (List.mem_of_getElem? b1)
/-- what is only read from here on -/
theorem frI_ok {rs : List Nat} (r : RelH K NM j L H) (e : Ext (sel j rs) H f H') (r1 : RelH K NM f L1 H') : ∀ (n : Nat) (v v' : LV) (w : V), VR K NM f H' v w → frI L1 rs.length n v = some v' → VR K NM j.off H' v' w
  | 0, _, _, _, _, h => by cases h
  | n + 1, v, v', w, rv, h => by
    have all : ∀ (xs ys : List LV) (ws : List V), VRs K NM f H' xs ws → optAll (frI L1 rs.length n) xs = some ys → VRs K NM j.off H' ys ws := fun xs => by
      induction xs with
      | nil =>
        intro ys ws q h
        cases h
        exact q
      | cons x xs ih =>
        intro ys ws q h
        obtain ⟨u, us, rfl, q1, q2⟩ := q
        unfold optAll at h
        split at h
        · rename_i d ds h1 h2
          cases h
          exact ⟨u, us, rfl, frI_ok r e r1 n x d u q1 h1, ih ds us q2 h2⟩
        · cases h
    have same : noRef v = true → frI L1 rs.length (n + 1) v = some v → VR K NM j.off H' v' w := fun hn he => by
      rw [he] at h
      cases h
      exact VR.mono (back_mo e) _ _ (VR.offN hn rv)
    cases v with
    | tup xs =>
      obtain ⟨p, vs, e1, e2, e3⟩ := rv
      have h : (optAll (frI L1 rs.length n) xs).map LV.tup = some v' := h
      cases q : optAll (frI L1 rs.length n) xs with
      | none => rw [q] at h; cases h
      | some ys => rw [q] at h; cases h; exact ⟨p, vs, e1, e2, all xs ys vs e3 q⟩
    | ref a =>
      have h : (if a < rs.length then none else match L1[a]? with
        | some (.lst xs) => (optAll (frI L1 rs.length n) xs).map LV.fz
        | some (.ins c fs) => (optAll (frI L1 rs.length n) (fs.map (·.2))).map (LV.obj c (fs.map (·.1)))
        | _ => none) = some v' := h
      split at h
      · cases h
      · rename_i hl
        obtain ⟨p, e1, e2⟩ := rv
        have nb : ¬ j.B p := fun b => by
          rcases e.new a p e2 with z | z
          · obtain ⟨_, z1, _⟩ := sel_at z
            exact hl (List.getElem?_eq_some_iff.mp z1).1
          · exact z (r.bn p b)
        split at h
        · rename_i xs hx
          obtain ⟨p', vs, e3, e4, e5, e6⟩ := lst_at (x := .ref p) r1 ⟨p, rfl, e2⟩ hx
          cases e3
          cases q : optAll (frI L1 rs.length n) xs with
          | none => rw [q] at h; cases h
          | some ys => rw [q] at h; cases h; exact ⟨p, vs, e1, ⟨e5, nb⟩, all xs ys vs e6 q⟩
        · rename_i c fs hx
          obtain ⟨p', dx, gs, e3, e4, e5, e6⟩ := insR_at (x := .ref p) r1 ⟨p, rfl, e2⟩ hx
          cases e3
          obtain ⟨vs, e7, e8, e9⟩ := FR.unzip e6
          cases q : optAll (frI L1 rs.length n) (fs.map (·.2)) with
          | none => rw [q] at h; cases h
          | some ys =>
            rw [q] at h
            cases h
            exact ⟨p, dx, vs, e1, by rw [e5, e7], nb, by rw [← (optAll_get q).1]; simp, e9, all _ ys vs e8 q⟩
        · cases h
    | dct _ _ => exact rv.elim
    | clo _ _ => exact rv.elim
    | _ => exact same rfl rfl
theorem frO_ok {rs : List Nat} (r : RelH K NM j L H) (e : Ext (sel j rs) H f H') (r1 : RelH K NM f L1 H') (g : GoodRs j rs) : ∀ (n : Nat) (v v' : LV) (w : V), VR K NM f H' v w → frO L1 rs n v = some v' → VR K NM j H' v' w
  | 0, _, _, _, _, h => by cases h
  | n + 1, v, v', w, rv, h => by
    have all : ∀ (xs ys : List LV) (ws : List V), VRs K NM f H' xs ws → optAll (frO L1 rs n) xs = some ys → VRs K NM j H' ys ws := fun xs => by
      induction xs with
      | nil =>
        intro ys ws q h
        cases h
        exact q
      | cons x xs ih =>
        intro ys ws q h
        obtain ⟨u, us, rfl, q1, q2⟩ := q
        unfold optAll at h
        split at h
        · rename_i d ds h1 h2
          cases h
          exact ⟨u, us, rfl, frO_ok r e r1 g n x d u q1 h1, ih ds us q2 h2⟩
        · cases h
    have same : noRef v = true → frO L1 rs (n + 1) v = some v → VR K NM j H' v' w := fun hn he => by
      rw [he] at h
      cases h
      exact VR.mono (Mo.on j H') _ _ (VR.mono (back_mo e) _ _ (VR.offN hn rv))
    cases v with
    | tup xs =>
      obtain ⟨p, vs, e1, e2, e3⟩ := rv
      have h : (optAll (frO L1 rs n) xs).map LV.tup = some v' := h
      cases q : optAll (frO L1 rs n) xs with
      | none => rw [q] at h; cases h
      | some ys => rw [q] at h; cases h; exact ⟨p, vs, e1, e2, all xs ys vs e3 q⟩
    | ref a =>
      have h : (if a < rs.length then rs[a]?.map LV.ref else frI L1 rs.length (n + 1) (.ref a)) = some v' := h
      split at h
      · rename_i hl
        rw [List.getElem?_eq_getElem hl] at h
        cases h
        obtain ⟨p, e1, e2⟩ := rv
        obtain ⟨p', hp⟩ := g.at_ rs[a] (List.getElem_mem hl)
        have := e.sub a p' (sel_of (List.getElem?_eq_getElem hl) hp)
        rw [e2] at this
        cases this
        exact ⟨p, e1, hp⟩
      · exact VR.mono (Mo.on j H') _ _ (frI_ok r e r1 (n + 1) _ v' w rv h)
    | dct _ _ => exact rv.elim
    | clo _ _ => exact rv.elim
    | _ => exact same rfl rfl
theorem frX_ok {rs : List Nat} {x x' : LX} (r : RelH K NM j L H) (e : Ext (sel j rs) H f H') (r1 : RelH K NM f L1 H') (h : frX L1 rs.length x = some x') {cls : Value} {d : Option Addr} (hx : XR K NM f H' x cls d) : XR K NM j H' x' cls d := by
  unfold frX at h
  cases q : optAll (frI L1 rs.length 60) (x.fs.map (·.2)) with
  | none => rw [q] at h; cases h
  | some ys =>
    rw [q] at h
    cases h
    obtain ⟨x1, dd, gs, x2, x3, x5, x4⟩ := hx
    obtain ⟨vs, e7, e8, e9⟩ := FR.unzip x4
    refine ⟨x1, dd, gs, x2, x3, fun z => x5 (e.bs dd z), ?_⟩
    have all : ∀ (xs ys : List LV) (ws : List V), VRs K NM f H' xs ws → optAll (frI L1 rs.length 60) xs = some ys → VRs K NM j.off H' ys ws := fun xs => by
      induction xs with
      | nil =>
        intro ys ws q h
        cases h
        exact q
      | cons x xs ih =>
        intro ys ws q h
        obtain ⟨u, us, rfl, q1, q2⟩ := q
        unfold optAll at h
        split at h
        · rename_i d ds h1 h2
          cases h
          exact ⟨u, us, rfl, frI_ok r e r1 60 x d u q1 h1, ih ds us q2 h2⟩
        · cases h
    rw [e7]
    exact fr_zipN (by rw [← (optAll_get q).1]; simp) e9 (all _ ys vs e8 q).on
theorem aft_bnd {run : List LV → List (Nat × LV) → LH → R LV} {xs : List LV} {kxs : List (Nat × LV)} {vs : List V} {kv : List (Str × V)} {Q : V → Hp → Prop} {E : Value → Option Addr → Hp → Prop} (hR : RelH K NM j L H) (rv : VRs K NM j H xs vs) (rk : FR K NM j H kxs kv)
    (h : Aft K NM j H (bnd run xs kxs L) (fun a f' H' => ∀ v, VR K NM f' H' a v → Q v H') (fun x f' H' => ∀ cls d, XR K NM f' H' x cls d → E cls d H')) :
    ∃ j' L' xs' kxs', RelH K NM j' L' H ∧ VRs K NM j' H xs' vs ∧ FR K NM j' H kxs' kv ∧ Aft K NM j' H (run xs' kxs' L') (fun a f' H' => ∀ v, VR K NM f' H' a v → Q v H') (fun x f' H' => ∀ cls d, XR K NM f' H' x cls d → E cls d H') := by
  unfold bnd at h
  split at h
  · exact h.elim
  · rename_i vs' rs e1
    split at h
    · exact h.elim
    · rename_i ws' rs' e2
      split at h
      · exact h.elim
      · rename_i L0 e3
        obtain ⟨g1, ⟨t1, q1⟩, x1⟩ := argRefs_ok ⟨List.nodup_nil, by simp⟩ rv e1
        obtain ⟨us, e7, e8, e9⟩ := FR.unzip rk
        obtain ⟨g2, ⟨t2, q2⟩, x2⟩ := argRefs_ok g1 e8 e2
        have R0 := sel_rel hR g2 e3
        refine ⟨sel j rs', L0, vs', (kxs.map (·.1)).zip ws', R0, by rw [q2]; exact VRs.mono (sel_mo rs t2) _ _ x1, ?_, ?_⟩
        · rw [e7]
          exact fr_zipN (by have l1 := x2.length; have l2 := e8.length; simp at l2 ⊢; omega) e9 x2
        · cases q : run vs' ((kxs.map (·.1)).zip ws') L0 with
          | bad => rw [q] at h; exact h.elim
          | ok v L1 =>
            rw [q] at h
            dsimp only at h
            split at h
            · rename_i v' L' f1 f2
              intro f' H' e r1 w rw'
              exact h j H' (back_ext e) (back_rel hR g2 e r1 f2) w (frO_ok hR e r1 g2 60 v v' w rw' f1)
            · exact h.elim
          | exc x L1 =>
            rw [q] at h
            dsimp only at h
            split at h
            · rename_i x' L' f1 f2
              intro f' H' e r1 cls d hx
              exact h j H' (back_ext e) (back_rel hR g2 e r1 f2) cls d (frX_ok hR e r1 f1 hx)
            · exact h.elim
end
end PM

set_option Elab.async false
set_option linter.all false
set_option autoImplicit false
set_option maxHeartbeats 1000000
/-! # PM14: calls of own functions, classes, methods -/
namespace PM
open PySem PySem.Spec PyProof.Rows
open L2 hiding St
section
variable {X : Cx} {NM : List Str} {W : WX} {P : PM.Prog} {G : Gam} {adr : Nat → Nat → Addr} {k : Nat}
/-! ### keywords -/
abbrev SK (X : Cx) (NM : List Str) (W : WX) (kws : List Keyword) (dn : LS → LH → R (List LV)) : Prop := PK X kws (tR X.K NM (VRs X.K NM) W dn)
theorem pk_weak {e : List Keyword} {t t' : TA} (h : PK X e t') (i : ∀ σ H Q, t σ H Q → t' σ H Q) : PK X e t := ⟨fun pos pins s σ H Q I q => h.run pos pins s σ H Q I (i σ H Q q)⟩
theorem sk_nil : SK X NM W [] (den P G .nil).es := by
  refine pk_weak pk_nil fun σ H Q h => ?_
  obtain ⟨f, l, L, hR, hS, h⟩ := h
  exact Aft.here h hR [] VRs.nil
theorem sk_cons {e : Expr} {kws : List Keyword} {x : Option Str} {a r : E} {kp : Pos} (he : SE X NM W e (den P G a).e) (hr : SK X NM W kws (den P G r).es) : SK X NM W (⟨x, e, kp⟩ :: kws) (den P G (.cons a r)).es := by
  refine pk_weak (pk_cons he hr) fun σ H Q h => ?_
  obtain ⟨f, l, L, hR, hS, h⟩ := h
  refine tR_bind hR hS h fun x L1 f1 H1 v e1 r1 s1 rv h1 => ?_
  refine tR_bind r1 s1 h1 fun xs L2 f2 H2 vs e2 r2 s2 rvs h2 => ?_
  exact Aft.here h2 r2 (v :: vs) (VRs.cons (VR.mono e2.mo _ _ rv) rvs)
/-- the keywords' names -/
def kwN : List Keyword → Option (List Str)
  | [] => some []
  | ⟨some x, _, _⟩ :: r => (kwN r).map (x :: ·)
  | _ => none
theorem kw_ok {env : Env} {pos : Pos} : ∀ {kws : List Keyword} {ns : List Str}, kwN kws = some ns → (backToKw pos (keywordEach kws env)).all (·.1.isSome) = true ∧ (backToKw pos (keywordEach kws env)).filterMap (·.1) = ns ∧ (backToKw pos (keywordEach kws env)).any (·.1.isNone) = false
  | [], ns, h => by cases h; exact ⟨rfl, rfl, rfl⟩
  | ⟨none, _, _⟩ :: r, ns, h => by cases h
  | ⟨some x, e, p⟩ :: r, ns, h => by
    have h : (kwN r).map (x :: ·) = some ns := h
    cases q : kwN r with
    | none => rw [q] at h; cases h
    | some ms =>
      rw [q] at h
      cases h
      obtain ⟨h1, h2, h3⟩ := kw_ok (env := env) (pos := pos) q
      refine ⟨?_, ?_, ?_⟩
      · show (true && (backToKw pos (keywordEach r env)).all (·.1.isSome)) = true
        rw [h1]; rfl
      · show x :: (backToKw pos (keywordEach r env)).filterMap (·.1) = x :: ms
        rw [h2]
      · show (false || (backToKw pos (keywordEach r env)).any (·.1.isNone)) = false
        rw [h3]; rfl
/-- the arguments' shapes that are served: plain ones with keywords; plain ones and a star behind; a lone star -/
inductive Shp where
  | pl | st2 | st1
def starIn : List Expr → Bool
  | [] => false
  | e :: es => !notStar e || starIn es
theorem star_any2 : ∀ {es : List Expr} {env : Env} {pos : Pos}, starIn es = true → (backTo pos (starEach es env)).any (·.1) = true
  | [], _, _, h => by cases h
  | e :: es, env, pos, h => by
    cases q : notStar e with
    | true =>
      rw [star_head q]
      have h : (!notStar e || starIn es) = true := h
      rw [q] at h
      show (false || (backTo pos (starEach es env)).any (·.1)) = true
      rw [star_any2 h]; rfl
    | false =>
      cases e <;> first | (cases q; done) | rfl
def shpOf (es : List Expr) (kws : List Keyword) : Option Shp :=
  if es.all notStar then some .pl else match es, kws with
    | [.Starred _ _], [] => some .st1
    | e :: r, [] => if notStar e && starIn r then some .st2 else none
    | _, _ => none
theorem sa_star {e : Expr} {es : List Expr} {a r : E} {p : Pos} (he : SE X NM W e (den P G a).e) (hr : SA X NM W es (den P G r).es) : SA X NM W (.Starred e p :: es) (den P G (.star a r)).es := by
  refine pa_weak (StX.pa_star he hr) fun σ H Q h => ?_
  obtain ⟨f, l, L, hR, hS, h⟩ := h
  refine tR_bind hR hS h fun x L1 f1 H1 v e1 r1 s1 rv h1 => ?_
  split at h1
  · rename_i xs hx
    obtain ⟨q, vs, rfl, q1, q2⟩ := seqOf_ok r1 rv hx
    refine ⟨q, vs, rfl, q1.symm, ?_⟩
    refine tR_bind r1 s1 h1 fun ys L2 f2 H2 ws e2 r2 s2 rws h2 => ?_
    exact Aft.here h2 r2 _ ((VRs.mono e2.mo _ _ q2).append rws)
  · exact h1.elim
/-- the call of a value that stays, with these arguments -/
theorem callW {f : Value} {first : List Value} {es : List Expr} {kws : List Keyword} {ea ek : E} {ns : List Str} {sh : Shp} {pos : Pos} {pins : List (Addr × Obj)} {s : Shared} {σ : St} {H : Hp} {Q : Value → Shared → Prop} {C : List V → List V → Hp → Prop}
    (hk : PySem.W.keepIn X.K f = true) (hes : SA X NM W es (den P G ea).es) (hkw : SK X NM W kws (den P G ek).es) (hn : kwN kws = some ns) (hsh : shpOf es kws = some sh) (hea : es = [] → ea = .nil) (hek : kws = [] → ek = .nil)
    (hst : ∀ e p, es = [.Starred e p] → ∃ a, ea = .star a .nil ∧ SE X NM W e (den P G a).e) (I : Inv X pins σ H s)
    (h : tR X.K NM (VRs X.K NM) W (den P G ea).es σ H (fun vs H1 => tR X.K NM (VRs X.K NM) W (den P G ek).es σ H1 (fun zs H2 => C vs zs H2)))
    (hc : ∀ us ws vs zs s2 H2, Inv X pins σ H2 s2 → Vals vs us → Vals zs ws → C vs zs H2 → wpAny (model X.prog X.w) X.A (call f (first ++ us) (ns.zip ws)) Q X.xe s2) :
    wpAny (model X.prog X.w) X.A (callWith pos f first (backTo pos (starEach es X.env)) (backToKw pos (keywordEach kws X.env))) Q X.xe s := by
  have nokw : kws = [] → ns = [] ∧ ∀ vs H1, tR X.K NM (VRs X.K NM) W (den P G ek).es σ H1 (fun zs H2 => C vs zs H2) → C vs [] H1 := fun e => by
    subst e
    rw [hek rfl]
    refine ⟨by cases hn; rfl, fun vs H1 h => ?_⟩
    obtain ⟨f, l, L, hR, hS, h⟩ := h
    exact Aft.here h hR [] VRs.nil
  have noes : es = [] → tR X.K NM (VRs X.K NM) W (den P G ek).es σ H (fun zs H2 => C [] zs H2) := fun e => by
    rw [hea e] at h
    obtain ⟨f, l, L, hR, hS, h⟩ := h
    exact Aft.here h hR [] VRs.nil
  obtain ⟨k1, k2, k3⟩ := kw_ok (env := X.env) (pos := pos) hn
  unfold shpOf at hsh
  split at hsh
  · rename_i hpl
    cases es with
    | nil =>
      have h0 := noes rfl
      cases kws with
      | nil =>
        obtain ⟨n1, n2⟩ := nokw rfl
        subst n1
        exact PySem.W.callWith_K0 I.kIn hk (hc [] [] [] [] s H I .nil .nil (n2 _ _ h0))
      | cons kw kws =>
        refine PySem.W.callWith_KW0 (h₀ := X.base) I.ok.mod.kin hk k1 (thn (hkw.run pos pins s σ H _ I h0) fun ws s2 ⟨zs, H2, I2, rz, q2⟩ => ⟨I2.kIn, ?_⟩) (by rw [k3]; rfl)
        rw [k2]
        exact hc [] ws [] zs s2 H2 I2 .nil rz q2
    | cons e es =>
      have hpl2 : notStar e = true ∧ es.all notStar = true := by rw [List.all_cons, Bool.and_eq_true] at hpl; exact hpl
      cases kws with
      | nil =>
        obtain ⟨n1, n2⟩ := nokw rfl
        subst n1
        refine PySem.W.callWith_K (h₀ := X.base) I.ok.mod.kin hk (thn (hes.run pos pins s σ H _ I h) fun us s1 ⟨vs, H1, I1, r1, q1⟩ => ⟨I1.kIn, ?_⟩) (star_head hpl2.1) (plain_all hpl2.2)
        exact hc us [] vs [] s1 H1 I1 r1 .nil (n2 _ _ q1)
      | cons kw kws =>
        refine PySem.W.callWith_KW (h₀ := X.base) I.ok.mod.kin hk k1 (thn (hes.run pos pins s σ H _ I h) fun us s1 ⟨vs, H1, I1, r, q⟩ => ?_) (by rw [plain_all hpl, k3]; rfl) (star_head hpl2.1)
        refine thn (hkw.run pos pins s1 σ H1 _ I1 q) fun ws s2 ⟨zs, H2, I2, rz, q2⟩ => ⟨I2.kIn, ?_⟩
        rw [k2]
        exact hc us ws vs zs s2 H2 I2 r rz q2
  · split at hsh
    · rename_i e p hpl
      obtain ⟨n1, n2⟩ := nokw rfl
      subst n1
      obtain ⟨a, rfl, ha⟩ := hst e p rfl
      refine PySem.W.callWith_S (h₀ := X.base) I.ok.mod.kin hk ?_
      obtain ⟨f1, l, L, hR, hS, h⟩ := h
      refine thn (ha.run pins s σ H (fun v H1 => ∃ a xs, v = V.ref a ∧ (SqT X.K H1 a xs ∨ SqL X.K H1 a xs) ∧ C xs [] H1) I (tR_bind hR hS h fun x L1 f2 H1 v e1 r1 s1 rv h1 => ?_)) fun v s1 ⟨y, H1, I1, ry, b, xs, ey, hx, q⟩ => ?_
      · split at h1
        · rename_i xs hx
          obtain ⟨q, vs, rfl, q1, q2⟩ := seqOf_ok r1 rv hx
          refine ⟨q, vs, rfl, q1.symm, n2 _ _ ?_⟩
          have h1 : Aft X.K NM f2 H1 (.ok (xs ++ []) L1 : R (List LV)) _ _ := h1
          exact Aft.here h1 r1 vs (by rw [List.append_nil]; exact q2)
        · exact h1.elim
      · subst ey
        obtain rfl : v = Value.ref b := ry
        exact StX.star_any I1 hx fun us s2 I2 rv => ⟨I2.kIn, hc us [] xs [] s2 H1 I2 rv .nil q⟩
    · rename_i e r hno hpl
      split at hsh
      · rename_i hb
        rw [Bool.and_eq_true] at hb
        obtain ⟨n1, n2⟩ := nokw rfl
        subst n1
        refine PySem.W.callWith_S2 (h₀ := X.base) I.ok.mod.kin hk (thn (hes.run pos pins s σ H _ I h) fun us s1 ⟨vs, H1, I1, r1, q1⟩ => ⟨I1.kIn, ?_⟩) (star_head hb.1) (star_any2 hb.2)
        exact hc us [] vs [] s1 H1 I1 r1 .nil (n2 _ _ q1)
      · cases hsh
    · cases hsh
/-- keywords: by their ids -/
theorem zipK_ok {K : PySem.W.Frag} {f : Inj} {H : Hp} : ∀ {ks : List Nat} {xs : List LV} {zs : List V} {kxs : List (Nat × LV)}, (∀ i ∈ ks, i < NM.length) → zipK ks xs = some kxs → VRs K NM f H xs zs → FR K NM f H kxs ((ks.map (nm NM)).zip zs)
  | [], [], zs, kxs, _, h, r => by
    cases h
    obtain rfl : zs = [] := r
    rfl
  | i :: ks, x :: xs, zs, kxs, hl, h, r => by
    obtain ⟨w, ws, rfl, r1, r2⟩ := r
    have h : (zipK ks xs).map ((i, x) :: ·) = some kxs := h
    cases q : zipK ks xs with
    | none => rw [q] at h; cases h
    | some ms =>
      rw [q] at h
      cases h
      exact ⟨w, _, rfl, hl i (List.mem_cons_self ..), r1, zipK_ok (fun j hj => hl j (List.mem_cons_of_mem _ hj)) q r2⟩
  | [], _ :: _, _, _, _, h, _ => by cases h
  | _ :: _, [], _, _, _, h, _ => by cases h
theorem kv_zip {zs : List V} {ws : List Value} (r : Vals zs ws) : ∀ ns : List Str, KV (ns.zip zs) (ns.zip ws) := by
  induction r with
  | nil => intro ns; cases ns <;> exact .nil
  | cons r _ ih =>
    intro ns
    cases ns with
    | nil => exact .nil
    | cons n ns => exact .cons ⟨rfl, r⟩ (ih ns)
/-- a new instance -/
theorem run_make0 (F : Fc X NM W P G adr k) {c : Nat} {pins : List (Addr × Obj)} {σ : St} {H : Hp} {s : Shared} {Q : VK} {us : List Value} {vs : List V} {kw : List (Str × Value)} {kv : List (Str × V)} {g : Inj} {L : LH} {as : List LV} {kxs : List (Nat × LV)} (hc : P.isCls c = true)
    (I : Inv X pins σ H s) (r : Vals vs us) (rk : KV kv kw) (hR : RelH X.K NM g L H) (ra : VRs X.K NM g H as vs) (rkx : FR X.K NM g H kxs kv)
    (h : Aft X.K NM g H (make0 P G c as kxs L) (fun a f' H' => ∀ v, VR X.K NM f' H' a v → Q v H') (Wx X.K NM W σ)) : wpAny (model X.prog X.w) X.A (call (.ref (gad X.K NM c)) us kw) (EP X pins σ Q) X.xe s := by
  unfold make0 at h
  split at h
  · rename_i d hd
    have M := F.sf.mkc c d hc hd
    have h0 : H s.heap.objs.size = none := I.hok.fresh (Nat.le_refl _)
    have h1 : H (s.heap.objs.size + 1) = none := I.hok.fresh (Nat.le_succ _)
    have I2 := Inv.made (C := gad X.K NM c) I
    have p1 := Ext.put (f := g) (u := .own (s.heap.objs.size + 1)) h0
    have q1 := hR.put (u := .own (s.heap.objs.size + 1)) h0
    have h1' : upd H s.heap.objs.size (.own (s.heap.objs.size + 1)) (s.heap.objs.size + 1) = none := by rw [upd_ne (Nat.succ_ne_self _)]; exact h1
    have p2 := Ext.put (f := g) (u := .ins (gad X.K NM c) s.heap.objs.size []) h1'
    have q2 := q1.put (u := .ins (gad X.K NM c) s.heap.objs.size []) h1'
    have e := p1.trans p2
    have E2 := Ext.add hR h1 e
    have R2 := RelH.add hR h1 e (fun q z => (upd_keep h1' q ((upd_keep h0 q z).symm ▸ z)).trans (upd_keep h0 q z)) (o := .ins c []) ⟨s.heap.objs.size, [], upd_same, rfl⟩
    have hx : VR X.K NM (fadd g L.length (s.heap.objs.size + 1)) (upd (upd H s.heap.objs.size (.own (s.heap.objs.size + 1))) (s.heap.objs.size + 1) (.ins (gad X.K NM c) s.heap.objs.size [])) (.ref L.length) (.ref (s.heap.objs.size + 1)) := ⟨_, rfl, fadd_self⟩
    have h2 : Aft X.K NM (fadd g L.length (s.heap.objs.size + 1)) (upd (upd H s.heap.objs.size (.own (s.heap.objs.size + 1))) (s.heap.objs.size + 1) (.ins (gad X.K NM c) s.heap.objs.size [])) (G d kInit (.ref L.length :: as) kxs (L ++ [.ins c []]))
        (fun a f' H' => ∀ v, VR X.K NM f' H' a v → v = .non ∧ Q (.ref (s.heap.objs.size + 1)) H') (Wx X.K NM W σ) := by
      have h := Aft.ext h E2
      cases q : G d kInit (.ref L.length :: as) kxs (L ++ [.ins c []]) with
      | ok r L1 =>
        rw [q] at h
        intro f' H' e r1 v rv
        cases r with
        | non => exact ⟨rv, Aft.here (Aft.ext h e) r1 _ (VR.mono e.mo _ _ hx)⟩
        | _ => exact h.elim
      | exc x L1 => rw [q] at h; exact h
      | bad => rw [q] at h; exact h
    refine wpAny_call (make_map (f := adr d kInit) I.kIn M.makes M.init (beq_iff_eq.mp M.fn) (codeAny_mono (F.gs d kInit _ X.stack _ _ (Value.ref (s.heap.objs.size + 1) :: us) (V.ref (s.heap.objs.size + 1) :: vs) kw kv _ (WE W σ) ((F.rm.mono (by omega : k + 1 ≤ k + 2)).make (gad X.K NM c) us kw)
      (I2.env0.make (gad X.K NM c) us kw) (.cons rfl r) rk ⟨_, _, _, _, R2, VRs.cons hx (VRs.mono E2.mo _ _ ra), FR.mono E2.mo _ _ rkx, h2⟩) fun r s' hq => ?_))
    cases r with
    | error e => exact passAt F.tk σ pins _ _ e s' I2 hq
    | ok fl =>
      cases fl with
      | ret u =>
        obtain ⟨v, H', I3, rv, ev, q3⟩ := I2.after hq
        subst ev
        exact ⟨rv, ⟨V.ref (s.heap.objs.size + 1), H', I3, rfl, q3⟩⟩
      | next => exact False.elim hq
      | brk => exact False.elim hq
      | cont => exact False.elim hq
  · exact h.elim
theorem run_makeS (F : Fc X NM W P G adr k) {c : Nat} {pins : List (Addr × Obj)} {σ : St} {H : Hp} {s : Shared} {Q : VK} {us : List Value} {vs : List V} {kw : List (Str × Value)} {kv : List (Str × V)} {g : Inj} {L : LH} {as : List LV} {kxs : List (Nat × LV)} (hc : P.isCls c = true)
    (I : Inv X pins σ H s) (r : Vals vs us) (rk : KV kv kw) (hR : RelH X.K NM g L H) (ra : VRs X.K NM g H as vs) (rkx : FR X.K NM g H kxs kv)
    (h : Aft X.K NM g H (make P G c as kxs L) (fun a f' H' => ∀ v, VR X.K NM f' H' a v → Q v H') (Wx X.K NM W σ)) : wpAny (model X.prog X.w) X.A (call (.ref (gad X.K NM c)) us kw) (EP X pins σ Q) X.xe s := by
  unfold make at h
  split at h
  · obtain ⟨j', L', xs', kxs', q1, q2, q3, q4⟩ := aft_bnd (E := fun cls d H => W cls d σ H) hR ra rkx h
    exact run_make0 F hc I r rk q1 q2 q3 q4
  · exact run_make0 F hc I r rk hR ra rkx h
/-- f(..), C(..) -/
theorem se_call (F : Fc X NM W P G adr k) {g : Nat} {es : List Expr} {kws : List Keyword} {ea ek : E} {ks : List Nat} {sh : Shp} {p pos : Pos} (hes : SA X NM W es (den P G ea).es) (hkw : SK X NM W kws (den P G ek).es) (hn : kwN kws = some (ks.map (nm NM))) (hl : ∀ i ∈ ks, i < NM.length) (hsh : shpOf es kws = some sh)
    (hea : es = [] → ea = .nil) (hek : kws = [] → ek = .nil) (hst : ∀ e p, es = [.Starred e p] → ∃ a, ea = .star a .nil ∧ SE X NM W e (den P G a).e) (hg : Gl X (nm NM g)) (hd : (nm NM g == ("__debug__" : Str)) = false) (hgl : P.glb g = true) (hc : P.isCls g = true ∨ ∃ f, P.isCls g = false ∧ P.fn 0 g = some f) :
    SE X NM W (.Call (.Name (nm NM g) p) es kws pos) (den P G (.call g ea ks ek)).e := by
  refine ⟨fun pins s σ H Q I h => ?_⟩
  obtain ⟨f, l, L, hR, hS, h⟩ := h
  refine wpAny_Call_Name_kw (ld_glob I hg (F.mgs g hgl) ?_ hd)
  have keep : PySem.W.keepIn X.K (.ref (gad X.K NM g)) = true := by
    rcases hc with hc | ⟨fn, hc, hf⟩
    · exact F.sf.mkk g hc
    · exact (F.sf.fnk g fn hc hf).1
  refine callW (C := fun vs zs H2 => ∃ j L2 as xs kxs, RelH X.K NM j L2 H2 ∧ VRs X.K NM j H2 as vs ∧ VRs X.K NM j H2 xs zs ∧ zipK ks xs = some kxs ∧ Aft X.K NM j H2 (callG P G g as kxs L2) (fun c f' H' => ∀ z, VR X.K NM f' H' c z → Q z H') (Wx X.K NM W σ))
    keep hes hkw hn hsh hea hek hst I (tR_bind hR hS h fun as L1 f1 H1 vs e1 r1 s1 rv h1 => tR_bind r1 s1 h1 fun xs L2 f2 H2 zs e2 r2 s2 rz h2 => ?_) fun us ws vs zs s2 H2 I2 r rz q => ?_
  · split at h2
    · rename_i kxs hz
      exact ⟨f2, L2, as, xs, kxs, r2, VRs.mono e2.mo _ _ rv, rz, hz, h2⟩
    · exact h2.elim
  · obtain ⟨j, L2, as, xs, kxs, q1, q2, q3, q4, q5⟩ := q
    have fr := zipK_ok hl q4 q3
    unfold callG at q5
    rcases hc with hc | ⟨fn, hc, hf⟩
    · rw [if_pos hc] at q5
      exact run_makeS F hc I2 r (kv_zip rz _) q1 q2 fr q5
    · rw [if_neg (by rw [hc]; exact Bool.false_ne_true), hf] at q5
      have e := (F.sf.fnk g fn hc hf).2
      have gs := F.gs 0 g
      rw [e] at gs
      exact run_own gs F.room I2.env0 F.tk I2 r (kv_zip rz _) ⟨j, L2, as, kxs, q1, q2, fr, q5⟩
end
end PM

set_option Elab.async false
set_option linter.all false
set_option autoImplicit false
set_option maxHeartbeats 1000000
/-! # PM15: methods -/
namespace PM
open PySem PySem.Spec PyProof.Rows
open L2 hiding St
section
variable {X : Cx} {NM : List Str} {W : WX} {P : PM.Prog} {G : Gam} {adr : Nat → Nat → Addr} {k : Nat}
theorem star_len : ∀ (es : List Expr) (env : Env) (pos : Pos), es.all notStar = true → (backTo pos (starEach es env)).all (fun x => !x.1) = true
  | [], _, _, _ => rfl
  | e :: es, env, pos, h => by
    rw [List.all_cons, Bool.and_eq_true] at h
    rw [star_head h.1]
    show (true && (backTo pos (starEach es env)).all (fun x => !x.1)) = true
    rw [star_len es env pos h.2]; rfl
theorem kw_empty {kws : List Keyword} {env : Env} {pos : Pos} : (backToKw pos (keywordEach kws env)).isEmpty = kws.isEmpty := by
  cases kws with
  | nil => rfl
  | cons q r => cases q; rfl
def fewOk (es : List Expr) (kws : List Keyword) : Bool := es.all notStar && decide (es.length + kws.length + (if kws.isEmpty then 0 else 1) < 30)
theorem few_ok {es : List Expr} {kws : List Keyword} {ns : List Str} {env : Env} {pos : Pos} (h : fewOk es kws = true) (hn : kwN kws = some ns) : methodCallForm (es.length + kws.length) (backTo pos (starEach es env)) (backToKw pos (keywordEach kws env)) = true := by
  unfold fewOk at h
  rw [Bool.and_eq_true] at h
  unfold methodCallForm
  rw [star_len es env pos h.1, (kw_ok (env := env) (pos := pos) hn).1, kw_empty]
  exact h.2
theorem mcall_eq {o : Expr} {m : Str} {es : List Expr} {kws : List Keyword} {ns : List Str} {apos pos : Pos} (hb : baseOk o = true) (h : fewOk es kws = true) (hn : kwN kws = some ns) (hl : (apos.endLine == pos.line) = true) :
    eval (.Call (.Attribute o m apos) es kws pos) X.env = (do
      let ov ← eval o X.env
      standAt apos.atName
      let (f, first) ← holding [ov] (getMethod ov m (do return (← importBound o X.env).getD true))
      callWith pos f first (backTo pos (starEach es X.env)) (backToKw pos (keywordEach kws X.env))) := by
  rw [arm_eval_Call, baseOk_eq hb]
  have hp : methodCallPos true o X.env apos pos = pure pos := by unfold methodCallPos; simp [hl]
  unfold methodCall calleeOf
  rw [few_ok h hn]
  simp only [if_true, hp, pure_bind]
theorem recv_own {m d : Nat} {x : LV} {L : LH} (h : recv P m x L = .own d) : ∃ c fs, insOf L x = some (c, fs) ∧ fget fs m = none ∧ P.mem c m = some (.meth d) := by
  unfold recv at h
  split at h
  · split at h <;> cases h
  · split at h
    · rename_i c fs e
      split at h
      · rename_i d' h1 h2
        cases h
        exact ⟨c, fs, e, h1, h2⟩
      · cases h
    · split at h
      · split at h
        · split at h <;> cases h
        · cases h
      · cases h
/-- o.m(..) of an instance -/
theorem met_own (F : Fc X NM W P G adr k) {m : Nat} {es : List Expr} {kws : List Keyword} {ea ek : E} {ks : List Nat} {sh : Shp} {pos : Pos} {pins : List (Addr × Obj)} {s : Shared} {σ : St} {H : Hp} {Q : VK} {u : Value} {x : V} {g : Inj} {l : LS} {L : LH} {a : LV} {d : Nat}
    (hes : SA X NM W es (den P G ea).es) (hkw : SK X NM W kws (den P G ek).es) (hn : kwN kws = some (ks.map (nm NM))) (hl : ∀ i ∈ ks, i < NM.length) (hsh : shpOf es kws = some sh) (hea : es = [] → ea = .nil) (hek : kws = [] → ek = .nil) (hst : ∀ e p, es = [.Starred e p] → ∃ a, ea = .star a .nil ∧ SE X NM W e (den P G a).e)
    (I : Inv X pins σ H s) (rx : L2.RelV x u) (hR : RelH X.K NM g L H) (hS : SR X.K NM g H l σ) (va : VR X.K NM g H a x) (hd : recv P m a L = .own d)
    (h : Aft X.K NM g H (((den P G ea).es l L).bind fun vs H2 => ((den P G ek).es l H2).bind fun ws H3 => match zipK ks ws with
      | some kws => G d m (a :: vs) kws H3
      | none => .bad) (fun c f' H' => ∀ z, VR X.K NM f' H' c z → Q z H') (Wx X.K NM W σ)) {pl : Sem Bool} :
    wpAny (model X.prog X.w) X.A (getMethod u (nm NM m) pl) (fun fx s₂ => wpAny (model X.prog X.w) X.A (callWith pos fx.1 fx.2 (backTo pos (starEach es X.env)) (backToKw pos (keywordEach kws X.env))) (EP X pins σ Q) X.xe s₂) X.xe s := by
  obtain ⟨c, fs, e1, e2, hm⟩ := recv_own hd
  obtain ⟨p, dx, gs, rfl, o1, r1⟩ := ins_at hR va e1
  cases rx
  obtain ⟨M, _, hlen⟩ := F.sf.meth c m d hm
  refine getmeth_ok I o1 (F.sf.cls c m _ hm) M ((FR.lookup F.sf.nd hlen r1).1 e2) ?_
  refine callW (first := [.ref p]) (C := fun vs zs H2 => ∃ j L2 as xs kxs, RelH X.K NM j L2 H2 ∧ VRs X.K NM j H2 (a :: as) (.ref p :: vs) ∧ VRs X.K NM j H2 xs zs ∧ zipK ks xs = some kxs ∧ Aft X.K NM j H2 (G d m (a :: as) kxs L2) (fun c f' H' => ∀ z, VR X.K NM f' H' c z → Q z H') (Wx X.K NM W σ))
    M.kp hes hkw hn hsh hea hek hst I (tR_bind hR hS h fun as L1 f1 H1 vs e1 r1 s1 rv h1 => tR_bind r1 s1 h1 fun xs L2 f2 H2 zs e2 r2 s2 rz h2 => ?_) fun us ws vs zs s2 H2 I2 r rz q => ?_
  · split at h2
    · rename_i kxs hz
      exact ⟨f2, L2, as, xs, kxs, r2, VRs.cons (VR.mono (e1.trans e2).mo _ _ va) (VRs.mono e2.mo _ _ rv), rz, hz, h2⟩
    · exact h2.elim
  · obtain ⟨j, L2, as, xs, kxs, q1, q2, q3, q4, q5⟩ := q
    exact run_own (vs := .ref p :: vs) (us := .ref p :: us) (F.gs d m) F.room I2.env0 F.tk I2 (.cons rfl r) (kv_zip rz _) ⟨j, L2, a :: as, kxs, q1, q2, zipK_ok hl q4 q3, q5⟩
theorem pe_or {e : Expr} {t t' : TE} (h : PE X e t) (h' : PE X e t') : PE X e (fun σ H Q => t σ H Q ∨ t' σ H Q) := ⟨fun pins s σ H Q I q => q.elim (h.run pins s σ H Q I) (h'.run pins s σ H Q I)⟩
/-- the reading of a method call where the receiver's kind is known -/
def tMet (X : Cx) (NM : List Str) (W : WX) (P : PM.Prog) (G : Gam) (m : Nat) (eo ea : E) (ks : List Nat) (ek : E) (C : LV → LH → Prop) : TE := fun σ H Q =>
  ∃ f l L, RelH X.K NM f L H ∧ SR X.K NM f H l σ ∧ (∀ x L1, (den P G eo).e l L = .ok x L1 → C x L1) ∧ Aft X.K NM f H ((den P G (.met m eo ea ks ek)).e l L) (fun a f' H' => ∀ b, VR X.K NM f' H' a b → Q b H') (Wx X.K NM W σ)
theorem pm_own (F : Fc X NM W P G adr k) {o : Expr} {m : Nat} {es : List Expr} {kws : List Keyword} {eo ea ek : E} {ks : List Nat} {sh : Shp} {apos pos : Pos} (ho : SE X NM W o (den P G eo).e) (hes : SA X NM W es (den P G ea).es) (hkw : SK X NM W kws (den P G ek).es) (hn : kwN kws = some (ks.map (nm NM))) (hl : ∀ i ∈ ks, i < NM.length) (hsh : shpOf es kws = some sh) (hea : es = [] → ea = .nil) (hek : kws = [] → ek = .nil)
    (hst : ∀ e p, es = [.Starred e p] → ∃ a, ea = .star a .nil ∧ SE X NM W e (den P G a).e) (hb : baseOk o = true) (hf : fewOk es kws = true) (hli : (apos.endLine == pos.line) = true) :
    PE X (.Call (.Attribute o (nm NM m) apos) es kws pos) (tMet X NM W P G m eo ea ks ek (fun x L => ∃ d, recv P m x L = .own d)) := by
  refine ⟨fun pins s σ H Q I h => ?_⟩
  obtain ⟨f, l, L, hR, hS, hC, h⟩ := h
  refine PySem.W.methodCall_KW (pl := (do return (← importBound o X.env).getD true)) (thn (ho.run pins s σ H (fun x H1 => ∃ f1 a L1 d, RelH X.K NM f1 L1 H1 ∧ SR X.K NM f1 H1 l σ ∧ VR X.K NM f1 H1 a x ∧ recv P m a L1 = .own d ∧ Aft X.K NM f1 H1 (((den P G ea).es l L1).bind fun vs H2 => ((den P G ek).es l H2).bind fun ws H3 => match zipK ks ws with
      | some kws => G d m (a :: vs) kws H3
      | none => .bad) (fun c f' H' => ∀ z, VR X.K NM f' H' c z → Q z H') (Wx X.K NM W σ)) I (tR_bindE hR hS h fun x L1 f1 H1 v hx e1 r1 s1 rv h1 => ?_)) fun u s1 ⟨x, H1, I1, rx, f1, a, L1, d, q1, q2, q3, q4, q5⟩ => met_own F hes hkw hn hl hsh hea hek hst I1 rx q1 q2 q3 q4 q5) (mcall_eq hb hf hn hli)
  obtain ⟨d, hd⟩ := hC x L1 hx
  rw [hd] at h1
  exact ⟨f1, x, L1, d, r1, s1, rv, hd, h1⟩
theorem recv_lst {m : Nat} {x : LV} {L : LH} (h : recv P m x L = .lst) : ∃ a xs, x = .ref a ∧ L[a]? = some (.lst xs) := by
  unfold recv at h
  split at h
  · split at h <;> cases h
  · split at h
    · split at h <;> cases h
    · split at h
      · rename_i a _ _
        split at h
        · rename_i xs e
          exact ⟨a, xs, rfl, e⟩
        · cases h
      · cases h
theorem recv_str {m : Nat} {x : LV} {L : LH} (h : recv P m x L = .str) : ∃ s, x = .str s := by
  unfold recv at h
  split at h
  · exact ⟨_, rfl⟩
  · split at h
    · split at h <;> cases h
    · split at h
      · split at h
        · split at h <;> cases h
        · cases h
      · cases h
theorem pm_append {o e : Expr} {eo ea : E} {apos pos : Pos} (ho : SE X NM W o (den P G eo).e) (he : SE X NM W e (den P G ea).e) (hn : notStar e = true) (hb : baseOk o = true) (hli : (apos.endLine == pos.line) = true) :
    PE X (.Call (.Attribute o "append" apos) [e] [] pos) (tMet X NM W P G kAppend eo (.cons ea .nil) [] .nil (fun x L => recv P kAppend x L = .lst)) := by
  refine pe_weak (pe_bm PySem.F.plainAttrs_list PySem.F.slot_list_append PySem.F.type_list_append mt_append ho (sa_cons (G := G) (P := P) hn he sa_nil) (hbase := baseOk_eq hb) (hfew := by rw [star_len [e] _ _ (by simp [hn])]; rfl) (hline := hli) (hs := star_head hn) (hplain := rfl)) fun σ H Q h => ?_
  obtain ⟨f, l, L, hR, hS, hC, h⟩ := h
  refine tR_bindE hR hS h fun x L1 f1 H1 v hx e1 r1 s1 rv h1 => ?_
  have hrc := hC x L1 hx
  rw [hrc] at h1
  have h1 : Aft X.K NM f1 H1 (((den P G (.cons ea .nil)).es l L1).bind fun vs H2 => lstM kAppend x vs H2) _ _ := h1
  obtain ⟨a, xs, rfl, e2⟩ := recv_lst hrc
  obtain ⟨p, vs, rfl, q1, q2, q3⟩ := lst_at r1 rv e2
  refine ⟨.inl ⟨rfl, vs, .inl (.inl q2)⟩, tR_bind r1 s1 h1 fun ys L2 f2 H2 ws e3 r2 s2 rw' h2 => ?_⟩
  have rv2 := VR.mono e3.mo _ _ rv
  have h2 : Aft X.K NM f2 H2 (match L2[a]? with
    | some (.lst xs) => (match (generalizing := false) ys with
        | [y] => if xs.length < SL then .ok .non (L2.set a (.lst (xs ++ [y]))) else .bad
        | _ => .bad)
    | _ => .bad : R LV) _ _ := h2
  split at h2
  · rename_i zs e4
    obtain ⟨p', us, e5, q4, q5, q6⟩ := lst_at r2 rv2 e4
    cases e5
    split at h2
    · rename_i y
      obtain ⟨w, rfl, ry⟩ := one_of rw'
      split at h2
      · rename_i hz
        refine ⟨p, us, w, rfl, rfl, q5, by rw [← q6.length, ← SL_eq]; exact hz, ?_⟩
        exact Aft.wrote h2 r2 q4 (u := .lst (us ++ [w])) ⟨_, upd_same, VRs.mono (Ext.write r2 q4).mo _ _ (q6.append (VRs.cons ry VRs.nil))⟩ _ rfl
      · exact h2.elim
    · exact h2.elim
  · exact h2.elim
theorem pm_extend {o e : Expr} {eo ea : E} {apos pos : Pos} (ho : SE X NM W o (den P G eo).e) (he : SE X NM W e (den P G ea).e) (hn : notStar e = true) (hb : baseOk o = true) (hli : (apos.endLine == pos.line) = true) :
    PE X (.Call (.Attribute o "extend" apos) [e] [] pos) (tMet X NM W P G kExtend eo (.cons ea .nil) [] .nil (fun x L => recv P kExtend x L = .lst)) := by
  refine pe_weak (pe_bm PySem.F.plainAttrs_list PySem.F.slot_list_extend PySem.F.type_list_extend mt_extend ho (sa_cons (G := G) (P := P) hn he sa_nil) (hbase := baseOk_eq hb) (hfew := by rw [star_len [e] _ _ (by simp [hn])]; rfl) (hline := hli) (hs := star_head hn) (hplain := rfl)) fun σ H Q h => ?_
  obtain ⟨f, l, L, hR, hS, hC, h⟩ := h
  refine tR_bindE hR hS h fun x L1 f1 H1 v hx e1 r1 s1 rv h1 => ?_
  have hrc := hC x L1 hx
  rw [hrc] at h1
  have h1 : Aft X.K NM f1 H1 (((den P G (.cons ea .nil)).es l L1).bind fun vs H2 => lstM kExtend x vs H2) _ _ := h1
  obtain ⟨a, xs, rfl, e2⟩ := recv_lst hrc
  obtain ⟨p, vs, rfl, q1, q2, q3⟩ := lst_at r1 rv e2
  refine ⟨.inl ⟨rfl, vs, .inl (.inl q2)⟩, tR_bind r1 s1 h1 fun ys L2 f2 H2 ws e3 r2 s2 rw' h2 => ?_⟩
  have rv2 := VR.mono e3.mo _ _ rv
  have h2 : Aft X.K NM f2 H2 (match L2[a]? with
    | some (.lst xs) => (match (generalizing := false) ys with
        | [y] => match lstH L2 y with
          | some zs => if xs.length + zs.length ≤ SL then .ok .non (L2.set a (.lst (xs ++ zs))) else .bad
          | none => .bad
        | _ => .bad)
    | _ => .bad : R LV) _ _ := h2
  split at h2
  · rename_i zs e4
    obtain ⟨p', us, e5, q4, q5, q6⟩ := lst_at r2 rv2 e4
    cases e5
    split at h2
    · rename_i b
      obtain ⟨w, rfl, ry⟩ := one_of rw'
      split at h2
      · rename_i zs2 e6
        obtain ⟨p2, us2, rfl, q8, q9⟩ := lstH_at r2 ry e6
        split at h2
        · rename_i hz
          refine ⟨p, p2, us, us2, rfl, rfl, q5, q8, by rw [← q6.length, ← q9.length, ← SL_eq]; exact hz, ?_⟩
          exact Aft.wrote h2 r2 q4 (u := .lst (us ++ us2)) ⟨_, upd_same, VRs.mono (Ext.write r2 q4).mo _ _ (q6.append q9)⟩ _ rfl
        · exact h2.elim
      · exact h2.elim
    · exact h2.elim
  · exact h2.elim
theorem pm_pop {o : Expr} {eo : E} {apos pos : Pos} (ho : SE X NM W o (den P G eo).e) (hb : baseOk o = true) (hli : (apos.endLine == pos.line) = true) :
    PE X (.Call (.Attribute o "pop" apos) [] [] pos) (tMet X NM W P G kPop eo .nil [] .nil (fun x L => recv P kPop x L = .lst)) := by
  refine pe_weak (pe_bm0 PySem.F.plainAttrs_list PySem.F.slot_list_pop PySem.F.type_list_pop mt_pop ho (hbase := baseOk_eq hb) (hline := hli)) fun σ H Q h => ?_
  obtain ⟨f, l, L, hR, hS, hC, h⟩ := h
  refine tR_bindE hR hS h fun x L1 f1 H1 v hx e1 r1 s1 rv h1 => ?_
  have hrc := hC x L1 hx
  rw [hrc] at h1
  have h1 : Aft X.K NM f1 H1 (lstM kPop x [] L1) _ _ := h1
  obtain ⟨a, xs, rfl, e2⟩ := recv_lst hrc
  obtain ⟨p, vs, rfl, q1, q2, q3⟩ := lst_at r1 rv e2
  refine ⟨.inl ⟨rfl, vs, .inl (.inl q2)⟩, ?_⟩
  have h1 : Aft X.K NM f1 H1 (match L1[a]? with
    | some (.lst xs) => (match xs.getLast? with
          | some y => .ok y (L1.set a (.lst xs.dropLast))
          | none => .bad)
    | _ => .bad : R LV) _ _ := h1
  rw [e2] at h1
  dsimp only at h1
  split at h1
  · rename_i y hy
    rw [List.getLast?_eq_getElem?] at hy
    obtain ⟨w, w1, w2⟩ := q3.get hy
    rw [q3.length] at w1
    refine ⟨p, vs, w, rfl, rfl, q2, w1, ?_⟩
    exact Aft.wrote h1 r1 q1 (u := .lst vs.dropLast) ⟨_, upd_same, VRs.mono (Ext.write r1 q1).mo _ _ q3.dropLast⟩ _ (VR.mono (Ext.write r1 q1).mo _ _ w2)
  · exact h1.elim
theorem strs_ok {K : PySem.W.Frag} {g : Inj} {H : Hp} : ∀ {xs : List LV} {vs : List V} {ns : List (List Nat)}, strsOf xs = some ns → VRs K NM g H xs vs → vs = (ns.map fun s => (⟨s.toArray⟩ : Str)).map V.str
  | [], vs, ns, h, r => by cases h; obtain rfl : vs = [] := r; rfl
  | .str i :: xs, vs, ns, h, r => by
    obtain ⟨w, ws, rfl, r1, r2⟩ := r
    obtain rfl : w = strV i := r1
    have h : (strsOf xs).map (i :: ·) = some ns := h
    cases q : strsOf xs with
    | none => rw [q] at h; cases h
    | some ms => rw [q] at h; cases h; rw [strs_ok q r2]; rfl
  | .non :: _, _, _, h, _ | .int _ :: _, _, _, h, _ | .bl _ :: _, _, _, h, _ | .tup _ :: _, _, _, h, _ | .ref _ :: _, _, _, h, _ | .gl _ :: _, _, _, h, _ | .fz _ :: _, _, _, h, _ | .scr _ :: _, _, _, h, _ | .obj _ _ _ :: _, _, _, h, _ | .dct _ _ :: _, _, _, h, _ | .clo _ _ :: _, _, _, h, _ | .err _ _ _ :: _, _, _, h, _ => by cases h
theorem join_ok (s : List Nat) : ∀ ys : List (List Nat), Str.join ⟨s.toArray⟩ (ys.map fun s => (⟨s.toArray⟩ : Str)) = ⟨(joinL s ys).toArray⟩
  | [] => rfl
  | [x] => rfl
  | x :: y :: r => by
    have ih := join_ok s (y :: r)
    show (⟨x.toArray⟩ : Str) ++ ⟨s.toArray⟩ ++ Str.join ⟨s.toArray⟩ ((y :: r).map fun s => (⟨s.toArray⟩ : Str)) = ⟨(x ++ s ++ joinL s (y :: r)).toArray⟩
    rw [ih, strV_cat, strV_cat]
theorem pm_join {o e : Expr} {eo ea : E} {apos pos : Pos} (ho : SE X NM W o (den P G eo).e) (he : SE X NM W e (den P G ea).e) (hn : notStar e = true) (hb : baseOk o = true) (hli : (apos.endLine == pos.line) = true) :
    PE X (.Call (.Attribute o "join" apos) [e] [] pos) (tMet X NM W P G kJoin eo (.cons ea .nil) [] .nil (fun x L => recv P kJoin x L = .str)) := by
  refine pe_weak (pe_bm PySem.F.plainAttrs_str PySem.F.slot_str_join PySem.F.type_str_join mt_join ho (sa_cons (G := G) (P := P) hn he sa_nil) (hbase := baseOk_eq hb) (hfew := by rw [star_len [e] _ _ (by simp [hn])]; rfl) (hline := hli) (hs := star_head hn) (hplain := rfl)) fun σ H Q h => ?_
  obtain ⟨f, l, L, hR, hS, hC, h⟩ := h
  refine tR_bindE hR hS h fun x L1 f1 H1 v hx e1 r1 s1 rv h1 => ?_
  have hrc := hC x L1 hx
  rw [hrc] at h1
  have h1 : Aft X.K NM f1 H1 (((den P G (.cons ea .nil)).es l L1).bind fun vs H2 => strM kJoin x vs H2) _ _ := h1
  obtain ⟨z, rfl⟩ := recv_str hrc
  obtain rfl : v = strV z := rv
  refine ⟨rfl, tR_bind r1 s1 h1 fun ys L2 f2 H2 ws e3 r2 s2 rw' h2 => ?_⟩
  have h2 : Aft X.K NM f2 H2 (match (generalizing := false) ys with
      | [y] => (match (generalizing := false) (seqOf L2 y).bind strsOf with
        | some ys => if (ys.map (·.length)).sum + ys.length * z.length ≤ SL then .ok (.str (joinL z ys)) L2 else .bad
        | none => .bad)
      | _ => .bad : R LV) _ _ := h2
  split at h2
  · rename_i y hq
    obtain ⟨w, rfl, ry⟩ := one_of rw'
    split at h2
    · rename_i ns hns
      cases q : seqOf L2 y with
      | none => rw [q] at hns; cases hns
      | some us =>
        rw [q] at hns
        obtain ⟨p, vs, rfl, q1, q2⟩ := seqOf_ok r2 ry q
        have e := strs_ok hns q2
        subst e
        split at h2
        · rename_i hz
          refine ⟨⟨z.toArray⟩, p, _, rfl, rfl, q1, ?_, ?_⟩
          · rw [List.map_map, List.length_map, strV_len]
            have e2 : (ns.map ((fun x : Str => x.length) ∘ fun s => (⟨s.toArray⟩ : Str))) = ns.map (·.length) := by
              apply List.map_congr_left
              intro s _
              exact strV_len s
            rw [e2]
            exact hz
          · rw [TL.join_eq, join_ok]
            exact Aft.here h2 r2 _ rfl
        · exact h2.elim
    · exact h2.elim
  · exact h2.elim
/-- a method call: an own one, or a list's, a text's where the name says so -/
theorem se_met {e : Expr} {m : Nat} {eo ea ek : E} {ks : List Nat} {B : LV → LH → Prop} (h1 : PE X e (tMet X NM W P G m eo ea ks ek (fun x L => ∃ d, recv P m x L = .own d))) (h2 : PE X e (tMet X NM W P G m eo ea ks ek B)) (hB : ∀ x L, (recv P m x L).ok = true → (∃ d, recv P m x L = .own d) ∨ B x L) :
    SE X NM W e (den P G (.met m eo ea ks ek)).e := by
  refine pe_weak (pe_or h1 h2) fun σ H Q h => ?_
  obtain ⟨f, l, L, hR, hS, h⟩ := h
  have h0 : Aft X.K NM f H (((den P G eo).e l L).bind fun x H1 => if (recv P m x H1).ok then ((den P G ea).es l H1).bind fun vs H2 => ((den P G ek).es l H2).bind fun ws H3 => (match zipK ks ws with
    | some kws => callM G m (recv P m x H1) x vs kws H3
    | none => .bad) else .bad) (fun a f' H' => ∀ b, VR X.K NM f' H' a b → Q b H') (Wx X.K NM W σ) := h
  cases q : (den P G eo).e l L with
  | ok x L1 =>
    rw [q] at h0
    have h0 : Aft X.K NM f H (if (recv P m x L1).ok then ((den P G ea).es l L1).bind fun vs H2 => ((den P G ek).es l H2).bind fun ws H3 => (match zipK ks ws with
      | some kws => callM G m (recv P m x L1) x vs kws H3
      | none => .bad) else .bad) (fun a f' H' => ∀ b, VR X.K NM f' H' a b → Q b H') (Wx X.K NM W σ) := h0
    by_cases hr : (recv P m x L1).ok = true
    · rcases hB x L1 hr with hd | hb
      · exact .inl ⟨f, l, L, hR, hS, (fun x' L' e' => by rw [q] at e'; cases e'; exact hd), h⟩
      · exact .inr ⟨f, l, L, hR, hS, (fun x' L' e' => by rw [q] at e'; cases e'; exact hb), h⟩
    · rw [if_neg hr] at h0
      exact h0.elim
  | exc x L1 => exact .inl ⟨f, l, L, hR, hS, (fun x' L' e' => by rw [q] at e'; cases e'), h⟩
  | bad => rw [q] at h0; exact h0.elim
end
end PM

set_option Elab.async false
set_option linter.all false
set_option autoImplicit false
set_option maxHeartbeats 1000000
/-! # PM16: comprehensions -/
namespace PM
open PySem PySem.Spec PyProof.Rows
open L2 hiding St
def noW : WX := fun _ _ _ _ => False
theorem wipe_getG {α : Type} (w : List (Option α) → List Nat → List (Option α)) (h0 : ∀ σ, w σ [] = σ) (h1 : ∀ σ i r, w σ (i :: r) = (w σ r).set i none) (σ : List (Option α)) : ∀ (vs : List Nat) (j : Nat), (w σ vs)[j]? = if j ∈ vs then (σ[j]?).map (fun _ => none) else σ[j]?
  | [], j => by rw [h0]; simp
  | i :: r, j => by
    rw [h1]
    have ih := wipe_getG w h0 h1 σ r j
    by_cases e : i = j
    · subst e
      rw [if_pos (List.mem_cons_self ..)]
      by_cases hl : i < (w σ r).length
      · rw [List.getElem?_set_self hl]
        have hs : (w σ r)[i]? = some (w σ r)[i] := List.getElem?_eq_getElem hl
        rw [hs] at ih
        split at ih
        · cases q : σ[i]? with
          | none => rw [q] at ih; cases ih
          | some z => rfl
        · rw [← ih]; rfl
      · have hn : (w σ r)[i]? = none := List.getElem?_eq_none (by omega)
        rw [List.getElem?_eq_none (by simpa using hl)]
        rw [hn] at ih
        split at ih
        · exact ih
        · rw [← ih]; rfl
    · rw [List.getElem?_set_ne e, ih]
      by_cases hr : j ∈ r
      · rw [if_pos hr, if_pos (List.mem_cons_of_mem _ hr)]
      · rw [if_neg hr, if_neg (by simp [hr, Ne.symm e])]
theorem wipeL (l : LS) (vs : List Nat) (j : Nat) : (PM.wipe l vs)[j]? = if j ∈ vs then (l[j]?).map (fun _ => none) else l[j]? := wipe_getG PM.wipe (fun _ => rfl) (fun _ _ _ => rfl) l vs j
theorem wipeS (σ : St) (vs : List Nat) (j : Nat) : (L2.wipe σ vs)[j]? = if j ∈ vs then (σ[j]?).map (fun _ => none) else σ[j]? := wipe_getG L2.wipe (fun _ => rfl) (fun _ _ _ => rfl) σ vs j
theorem wipe_lenL (l : LS) : ∀ vs : List Nat, (PM.wipe l vs).length = l.length
  | [] => rfl
  | i :: r => by unfold PM.wipe; rw [List.length_set, wipe_lenL l r]
theorem wipe_set {σ : St} {vs : List Nat} {i : Nat} {x : Option V} (h : i ∈ vs) : L2.wipe (σ.set i x) vs = L2.wipe σ vs := by
  apply List.ext_getElem?
  intro j
  rw [wipeS, wipeS]
  by_cases hj : j ∈ vs
  · rw [if_pos hj, if_pos hj]
    by_cases e : i = j
    · subst e
      by_cases hl : i < σ.length
      · rw [List.getElem?_set_self hl, List.getElem?_eq_getElem hl]; rfl
      · rw [List.getElem?_eq_none (by simpa using hl), List.getElem?_eq_none (by omega)]
    · rw [List.getElem?_set_ne e]
  · rw [if_neg hj, if_neg hj, List.getElem?_set_ne (fun e => hj (by rw [← e]; exact h))]
theorem wipe_idem (σ : St) (vs : List Nat) : L2.wipe (L2.wipe σ vs) vs = L2.wipe σ vs := by
  apply List.ext_getElem?
  intro j
  rw [wipeS, wipeS]
  by_cases hj : j ∈ vs
  · rw [if_pos hj, if_pos hj]
    cases σ[j]? <;> rfl
  · rw [if_neg hj, if_neg hj]
theorem SR.wipe {K : PySem.W.Frag} {NM : List Str} {f : Inj} {H : Hp} {l : LS} {σ : St} (h : SR K NM f H l σ) (vs : List Nat) : SR K NM f H (PM.wipe l vs) (L2.wipe σ vs) := by
  refine ⟨by rw [wipe_lenL, L2.wipe_length]; exact h.1, fun i x e => ?_⟩
  rw [wipeL] at e
  split at e
  · cases q : l[i]? with
    | none => rw [q] at e; cases e
    | some z => rw [q] at e; cases e
  · rename_i hi
    obtain ⟨v, e1, e2⟩ := h.2 i x e
    exact ⟨v, by rw [wipeS, if_neg hi]; exact e1, e2⟩
section
variable {X : Cx} {NM : List Str} {W : WX} {P : PM.Prog} {G : Gam} {adr : Nat → Nat → Addr} {k : Nat}
/-- targets of a comprehension: only its own slots -/
def tGw (K : PySem.W.Frag) (NM : List Str) (vs : List Nat) (dn : LV → LS → LH → R LS) : TG := fun v σ H Q => ∃ f l L x, RelH K NM f L H ∧ SR K NM f H l σ ∧ VR K NM f H x v ∧ Aft K NM f H (dn x l L) (fun l' f' H' => ∀ σ', SR K NM f' H' l' σ' → L2.wipe σ' vs = L2.wipe σ vs → Q σ' H') (fun _ _ _ => False)
def tGsw (K : PySem.W.Frag) (NM : List Str) (vs : List Nat) (dn : List LV → LS → LH → R LS) : TGs := fun ws σ H Q => ∃ f l L xs, RelH K NM f L H ∧ SR K NM f H l σ ∧ VRs K NM f H xs ws ∧ Aft K NM f H (dn xs l L) (fun l' f' H' => ∀ σ', SR K NM f' H' l' σ' → L2.wipe σ' vs = L2.wipe σ vs → Q σ' H') (fun _ _ _ => False)
abbrev SGw (X : Cx) (NM : List Str) (vs : List Nat) (tg : Expr) (dn : LV → LS → LH → R LS) : Prop := PG X tg (tGw X.K NM vs dn)
abbrev SGsw (X : Cx) (NM : List Str) (vs : List Nat) (tg : List Expr) (dn : List LV → LS → LH → R LS) : Prop := PGs X tg (tGsw X.K NM vs dn)
theorem sgw_name {vs : List Nat} {i : Nat} {x : Str} {pos : Pos} (hv : i ∈ vs) (hN : X.N.Nodup) (hi : X.N[i]? = some x) (hx : Loc X.env.scope x) (hf : X.fn x = true ∨ X.env.scope.names.lookup x = some .local) : SGw X NM vs (.Name x pos) (den P G (.tnm i)).g := by
  refine pg_weak (pg_name hN hi hx hf) fun v σ H Q h => ?_
  obtain ⟨f, l, L, y, hR, hS, hv', h⟩ := h
  have h : Aft X.K NM f H (if i < l.length then .ok (l.set i (some y)) L else .bad : R LS) _ _ := h
  split at h
  · exact Aft.here h hR _ (hS.set hv') (wipe_set hv)
  · exact h.elim
theorem sgsw_nil {vs : List Nat} : SGsw X NM vs [] (den P G .nil).gs := by
  refine pgs_weak pgs_nil fun ws σ H Q h => ?_
  obtain ⟨f, l, L, xs, hR, hS, hv, h⟩ := h
  cases xs with
  | nil =>
    obtain rfl : ws = [] := hv
    exact ⟨rfl, Aft.here h hR _ hS rfl⟩
  | cons x xs => exact h.elim
theorem sgsw_cons {vs : List Nat} {e : Expr} {es : List Expr} {a r : E} (hn : notStar e = true) (he : SGw X NM vs e (den P G a).g) (hr : SGsw X NM vs es (den P G r).gs) : SGsw X NM vs (e :: es) (den P G (.cons a r)).gs := by
  refine pgs_weak (pgs_cons he hr (assign_head hn)) fun ws σ H Q h => ?_
  obtain ⟨f, l, L, xs, hR, hS, hv, h⟩ := h
  cases xs with
  | nil => exact h.elim
  | cons x xs =>
    obtain ⟨w, ws, rfl, r1, r2⟩ := hv
    have h : Aft X.K NM f H (noX (((den P G a).g x l L).bind fun σ1 H1 => (den P G r).gs xs σ1 H1)) _ _ := h
    refine ⟨w, ws, rfl, f, l, L, x, hR, hS, r1, ?_⟩
    cases q : (den P G a).g x l L with
    | ok l' L' =>
      rw [q] at h
      intro f' H' e r3 σ' s' hw
      have h : Aft X.K NM f H ((den P G r).gs xs l' L') _ (fun _ _ _ => False) := noX_ok h
      refine ⟨f', l', L', xs, r3, s', VRs.mono e.mo _ _ r2, (Aft.ext h e).imp (fun l2 f2 H2 e2 z σ2 s2 w2 => z σ2 s2 (w2.trans hw)) fun _ _ _ _ z => z⟩
    | exc y L' => rw [q] at h; exact h.elim
    | bad => rw [q] at h; exact h.elim
theorem sgw_tup {vs : List Nat} {es : List Expr} {a : E} {kk : Nat} {pos : Pos} (hc : X.calm = true) (hn : es.all notStar = true) (hs : SGsw X NM vs es (den P G a).gs) (hlen : ∀ xs l L, xs.length ≠ es.length → (den P G a).gs xs l L = .bad) : SGw X NM vs (.Tuple es kk pos) (den P G (.ttp a)).g := by
  have ha := assign_len (env := X.env) hn
  refine ⟨fun pins s σ H v u Q I r h => ?_⟩
  obtain ⟨f, l, L, x, hR, hS, hv, h⟩ := h
  have h : Aft X.K NM f H (match seqOf L x with
    | some xs => (den P G a).gs xs l L
    | none => .bad : R LS) _ _ := h
  split at h
  · rename_i xs hx
    obtain ⟨p, ws, rfl, s1, r1⟩ := seqOf_ok hR hv hx
    have hl : xs.length = es.length := by
      by_cases e : xs.length = es.length
      · exact e
      · rw [hlen xs l L e] at h; exact h.elim
    rcases s1 with s1 | s1
    · exact (pg_lst hc hs (hn := ha.1) (hst := ha.2)).run pins s σ H _ u Q I r ⟨p, ws, rfl, s1, by rw [← r1.length]; exact hl, f, l, L, xs, hR, hS, r1, h⟩
    · exact (pg_tup hc hs (hn := ha.1) (hst := ha.2)).run pins s σ H _ u Q I r ⟨p, ws, rfl, s1, by rw [← r1.length]; exact hl, f, l, L, xs, hR, hS, r1, h⟩
  · exact h.elim
/-! ### an unmapped list that grows -/
theorem Ext.off {f f1 : Inj} {H H1 : Hp} {D : Addr} {u : HO} {ws : List V} (e : Ext f1 H1 f H) (h0 : H1 D = none) (hD : H D = some (.lst ws)) (hu : ∀ ps, u ≠ .tbl ps := by intro ps z; cases z) : Ext f1 H1 f (upd H D u) where
  sub := e.sub
  new := e.new
  keep := fun q h => by
    by_cases z : q = D
    · subst z; exact ⟨u, upd_same, hu⟩
    · obtain ⟨o, e', n⟩ := e.keep q h
      exact ⟨o, by rw [upd_ne z]; exact e', n⟩
  fr := fun q o h t n => by rw [upd_ne fun z => by rw [z, h0] at h; cases h]; exact e.fr q o h t n
  tup := fun q xs h => by rw [upd_ne fun z => by rw [z, h0] at h; cases h]; exact e.tup q xs h
  frz := fun q o x h => by rw [upd_ne fun z => by rw [z, h0] at h; cases h]; exact e.frz q o x h
  bs := e.bs
  bw := e.bw
theorem Mo.off {f : Inj} {H : Hp} {D : Addr} {u : HO} {ws : List V} (hb : f.B D) (hD : H D = some (.lst ws)) : Mo f H f (upd H D u) :=
  ⟨fun _ _ e => e, fun q xs h => by rw [upd_ne fun z => by rw [z, hD] at h; cases h]; exact h, fun q o x h => by rw [upd_ne fun z => by rw [z, hD] at h; cases h]; exact h, fun q o h _ n => ⟨by rw [upd_ne fun z => n (by rw [z]; exact hb)]; exact h, n⟩⟩
theorem RelH.off {K : PySem.W.Frag} {f : Inj} {L : LH} {H : Hp} {D : Addr} {u : HO} {ws : List V} (r : RelH K NM f L H) (hb : f.B D) (hn : ∀ a, f a ≠ some D) (hD : H D = some (.lst ws)) (hu : ∀ ps, u ≠ .tbl ps := by intro ps z; cases z) : RelH K NM f L (upd H D u) := by
  refine ⟨r.inj, r.dom, fun a o e => ?_, fun q h => ?_, tabs_keep r.tab fun b o' e' hx => by
    rw [upd_ne fun z => ?_]
    · exact e'
    · rw [z, hD] at e'
      rcases hx with ⟨ps, rfl⟩ | ⟨c, q, rfl⟩ <;> cases e'⟩
  · obtain ⟨q, e1, e2⟩ := r.obj a o e
    exact ⟨q, e1, e2.mono (Mo.off hb hD) (by rw [upd_ne fun z => hn a (by rw [e1, z])])⟩
  · by_cases z : q = D
    · subst z; exact ⟨u, upd_same, hu⟩
    · obtain ⟨o, e', n⟩ := r.bn q h
      exact ⟨o, by rw [upd_ne z]; exact e', n⟩
theorem RelH.take {K : PySem.W.Frag} {f : Inj} {L : LH} {H : Hp} {D : Addr} {o : LO} (r : RelH K NM f L H) (hb : f.B D) (hn : ∀ a, f a ≠ some D) (ho : OR K NM (fadd f L.length D) H D o) : RelH K NM (fadd f L.length D) (L ++ [o]) H := by
  have sub : ∀ a q, f a = some q → fadd f L.length D a = some q := fun a q e => by
    rw [fadd_ne (Nat.ne_of_lt (r.dom a q e))]
    exact e
  refine ⟨fun a b q h1 h2 => ?_, fun a q h => ?_, fun a u h => ?_, fun q h => ?_, r.tab⟩
  · by_cases x : a = L.length <;> by_cases y : b = L.length
    · rw [x, y]
    · rw [x, fadd_self] at h1; rw [fadd_ne y] at h2; cases h1; exact absurd h2 (hn b)
    · rw [y, fadd_self] at h2; rw [fadd_ne x] at h1; cases h2; exact absurd h1 (hn a)
    · rw [fadd_ne x] at h1; rw [fadd_ne y] at h2; exact r.inj a b q h1 h2
  · rw [List.length_append, List.length_singleton]
    by_cases z : a = L.length
    · omega
    · rw [fadd_ne z] at h; have := r.dom a q h; omega
  · by_cases ha : a < L.length
    · rw [List.getElem?_append_left ha] at h
      obtain ⟨q, e1, e2⟩ := r.obj a u h
      exact ⟨q, sub a q e1, e2.mono ⟨sub, fun _ _ z => z, fun _ _ _ z => z, fun q o h _ n => ⟨h, fun z => z.elim n fun z => n (by rw [z]; exact hb)⟩⟩ rfl⟩
    · rw [List.getElem?_append_right (by omega)] at h
      have : a = L.length := by
        cases hh : a - L.length with
        | zero => omega
        | succ k => rw [hh] at h; simp at h
      subst this
      simp at h
      subst h
      exact ⟨D, fadd_self, ho⟩
  · rcases h with h | h
    · exact r.bn q h
    · rw [h]; exact ho.th
/-- D is changed for a while; no more -/
def fban (f : Inj) (D : Addr) : Inj := ⟨f.m, fun q => f.B q ∨ q = D, fun a p h => .inl (f.hb a p h)⟩
def funb (f : Inj) (D : Addr) (h : ∀ a, f a ≠ some D) : Inj := ⟨f.m, fun q => f.B q ∧ q ≠ D, fun a p e => ⟨f.hb a p e, fun z => h a (by rw [← z]; exact e)⟩⟩
theorem funb_mo {f : Inj} {D : Addr} {H : Hp} (h : ∀ a, f a ≠ some D) : Mo f H (funb f D h) H := ⟨fun _ _ e => e, fun _ _ e => e, fun _ _ _ e => e, fun q o e _ n => ⟨e, fun z => n z.1⟩⟩
theorem fban_mo {f : Inj} {D : Addr} {H : Hp} (h : H D = none) : Mo f H (fban f D) H := ⟨fun _ _ e => e, fun _ _ e => e, fun _ _ _ e => e, fun q o e _ n => ⟨e, fun z => z.elim n fun z => by rw [z, h] at e; cases e⟩⟩
/-- the state of a comprehension's list -/
structure LcS (K : PySem.W.Frag) (NM : List Str) (f1 : Inj) (H1 : Hp) (D : Addr) (f : Inj) (H : Hp) (acc : List LV) (ws : List V) : Prop where
  at_ : H D = some (.lst ws)
  un : ∀ a, f a ≠ some D
  bd : f.B D
  ex : Ext f1 H1 f H
  vs : VRs K NM f H acc ws
theorem LcS.adv {K : PySem.W.Frag} {f1 : Inj} {H1 : Hp} {D : Addr} {f : Inj} {H : Hp} {acc : List LV} {ws : List V} (s : LcS K NM f1 H1 D f H acc ws) {f' : Inj} {H' : Hp} (e : Ext f H f' H') : LcS K NM f1 H1 D f' H' acc ws :=
  ⟨e.fr D _ s.at_ (fun _ z => nomatch z) s.un, (fun a z => (e.new a D z).elim (fun z => s.un a z) (fun z => nw_no z s.at_ (fun _ z => nomatch z))), e.bs D s.bd, s.ex.trans e, VRs.mono e.mo _ _ s.vs⟩
/-- the end of a comprehension's walk -/
def LcF (K : PySem.W.Frag) (NM : List Str) (f1 : Inj) (H1 : Hp) (D : Addr) (Q : VK) (r : R (List LV)) : Prop := match r with
  | .ok xs L => ∀ f H ws, LcS K NM f1 H1 D f H xs ws → RelH K NM f L H → Q (.ref D) H
  | _ => False
theorem LcF.bind {α : Type} {K : PySem.W.Frag} {f1 : Inj} {H1 : Hp} {D : Addr} {Q : VK} {r : R α} {kk : α → LH → R (List LV)} (h : LcF K NM f1 H1 D Q (r.bind kk)) : ∃ a L, r = .ok a L ∧ LcF K NM f1 H1 D Q (kk a L) := by
  cases r with
  | ok a L => exact ⟨a, L, rfl, h⟩
  | exc x L => exact h.elim
  | bad => exact h.elim
/-- what becomes of the list -/
def LcE (K : PySem.W.Frag) (NM : List Str) (fe : List LV → LH → R LV) : Prop := ∀ (f1 : Inj) (H1 : Hp) (L1 : LH) (D : Addr) (f : Inj) (H : Hp) (L2 : LH) (xs : List LV) (ws : List V) (Q : VK) (Qx : LX → Inj → Hp → Prop), RelH K NM f1 L1 H1 → H1 D = none → LcS K NM f1 H1 D f H xs ws → RelH K NM f L2 H →
  Aft K NM f1 H1 (fe xs L2) (fun a f' H' => ∀ b, VR K NM f' H' a b → Q b H') Qx → Q (.ref D) H
theorem lcE_M {K : PySem.W.Frag} {NM : List Str} : LcE K NM fun xs H2 => .ok (.ref H2.length) (H2 ++ [.lst xs]) := by
  intro f1 H1 L1 D f H L2 xs ws Q Qx r1 hD s r h1
  have sub : Mo f H (fadd f L2.length D) H := ⟨fun a q e => by rw [fadd_ne (Nat.ne_of_lt (r.dom a q e))]; exact e, fun _ _ e => e, fun _ _ _ e => e, fun q o h _ n => ⟨h, fun z => z.elim n fun z => n (by rw [z]; exact s.bd)⟩⟩
  have ex : Ext f1 H1 (fadd f L2.length D) H := ⟨fun a p e => sub.sub a p (s.ex.sub a p e), fun a p e => by
    by_cases z : a = L2.length
    · rw [z, fadd_self] at e; cases e; exact .inr (nw_none hD)
    · rw [fadd_ne z] at e; exact s.ex.new a p e, s.ex.keep, s.ex.fr, s.ex.tup, s.ex.frz, fun q z => .inl (s.ex.bs q z), fun q z => z.elim (s.ex.bw q) fun z => .inr (by rw [z]; exact nw_none hD)⟩
  exact h1 _ _ ex (r.take s.bd s.un ⟨ws, s.at_, VRs.mono sub _ _ s.vs⟩) _ ⟨D, rfl, fadd_self⟩
theorem lcE_F {K : PySem.W.Frag} {NM : List Str} : LcE K NM fun xs H2 => if noRefs xs then .ok (.fz xs) H2 else .bad := by
  intro f1 H1 L1 D f H L2 xs ws Q Qx r1 hD s r h1
  dsimp only at h1
  split at h1
  · rename_i hn
    have m : Mo f H (funb f D s.un) H := funb_mo s.un
    have ex : Ext f1 H1 (funb f D s.un) H := ⟨s.ex.sub, s.ex.new, s.ex.keep, s.ex.fr, s.ex.tup, s.ex.frz, fun q z => ⟨s.ex.bs q z, fun y => nw_none hD (by rw [← y]; exact r1.bn q z)⟩, fun q z => s.ex.bw q z.1⟩
    have rl : RelH K NM (funb f D s.un) L2 H := ⟨r.inj, r.dom, fun a o e => by
      obtain ⟨p, e1, e2⟩ := r.obj a o e
      exact ⟨p, e1, e2.mono m rfl⟩, fun q z => r.bn q z.1, r.tab⟩
    exact h1 _ _ ex rl _ ⟨D, ws, rfl, ⟨s.at_, fun z => z.2 rfl⟩, VRs.mono m.offs _ _ (VRs.offN hn s.vs)⟩
  · exact h1.elim
theorem lc_main (F : Fc X NM W P G adr k) {elt tg iter : Expr} {ifs : List Expr} {et eg ei ec : E} {vs : List Nat} {fe : List LV → LH → R LV} (hf : LcE X.K NM fe) :
    ∀ σ H Q, tR X.K NM (VR X.K NM) W (fun l H => ((den P G ei).i l H).bind fun J H1 => (noX (lcL (fun i H => J.nx H i) (den P G eg).g (den P G ec).t (den P G et).e (PM.wipe l vs) P.loops 0 [] H1)).bind fe) σ H Q → tLc (fun σ H R => tR X.K NM (JR X.K NM) W (den P G ei).i σ H R) (tGw X.K NM vs (den P G eg).g) (tR X.K NM rB noW (den P G ec).t) (tR X.K NM (VR X.K NM) noW (den P G et).e) vs σ H Q := by
  intro σ H Q h
  obtain ⟨f0, l, L, hR, hS, h⟩ := h
  refine tR_bind hR hS h fun J L1 f1 H1 J' e1 r1 s1 rj h1 => ?_
  intro D hD
  have h1 : Aft X.K NM f1 H1 ((noX (lcL (fun i H => J.nx H i) (den P G eg).g (den P G ec).t (den P G et).e (PM.wipe l vs) P.loops 0 [] L1)).bind fe) (fun a f' H' => ∀ b, VR X.K NM f' H' a b → Q b H') (Wx X.K NM W σ) := h1
  have fin : LcF X.K NM f1 H1 D Q (lcL (fun i H => J.nx H i) (den P G eg).g (den P G ec).t (den P G et).e (PM.wipe l vs) P.loops 0 [] L1) := by
    cases q : lcL (fun i H => J.nx H i) (den P G eg).g (den P G ec).t (den P G et).e (PM.wipe l vs) P.loops 0 [] L1 with
    | ok xs L2 =>
      rw [q] at h1
      intro f H ws s r
      exact hf f1 H1 L1 D f H L2 xs ws Q _ r1 hD s r h1
    | exc x L2 => rw [q] at h1; exact h1
    | bad => rw [q] at h1; exact h1
  have E1 : Ext f1 H1 (fban f1 D) (upd H1 D (.lst [])) := by
    have e := Ext.put (f := f1) (u := .lst []) hD
    exact ⟨e.sub, e.new, e.keep, e.fr, e.tup, e.frz, fun q z => .inl z, fun q z => z.elim .inl fun z => .inr (by rw [z]; exact nw_none hD)⟩
  have R1 : RelH X.K NM (fban f1 D) L1 (upd H1 D (.lst [])) := by
    refine ⟨r1.inj, r1.dom, fun a o e => ?_, fun q z => ?_, tabs_put r1.tab hD⟩
    · obtain ⟨p, e1, e2⟩ := r1.obj a o e
      exact ⟨p, e1, e2.mono E1.mo (upd_keep hD p e2.there)⟩
    · rcases z with z | z
      · exact E1.keep q (r1.bn q z)
      · rw [z]; exact th_lst upd_same
  refine ⟨fun i m Hd => ∃ f Lc acc ws, LcS X.K NM f1 H1 D f Hd acc ws ∧ RelH X.K NM f Lc Hd ∧ LcF X.K NM f1 H1 D Q (lcL (fun i H => J.nx H i) (den P G eg).g (den P G ec).t (den P G et).e (PM.wipe l vs) m i acc Lc), ⟨P.loops, fban f1 D, L1, [], [], ?_, R1, fin⟩, ?_⟩
  · exact ⟨upd_same, fun a z => by have := r1.there z; exact this hD, .inr rfl, E1, VRs.nil⟩
  · rintro i m Hd ⟨f, Lc, acc, ws, st, rl, fin⟩
    have sw : SR X.K NM f Hd (PM.wipe l vs) (L2.wipe σ vs) := (s1.mono st.ex.mo).wipe vs
    have hJ := rj f Hd Lc i
    cases m with
    | zero => exact fin.elim
    | succ m =>
      have fin : LcF X.K NM f1 H1 D Q (match J.nx Lc i with
        | none => .bad
        | some none => .ok acc Lc
        | some (some v) => ((den P G eg).g v (PM.wipe l vs) Lc).bind fun σ1 H1 => ((den P G ec).t σ1 H1).bind fun b H2 => if b then ((den P G et).e σ1 H2).bind fun y H3 => if acc.length < SL then lcL (fun i H => J.nx H i) (den P G eg).g (den P G ec).t (den P G et).e (PM.wipe l vs) m (i + 1) (acc ++ [y]) H3 else .bad
          else lcL (fun i H => J.nx H i) (den P G eg).g (den P G ec).t (den P G et).e (PM.wipe l vs) m (i + 1) acc H2) := fin
      split at fin
      · exact fin.elim
      · rename_i hx
        exact .inl ⟨hJ none st.ex.mo rl hx, fin f Hd ws st rl⟩
      · rename_i v hx
        obtain ⟨go, yl⟩ := hJ (some v) st.ex.mo rl hx
        refine .inr ⟨go, _, fun H' q => ⟨m, Nat.lt_succ_self m, q⟩, fun x H' hy => ?_⟩
        obtain ⟨ea, ra, rv⟩ := yl x H' hy
        obtain ⟨l2, L2, g1, fin⟩ := fin.bind
        obtain ⟨b, L3, g2, fin⟩ := fin.bind
        have sta := st.adv ea
        refine ⟨f, PM.wipe l vs, Lc, v, ra, sw.mono ea.mo, rv, ?_⟩
        rw [g1]
        intro f2 H2 eb rb σ2 s2 hw
        have stb := sta.adv eb
        refine ⟨hw.trans (wipe_idem σ vs), f2, l2, L2, rb, s2, ?_⟩
        rw [g2]
        intro f3 H3 ecx rc b' hb
        subst hb
        have stc := stb.adv ecx
        cases b with
        | false => exact ⟨f3, L3, acc, ws, stc, rc, fin⟩
        | true =>
          obtain ⟨y, L4, g3, fin⟩ := LcF.bind (kk := fun y H3 => if acc.length < SL then lcL (fun i H => J.nx H i) (den P G eg).g (den P G ec).t (den P G et).e (PM.wipe l vs) m (i + 1) (acc ++ [y]) H3 else .bad) fin
          refine ⟨f3, l2, L3, rc, s2.mono ecx.mo, ?_⟩
          rw [g3]
          intro f4 H4 ed rd z rz
          have std := stc.adv ed
          split at fin
          · rename_i hlen
            refine ⟨ws, std.at_, by rw [← std.vs.length, ← SL_eq]; exact hlen, f4, L4, acc ++ [y], ws ++ [z], ⟨upd_same, std.un, std.bd, std.ex.off hD std.at_, ?_⟩, rd.off std.bd std.un std.at_, fin⟩
            exact VRs.mono (Mo.off std.bd std.at_) _ _ (std.vs.append (VRs.cons rz VRs.nil))
          · exact fin.elim
theorem se_lc (F : Fc X NM W P G adr k) {elt tg iter : Expr} {ifs : List Expr} {scope : Scope} {own : List (Str × Nat)} {pos : Pos} {et eg ei ec : E} (hi : SI X NM W tg iter (den P G ei).i) (ok : BlkOk X.N X.env.scope scope own)
    (hg : ∀ (s : Shared) (H : Hp) (C : Addr) (cl : List (Str × Addr)) (fp : List Addr), SGw (X.blk s H scope (compEnvC scope cl C X.env) fp) NM (own.map (·.2)) tg (den P G eg).g)
    (ht : ∀ (s : Shared) (H : Hp) (C : Addr) (cl : List (Str × Addr)) (fp : List Addr), PTs (X.blk s H scope (compEnvC scope cl C X.env) fp) ifs (tR X.K NM rB noW (den P G ec).t))
    (he : ∀ (s : Shared) (H : Hp) (C : Addr) (cl : List (Str × Addr)) (fp : List Addr), SE (X.blk s H scope (compEnvC scope cl C X.env) fp) NM noW elt (den P G et).e) (hs : noSet iter = true) :
    SE X NM W (.ListComp elt [⟨tg, iter, ifs, 0⟩] scope pos) (den P G (.lc et eg ei ec (own.map (·.2)))).e :=
  pe_weak (pe_lc F.calm F.xn hi ok hg ht he (fold_no hs)) (lc_main (elt := elt) (tg := tg) (iter := iter) (ifs := ifs) F lcE_F)
theorem se_lcM (F : Fc X NM W P G adr k) {elt tg iter : Expr} {ifs : List Expr} {scope : Scope} {own : List (Str × Nat)} {pos : Pos} {et eg ei ec : E} (hi : SI X NM W tg iter (den P G ei).i) (ok : BlkOk X.N X.env.scope scope own)
    (hg : ∀ (s : Shared) (H : Hp) (C : Addr) (cl : List (Str × Addr)) (fp : List Addr), SGw (X.blk s H scope (compEnvC scope cl C X.env) fp) NM (own.map (·.2)) tg (den P G eg).g)
    (ht : ∀ (s : Shared) (H : Hp) (C : Addr) (cl : List (Str × Addr)) (fp : List Addr), PTs (X.blk s H scope (compEnvC scope cl C X.env) fp) ifs (tR X.K NM rB noW (den P G ec).t))
    (he : ∀ (s : Shared) (H : Hp) (C : Addr) (cl : List (Str × Addr)) (fp : List Addr), SE (X.blk s H scope (compEnvC scope cl C X.env) fp) NM noW elt (den P G et).e) (hs : noSet iter = true) :
    SE X NM W (.ListComp elt [⟨tg, iter, ifs, 0⟩] scope pos) (den P G (.lcM et eg ei ec (own.map (·.2)))).e :=
  pe_weak (pe_lc F.calm F.xn hi ok hg ht he (fold_no hs)) (lc_main (elt := elt) (tg := tg) (iter := iter) (ifs := ifs) F lcE_M)
/-! x = [..] on one line -/
theorem ss_lc (F : Fc X NM W P G adr k) {i : Nat} {y : Str} {py : Pos} {elt tg iter : Expr} {ifs : List Expr} {scope : Scope} {own : List (Str × Nat)} {pos spos : Pos} {et eg ei ec : E} (hy : X.N[i]? = some y) (hyl : X.env.scope.names.lookup y = some .local)
    (hsw : swapsWith (.ListComp elt [⟨tg, iter, ifs, 0⟩] scope pos) (some (.Name y py)) spos.line X.env = pure true) (hi : SI X NM W tg iter (den P G ei).i) (ok : BlkOk X.N X.env.scope scope own)
    (hg : ∀ (s : Shared) (H : Hp) (C : Addr) (cl : List (Str × Addr)) (fp : List Addr), SGw (X.blk s H scope (compEnvC scope cl C X.env) fp) NM (own.map (·.2)) tg (den P G eg).g)
    (ht : ∀ (s : Shared) (H : Hp) (C : Addr) (cl : List (Str × Addr)) (fp : List Addr), PTs (X.blk s H scope (compEnvC scope cl C X.env) fp) ifs (tR X.K NM rB noW (den P G ec).t))
    (he : ∀ (s : Shared) (H : Hp) (C : Addr) (cl : List (Str × Addr)) (fp : List Addr), SE (X.blk s H scope (compEnvC scope cl C X.env) fp) NM noW elt (den P G et).e) (hs : noSet iter = true) :
    SS X NM W (.Assign [.Name y py] (.ListComp elt [⟨tg, iter, ifs, 0⟩] scope pos) spos) (den P G (.asg (.tnm i) (.lc et eg ei ec (own.map (·.2))))).s := by
  have main := lc_main (elt := elt) (tg := tg) (iter := iter) (ifs := ifs) (W := W) (et := et) (eg := eg) (ei := ei) (ec := ec) (vs := own.map (·.2)) F lcE_F
  refine ps_weak (ps_setLc (te := tR X.K NM (VR X.K NM) noW (den P G et).e) (g := tGw X.K NM (own.map (·.2)) (den P G eg).g) F.calm F.xn hy hyl hsw hi ok hg ht he (fold_no hs)) fun D σ H h => ?_
  obtain ⟨f, l, L, hR, hS, h⟩ := h
  refine main σ H _ ?_
  refine tR_bindS hR hS h fun v L1 f1 H1 w e r s rb h1 => ?_
  have h1 : AftS X.K NM W f1 H1 (RS.ofR (if i < l.length then .ok (l.set i (some v)) L1 else .bad : R LS) l fun σ1 H2 => .ok (.nx σ1) H2) D := h1
  split at h1
  · exact AftS.nx h1 r (s.set rb)
  · exact h1.elim
theorem ss_lcM (F : Fc X NM W P G adr k) {i : Nat} {y : Str} {py : Pos} {elt tg iter : Expr} {ifs : List Expr} {scope : Scope} {own : List (Str × Nat)} {pos spos : Pos} {et eg ei ec : E} (hy : X.N[i]? = some y) (hyl : X.env.scope.names.lookup y = some .local)
    (hsw : swapsWith (.ListComp elt [⟨tg, iter, ifs, 0⟩] scope pos) (some (.Name y py)) spos.line X.env = pure true) (hi : SI X NM W tg iter (den P G ei).i) (ok : BlkOk X.N X.env.scope scope own)
    (hg : ∀ (s : Shared) (H : Hp) (C : Addr) (cl : List (Str × Addr)) (fp : List Addr), SGw (X.blk s H scope (compEnvC scope cl C X.env) fp) NM (own.map (·.2)) tg (den P G eg).g)
    (ht : ∀ (s : Shared) (H : Hp) (C : Addr) (cl : List (Str × Addr)) (fp : List Addr), PTs (X.blk s H scope (compEnvC scope cl C X.env) fp) ifs (tR X.K NM rB noW (den P G ec).t))
    (he : ∀ (s : Shared) (H : Hp) (C : Addr) (cl : List (Str × Addr)) (fp : List Addr), SE (X.blk s H scope (compEnvC scope cl C X.env) fp) NM noW elt (den P G et).e) (hs : noSet iter = true) :
    SS X NM W (.Assign [.Name y py] (.ListComp elt [⟨tg, iter, ifs, 0⟩] scope pos) spos) (den P G (.asg (.tnm i) (.lcM et eg ei ec (own.map (·.2))))).s := by
  have main := lc_main (elt := elt) (tg := tg) (iter := iter) (ifs := ifs) (W := W) (et := et) (eg := eg) (ei := ei) (ec := ec) (vs := own.map (·.2)) F lcE_M
  refine ps_weak (ps_setLc (te := tR X.K NM (VR X.K NM) noW (den P G et).e) (g := tGw X.K NM (own.map (·.2)) (den P G eg).g) F.calm F.xn hy hyl hsw hi ok hg ht he (fold_no hs)) fun D σ H h => ?_
  obtain ⟨f, l, L, hR, hS, h⟩ := h
  refine main σ H _ ?_
  refine tR_bindS hR hS h fun v L1 f1 H1 w e r s rb h1 => ?_
  have h1 : AftS X.K NM W f1 H1 (RS.ofR (if i < l.length then .ok (l.set i (some v)) L1 else .bad : R LS) l fun σ1 H2 => .ok (.nx σ1) H2) D := h1
  split at h1
  · exact AftS.nx h1 r (s.set rb)
  · exact h1.elim
/-- the block's facts -/
theorem Fc.blk (F : Fc X NM W P G adr k) (s : Shared) (H : Hp) (scope : Scope) (C : Addr) (cl : List (Str × Addr)) (fp : List Addr) (hne : ∀ e ∈ P.lams, (relS scope X.env.scope).names ≠ e.2) : Fc (X.blk s H scope (compEnvC scope cl C X.env) fp) NM noW P G adr k where
  sf := F.sf
  gs := F.gs
  rm := F.rm
  tk := fun u s' ⟨_, _, _, _, _, _, _, _, _, _, _, _, _, _, _, _, w⟩ => w.elim
  po := PassesOwn.never
  calm := F.calm
  xn := F.xn
  mgn := F.mgn
  mgc := F.mgc
  mgs := F.mgs
  lam := fun e he h => absurd h (hne e he)
end
end PM

set_option Elab.async false
set_option linter.all false
set_option autoImplicit false
set_option maxHeartbeats 1000000
/-! # PM17: how arguments come to parameters -/
namespace PM
open PySem PySem.Spec PyProof.Rows
open L2 hiding St
/-! ### by names, on the machine's side -/
def fillV {α : Type} (sl : List (Str × α)) : List (Str × α) → List (Str × α)
  | [] => sl
  | (n, d) :: r => if (sl.lookup n).isNone then fillV (sl ++ [(n, d)]) r else fillV sl r
def kwOk {α : Type} (ps : List Str) (sl : List (Str × α)) : List (Str × α) → Prop
  | [] => True
  | (n, v) :: r => ps.contains n = true ∧ (sl.lookup n).isSome = false ∧ kwOk ps (sl ++ [(n, v)]) r
theorem forIn_kw {f : Str × Value → List (Str × Value) × List (Str × Value) → Sem (ForInStep (List (Str × Value) × List (Str × Value)))} {ps : List Str} (hf : ∀ (x : Str × Value) (sl : List (Str × Value)), ps.contains x.1 = true → (sl.lookup x.1).isSome = false → f x (sl, []) = pure (.yield (sl ++ [(x.1, x.2)], []))) :
    ∀ (kw sl : List (Str × Value)), kwOk ps sl kw → forIn kw (sl, ([] : List (Str × Value))) f = pure (sl ++ kw, [])
  | [], sl, _ => by simp
  | (n, v) :: r, sl, h => by
    rw [List.forIn_cons, hf (n, v) sl h.1 h.2.1]
    simp only [pure_bind]
    rw [forIn_kw hf r _ h.2.2]
    simp
theorem forIn_fill {f : Str × Value → List (Str × Value) → Sem (ForInStep (List (Str × Value)))} (hf : ∀ (x : Str × Value) (sl : List (Str × Value)), f x sl = if (sl.lookup x.1).isNone = true then pure (.yield (sl ++ [(x.1, x.2)])) else pure (.yield sl)) :
    ∀ (ds sl : List (Str × Value)), forIn ds sl f = pure (fillV sl ds)
  | [], sl => by simp [fillV]
  | (n, v) :: r, sl => by
    rw [List.forIn_cons, hf]
    unfold fillV
    split
    · simp only [pure_bind]
      exact forIn_fill hf r _
    · simp only [pure_bind]
      exact forIn_fill hf r _
theorem filter_none {sl : List (Str × Value)} : ∀ {ps : List Str}, (ps.all fun n => (sl.lookup n).isSome) = true → ps.filter (fun n => (sl.lookup n).isNone) = []
  | [], _ => rfl
  | p :: ps, h => by
    rw [List.all_cons, Bool.and_eq_true] at h
    rw [List.filter_cons, filter_none h.2, if_neg]
    cases q : sl.lookup p with
    | none => rw [q] at h; cases h.1
    | some v => simp
theorem zip_get {sl : List (Str × Value)} : ∀ {ps : List Str} {vs : List Value}, Paired (fun n v => sl.lookup n = some v) ps vs → ps.filterMap (fun n => (sl.lookup n).map fun v => (n, v)) = ps.zip vs
  | _, _, .nil => rfl
  | _, _, .cons h t => by
    rw [List.filterMap_cons, h]
    show _ :: _ = _
    rw [zip_get t]
    rfl
theorem binds_gen {M : Model} {A : Around} {E : Value → Shared → Prop} {Q : List (Str × Value) → Shared → Prop} {s : Shared} {fd : FuncData} {us its vs : List Value} {kw : List (Str × Value)} {ps : List Str}
    (h1 : fd.params.posonlyargs = []) (h2 : fd.params.kwonlyargs = []) (h3 : fd.params.vararg = none) (h4 : fd.params.kwarg = none) (h5 : fd.params.args.map (·.arg) = ps)
    (hd : ∀ {α : Type} (kk : Option (Array Value) → Sem α) (Q : α → Shared → Prop), (∀ o : Option (Array Value), (o.getD #[]).toList = its → wpAny M A (kk o) Q E s) → wpAny M A (seqItems? fd.defaults >>= kk) Q E s)
    (hl : us.length ≤ ps.length) (hi : its.length ≤ ps.length) (hk : kwOk ps (ps.zip us) kw) (hm : ((ps.take (ps.length - its.length)).all fun n => ((ps.zip us ++ kw).lookup n).isSome) = true)
    (hv : Paired (fun n v => (fillV (ps.zip us ++ kw) ((ps.drop (ps.length - its.length)).zip its)).lookup n = some v) ps vs) (hQ : Q (ps.zip vs) s) : wpAny M A (bindArgs fd ⟨us, kw⟩) Q E s := by
  unfold bindArgs
  simp only [h1, h2, h3, h4, h5, List.map_nil, List.nil_append, List.append_nil, Option.isSome_none, Option.isNone_none, Bool.and_true, List.contains_nil, Bool.or_false, if_false, Bool.false_eq_true, List.forIn_nil, List.isEmpty_nil, Bool.not_true, pure_bind, bind_pure_comp]
  rw [forIn_kw (ps := ps) (fun x sl c1 c2 => by rw [if_pos c1, if_neg (by rw [c2]; exact Bool.false_ne_true)]) kw _ hk]
  simp only [pure_bind]
  refine hd _ _ fun o ho => ?_
  simp only [ho]
  rw [if_neg (by rw [decide_eq_true_iff]; omega)]
  have e0 : its.length - ps.length = 0 := by omega
  simp only [e0, List.drop_zero]
  rw [filter_none hm]
  simp only [List.isEmpty_nil, Bool.not_true, Bool.false_eq_true, if_false]
  rw [forIn_fill (fun x sl => by rfl)]
  simp only [pure_bind, map_pure]
  rw [zip_get hv]
  exact wpAny_pure hQ
end PM

set_option Elab.async false
set_option linter.all false
set_option autoImplicit false
set_option maxHeartbeats 1000000
/-! # PM18: functions keep their promises -/
namespace PM
open PySem PySem.Spec PyProof.Rows
open L2 hiding St
theorem gam_succ (P : PM.Prog) (n c m : Nat) (vs : List LV) (kws : List (Nat × LV)) (H : LH) : gam P (n + 1) c m vs kws H = match P.fn c m with
    | none => .bad
    | some f => if f.fz then bnd (runFn P (gam P n) f) vs kws H else runFn P (gam P n) f vs kws H := rfl
/-- the tables of the defs that make lambdas -/
structure TabsH (K : PySem.W.Frag) (mg : Str → Option Value) (base : Heap) (NM : List Str) (P : PM.Prog) : Prop where
  mem : ∀ e ∈ P.lams, nm NM e.1 ∈ lamNames NM
  tab : ∀ x ∈ lamNames NM, LamX.TabB base mg (codeOf K (He.ga K x)) (tabOf K (codeOf K (He.ga K x)))
  un : ∀ x ∈ lamNames NM, ∀ p ∈ LT K NM, p.1 = tabOf K (codeOf K (He.ga K x)) → p.2 = lamQ x
section
variable {Pr : Program} {w : World} {K : PySem.W.Frag} {mg : Str → Option Value} {base : Heap} {NM : List Str} {P : PM.Prog} {G : Gam} {adr : Nat → Nat → Addr} {k : Nat}
theorem VRs.values {n : Nat} {f : Inj} {H : Hp} : ∀ {xs : List LV} {vs : List V}, VRs K NM f H xs vs → ∀ (i : Nat) (x : LV), (xs.map some ++ List.replicate n none)[i]? = some (some x) → ∃ v, vs[i]? = some v ∧ VR K NM f H x v := fun {xs vs} h i x e => by
  by_cases hi : i < xs.length
  · rw [List.getElem?_append_left (by simpa using hi), List.getElem?_map, List.getElem?_eq_getElem hi] at e
    have e : some xs[i] = some x := Option.some.inj e
    exact h.get ((List.getElem?_eq_getElem hi).trans e)
  · rw [List.getElem?_append_right (by simpa using hi)] at e
    rw [List.getElem?_replicate] at e
    split at e <;> cases e
theorem sr_start {f : Inj} {H : Hp} {N : List Str} {us : List LV} {vs : List V} (h : VRs K NM f H us vs) (hl : us.length ≤ N.length) : SR K NM f H (us.map some ++ List.replicate (N.length - us.length) none) (L2.start N vs) := by
  refine ⟨by unfold L2.start; simp [h.length], fun i x e => ?_⟩
  obtain ⟨v, e1, e2⟩ := VRs.values h i x e
  refine ⟨v, ?_, e2⟩
  unfold L2.start
  have hi : i < vs.length := (List.getElem?_eq_some_iff.mp e1).1
  rw [List.getElem?_append_left (by simpa using hi), List.getElem?_map, e1]
  rfl
/-- what is asked of a body: it does what its form in E says, wherever it runs -/
def BodyOk (NM : List Str) (P : PM.Prog) (N : List Str) (scope : Scope) (body : List Stmt) (e : E) : Prop :=
  ∀ (X : Cx) (W : WX) (G : Gam) (adr : Nat → Nat → Addr) (k : Nat), Fc X NM W P G adr k → X.env.scope = scope → X.N = N → (∀ x, X.fn x = true) → SSs X NM W body (den P G e).s
/-- what the entry's state and the body's form give -/
theorem body_run {f : Fn} {N : List Str} {scope : Scope} {body : List Stmt} {qual : Str} {fa : Addr} {cdv : Value} {A : Around} {outer : List Env} {s : Shared} {H : Hp} {Q : VK} {E : XK} {j : Inj} {L : LH} {us : List LV} {vs : List V}
    (sf : Sf K NM P adr) (gs : ∀ c m, FnS Pr w K mg base NM k (adr c m) (G c m)) (hb : BodyOk NM P N scope body f.body) (nd : N.Nodup) (hsl : f.slots = N.length) (mgn : ∀ x ∈ bltNames, mg x = none) (mgc : ∀ g v, P.con g = some v → ∃ w u, mg (nm NM g) = some u ∧ RelV w u ∧ ∀ f H, VR K NM f H v w) (mgs : ∀ g, P.glb g = true → mg (nm NM g) = some (.ref (gad K NM g))) (tbs : TabsH K mg base NM P)
    (hlm : ∀ e ∈ P.lams, scope.names = e.2 → qual = nm NM e.1 ∧ fa = gad K NM e.1) (hcv : cdv = .ref (codeOf K fa)) (hr : Room (k + 4) (A.deeper (envOfC qual scope s.heap.objs.size fa cdv))) (hR : RelH K NM j L H) (rv : VRs K NM j H us vs) (hul : us.length ≤ f.slots)
    (h : Aft K NM j H (match (den P G f.body).s (us.map some ++ List.replicate (f.slots - us.length) none) L with
      | .ok (.nx _) H1 => .ok .non H1
      | .ok (.rt v) H1 => .ok v H1
      | .exc x _ H1 => .exc x H1
      | _ => .bad : R LV) (fun a f' H' => ∀ v, VR K NM f' H' a v → Q v H') (fun x f' H' => ∀ cls d, XR K NM f' H' x cls d → E cls d H')) :
    ∃ t, PSs (cxOf (L2.CX Pr w) Pr w K mg base N qual scope fa cdv A outer s H E) body t ∧ t { nx := fun _ H' => Q .non H', rt := Q } (L2.start N vs) H := by
  have F : Fc (cxOf (L2.CX Pr w) Pr w K mg base N qual scope fa cdv A outer s H E) NM (fun cls d _ H => E cls d H) P G adr k :=
    ⟨sf, gs, hr.mono (by omega), takes_of rfl rfl rfl rfl, passes_of rfl, rfl, nd, mgn, mgc, mgs, fun e he hsc => by
      obtain ⟨h1, h2⟩ := hlm e he hsc
      have hm := tbs.mem e he
      refine ⟨⟨List.mem_map.mpr ⟨_, hm, rfl⟩, ?_, ?_, tbs.tab _ hm, tbs.un _ hm⟩, hr⟩
      · show qual ++ ".<locals>." ++ "<lambda>" = _
        rw [h1]
        rfl
      · show cdv = _
        rw [hcv, h2]
        rfl⟩
  refine ⟨_, hb _ _ G adr k F rfl rfl (fun _ => rfl), j, us.map some ++ List.replicate (f.slots - us.length) none, L, hR, by rw [hsl]; exact sr_start rv (by rw [← hsl]; exact hul), ?_⟩
  cases q : (den P G f.body).s (us.map some ++ List.replicate (f.slots - us.length) none) L with
  | ok fl L1 =>
    rw [q] at h
    cases fl with
    | nx l => exact fun f' H' σ' e r s => h f' H' e r _ rfl
    | rt v => exact fun f' H' w e r rw' => h f' H' e r _ rw'
    | bk l => exact h.elim
    | ct l => exact h.elim
  | exc x l L1 =>
    rw [q] at h
    exact fun f' H' σ' e r s cls d hx => h f' H' e r cls d hx
  | bad => rw [q] at h; exact h.elim
/-! ### by position, by name, by default -/
theorem kw_rel {f : Inj} {H : Hp} (nd : NM.Nodup) : ∀ {sl : List (Nat × LV)} {gs : List (Str × V)} {vs : List (Str × Value)}, FR K NM f H sl gs → KV gs vs → ∀ n, n < NM.length → (fget sl n = none → vs.lookup (nm NM n) = none) ∧ ∀ x, fget sl n = some x → ∃ v u, vs.lookup (nm NM n) = some u ∧ RelV v u ∧ VR K NM f H x v := by
  intro sl gs vs r kv n hn
  have look : ∀ {gs : List (Str × V)} {vs : List (Str × Value)}, KV gs vs → ∀ x, (gs.lookup x = none → vs.lookup x = none) ∧ ∀ v, gs.lookup x = some v → ∃ u, vs.lookup x = some u ∧ RelV v u := by
    intro gs vs kv x
    induction kv with
    | nil => exact ⟨fun _ => rfl, fun v e => by cases e⟩
    | @cons a b l1 l2 hab _ ih =>
      obtain ⟨n1, v1⟩ := a
      obtain ⟨n2, v2⟩ := b
      obtain ⟨e1, e2⟩ := hab
      simp only at e1 e2
      subst e1
      rw [List.lookup_cons, List.lookup_cons]
      cases q : (x == n1) with
      | true => exact ⟨fun e => (by cases e), fun v e => (by cases e; exact ⟨v2, rfl, e2⟩)⟩
      | false => exact ih
  obtain ⟨h1, h2⟩ := FR.lookup nd hn r
  refine ⟨fun e => (look kv _).1 (h1 e), fun x e => ?_⟩
  obtain ⟨v, e1, e2⟩ := h2 x e
  obtain ⟨u, e3, e4⟩ := (look kv _).2 v e1
  exact ⟨v, u, e3, e4, e2⟩
theorem FR.append {f : Inj} {H : Hp} : ∀ {a b : List (Nat × LV)} {c d : List (Str × V)}, FR K NM f H a c → FR K NM f H b d → FR K NM f H (a ++ b) (c ++ d)
  | [], _, c, _, h, h' => by obtain rfl : c = [] := h; exact h'
  | (n, x) :: a, _, c, _, h, h' => by
    obtain ⟨w, ws, rfl, e1, e2, e3⟩ := h
    exact ⟨w, _, rfl, e1, e2, FR.append e3 h'⟩
theorem fr_zip {f : Inj} {H : Hp} : ∀ {ps : List Nat} {xs : List LV} {vs : List V}, (∀ i ∈ ps, i < NM.length) → VRs K NM f H xs vs → FR K NM f H (ps.zip xs) ((ps.map (nm NM)).zip vs)
  | [], xs, vs, _, _ => by simp; rfl
  | p :: ps, [], vs, _, h => by obtain rfl : vs = [] := h; simp; rfl
  | p :: ps, x :: xs, vs, hl, h => by
    obtain ⟨w, ws, rfl, e1, e2⟩ := h
    exact ⟨w, _, rfl, hl p (List.mem_cons_self ..), e1, fr_zip (fun i hi => hl i (List.mem_cons_of_mem _ hi)) e2⟩
theorem KV.append {κ : Type} : ∀ {a b : List (κ × V)} {c d : List (κ × Value)}, KV a c → KV b d → KV (a ++ b) (c ++ d)
  | _, _, _, _, .nil, h => h
  | _, _, _, _, .cons r t, h => .cons r (KV.append t h)
theorem fill_rel {f : Inj} {H : Hp} (nd : NM.Nodup) : ∀ {ds : List (Nat × LV)} {dg : List (Str × V)} {dv : List (Str × Value)} {sl : List (Nat × LV)} {gs : List (Str × V)} {vs : List (Str × Value)}, FR K NM f H ds dg → KV dg dv → FR K NM f H sl gs → KV gs vs →
    ∃ gs', FR K NM f H (fillL sl ds) gs' ∧ KV gs' (fillV vs dv)
  | [], dg, dv, sl, gs, vs, hd, kd, hr, kr => by
    obtain rfl : dg = [] := hd
    cases kd
    exact ⟨gs, hr, kr⟩
  | (n, x) :: ds, dg, dv, sl, gs, vs, hd, kd, hr, kr => by
    obtain ⟨w, ws, rfl, hn, e2, e3⟩ := hd
    cases kd with
    | @cons a b l1 l2 hab kt =>
      obtain ⟨n2, v2⟩ := b
      obtain ⟨e4, e5⟩ := hab
      simp only at e4 e5
      subst e4
      obtain ⟨k1, k2⟩ := kw_rel nd hr kr n hn
      unfold fillL fillV
      cases q : fget sl n with
      | none =>
        rw [k1 q]
        exact fill_rel nd e3 kt (hr.append (b := [(n, x)]) (d := [(nm NM n, w)]) ⟨w, [], rfl, hn, e2, rfl⟩) (KV.append kr (.cons ⟨rfl, e5⟩ .nil))
      | some y =>
        obtain ⟨v, u, e6, _, _⟩ := k2 y q
        rw [e6]
        exact fill_rel nd e3 kt hr kr
theorem kwOk_rel {f : Inj} {H : Hp} (nd : NM.Nodup) {ps : List Nat} : ∀ {kws : List (Nat × LV)} {kg : List (Str × V)} {kv : List (Str × Value)} {sl : List (Nat × LV)} {gs : List (Str × V)} {vs : List (Str × Value)}, FR K NM f H kws kg → KV kg kv → FR K NM f H sl gs → KV gs vs → kwGood ps sl kws = true → kwOk (ps.map (nm NM)) vs kv
  | [], kg, kv, sl, gs, vs, hd, kd, hr, kr, h => by
    obtain rfl : kg = [] := hd
    cases kd
    trivial
  | (n, x) :: kws, kg, kv, sl, gs, vs, hd, kd, hr, kr, h => by
    obtain ⟨w, ws, rfl, hn, e2, e3⟩ := hd
    cases kd with
    | @cons a b l1 l2 hab kt =>
      obtain ⟨n2, v2⟩ := b
      obtain ⟨e4, e5⟩ := hab
      simp only at e4 e5
      subst e4
      unfold kwGood at h
      rw [Bool.and_eq_true, Bool.and_eq_true] at h
      obtain ⟨h1, h2, h3⟩ := h
      obtain ⟨k1, k2⟩ := kw_rel nd hr kr n hn
      refine ⟨?_, ?_, kwOk_rel nd e3 kt (hr.append (b := [(n, x)]) (d := [(nm NM n, w)]) ⟨w, [], rfl, hn, e2, rfl⟩) (KV.append kr (.cons ⟨rfl, e5⟩ .nil)) h3⟩
      · rw [List.contains_iff_mem] at h1 ⊢
        exact List.mem_map_of_mem h1
      · cases q : fget sl n with
        | none => rw [k1 q]; rfl
        | some y => rw [q] at h2; cases h2
theorem allGet_rel {f : Inj} {H : Hp} (nd : NM.Nodup) {sl : List (Nat × LV)} {gs : List (Str × V)} {vs : List (Str × Value)} (hr : FR K NM f H sl gs) (kr : KV gs vs) : ∀ {ps : List Nat} {us : List LV}, (∀ i ∈ ps, i < NM.length) → allGet sl ps = some us →
    ∃ ws zs, VRs K NM f H us ws ∧ Vals ws zs ∧ Paired (fun n v => vs.lookup n = some v) (ps.map (nm NM)) zs
  | [], us, _, h => by cases h; exact ⟨[], [], VRs.nil, .nil, .nil⟩
  | p :: ps, us, hl, h => by
    unfold allGet at h
    split at h
    · rename_i v vs' h1 h2
      cases h
      obtain ⟨_, k2⟩ := kw_rel nd hr kr p (hl p (List.mem_cons_self ..))
      obtain ⟨v1, u1, e1, e2, e3⟩ := k2 v h1
      obtain ⟨ws, zs, e4, e5, e6⟩ := allGet_rel nd hr kr (fun i hi => hl i (List.mem_cons_of_mem _ hi)) h2
      exact ⟨v1 :: ws, u1 :: zs, VRs.cons e3 e4, .cons e2 e5, .cons e1 e6⟩
    · cases h
theorem all_rel {f : Inj} {H : Hp} (nd : NM.Nodup) {sl : List (Nat × LV)} {gs : List (Str × V)} {vs : List (Str × Value)} (hr : FR K NM f H sl gs) (kr : KV gs vs) : ∀ {ps : List Nat}, (∀ i ∈ ps, i < NM.length) → (ps.all fun n => (fget sl n).isSome) = true → ((ps.map (nm NM)).all fun n => (vs.lookup n).isSome) = true
  | [], _, _ => rfl
  | p :: ps, hl, h => by
    rw [List.all_cons, Bool.and_eq_true] at h
    rw [List.map_cons, List.all_cons, Bool.and_eq_true]
    refine ⟨?_, all_rel nd hr kr (fun i hi => hl i (List.mem_cons_of_mem _ hi)) h.2⟩
    obtain ⟨_, k2⟩ := kw_rel nd hr kr p (hl p (List.mem_cons_self ..))
    cases q : fget sl p with
    | none => rw [q] at h; cases h.1
    | some y =>
      obtain ⟨v, u, e, _⟩ := k2 y q
      rw [e]; rfl
theorem codeOf_of {K : PySem.W.Frag} {fa : Addr} {oc : Value} {od : Option Addr} {fd : FuncData} {osl : Array (Option Value)} (lk : K.lookup fa = some ⟨oc, od, .func fd, osl⟩) (hcd : PySem.W.codeIn K fd.code fd.qualname = true) : fd.code = .ref (codeOf K fa) := by
  unfold codeOf
  rw [lk]
  dsimp only
  unfold PySem.W.codeIn at hcd
  split at hcd
  · rename_i c hq
    rw [hq]
  · cases hcd
theorem _root_.L2.FunD.okC {P : Program} {w : World} {K : PySem.W.Frag} {mg : Str → Option Value} {base : Heap} {x qual : Str} {params : Arguments} {body : List Stmt} {scope : Scope} {dvs : List V} {kws : List (Str × V)} {f : Addr} {fd : FuncData} {CX : CXT} {N ps : List Str} {k : Nat} {sp : Sp} (F : FunD K x qual params body scope dvs kws f fd) (S : FnScope N ps scope) (len : ∀ vs H Q E, sp vs H Q E → vs.length = ps.length)
    (hb : ∀ (cdv : Value), cdv = .ref (codeOf K f) → ∀ (A : Around) (outer : List Env) (s : Shared) (H : Hp) (vs : List V) (Q : VK) (E : XK), Room k (A.deeper (envOfC qual scope s.heap.objs.size f cdv)) → sp vs H Q E →
      ∃ t, PSs (cxOf CX P w K mg base N qual scope f cdv A outer s H E) body t ∧ t { nx := fun _ H' => Q .non H', rt := Q } (L2.start N vs) H) : FnOk P w K mg base CX (k + 1) f fd ps sp := by
  obtain ⟨oc, od, dV, kV, doc, pm, an, cdv, ct, osl, rfl, lk, hcd, _, _⟩ := F.ex
  exact fn_of lk hcd S len fun A outer s H vs Q E hr hsp => hb cdv (codeOf_of lk hcd) A outer s H vs Q E hr hsp
/-- what the text says of a def -/
structure FnT (K : PySem.W.Frag) (NM : List Str) (P : PM.Prog) (fa : Addr) (f : Fn) (N : List Str) (x qual : Str) (params : Arguments) (body : List Stmt) (scope : Scope) (dvs : List V) : Prop where
  fd : ∃ fd, FunD K x qual params body scope dvs [] fa fd
  sc : FnScope N (if f.sig.star then f.sig.ps.map (nm NM) ++ [(params.vararg.map (·.arg)).getD Str.empty] else f.sig.ps.map (nm NM)) scope
  po : params.posonlyargs = []
  ko : params.kwonlyargs = []
  ka : params.kwarg = none
  va : params.vararg.isSome = f.sig.star
  ar : params.args.map (·.arg) = f.sig.ps.map (nm NM)
  ix : ∀ i ∈ f.sig.ps, i < NM.length
  ds : ∀ j H, VRs K NM j H f.sig.ds dvs
  sl : f.slots = N.length
  bd : BodyOk NM P N scope body f.body
  lm : ∀ e ∈ P.lams, scope.names = e.2 → qual = nm NM e.1 ∧ fa = gad K NM e.1
theorem fn_plain {fa : Addr} {f : Fn} {N : List Str} {x qual : Str} {params : Arguments} {body : List Stmt} {scope : Scope} {dvs : List V} (T : FnT K NM P fa f N x qual params body scope dvs) (hst : f.sig.star = false)
    (sf : Sf K NM P adr) (gs : ∀ c m, FnS Pr w K mg base NM k (adr c m) (G c m)) (mgn : ∀ x ∈ bltNames, mg x = none) (mgc : ∀ g v, P.con g = some v → ∃ w u, mg (nm NM g) = some u ∧ RelV w u ∧ ∀ f H, VR K NM f H v w) (mgs : ∀ g, P.glb g = true → mg (nm NM g) = some (.ref (gad K NM g))) (tbs : TabsH K mg base NM P) : FnS Pr w K mg base NM (k + 5) fa (runFn P G f) := by
  intro A outer s H us vs kw kv Q E hr e0 rv rk h
  obtain ⟨j, L, xs, kxs, hR, rxs, rkx, h⟩ := h
  obtain ⟨fd, FD⟩ := T.fd
  have sc := T.sc
  rw [hst, if_neg Bool.false_ne_true] at sc
  have OK : FnOk Pr w K mg base (L2.CX Pr w) (k + 5) fa fd (f.sig.ps.map (nm NM)) (fun vs H Q E => vs.length = (f.sig.ps.map (nm NM)).length ∧ ∃ j L us, RelH K NM j L H ∧ VRs K NM j H us vs ∧ us.length ≤ f.slots ∧ Aft K NM j H (match (den P G f.body).s (us.map some ++ List.replicate (f.slots - us.length) none) L with
      | .ok (.nx _) H1 => .ok .non H1
      | .ok (.rt v) H1 => .ok v H1
      | .exc x _ H1 => .exc x H1
      | _ => .bad : R LV) (fun a f' H' => ∀ v, VR K NM f' H' a v → Q v H') (fun x f' H' => ∀ cls d, XR K NM f' H' x cls d → E cls d H')) :=
    FD.okC sc (fun _ _ _ _ h => h.1) fun cdv hcv A outer s H vs Q E hr ⟨_, j, L, us, h1, h2, h3, h4⟩ => body_run sf gs T.bd sc.nd T.sl mgn mgc mgs tbs T.lm hcv hr h1 h2 h3 h4
  unfold runFn at h
  split at h
  · exact h.elim
  · rename_i us' hb
    split at h
    · rename_i hul
      unfold Sig.bind at hb
      rw [hst, if_neg Bool.false_ne_true] at hb
      split at hb
      · rename_i hc
        simp only [Bool.and_eq_true, decide_eq_true_eq] at hc
        obtain ⟨⟨⟨⟨_, c1⟩, c2⟩, c3⟩, c4⟩ := hc
        have z1 := fr_zip (NM := NM) (K := K) (ps := f.sig.ps) T.ix rxs
        have z2 := kv_zip rv (f.sig.ps.map (nm NM))
        have y1 := z1.append rkx
        have y2 := KV.append z2 rk
        obtain ⟨oc, od, dV, kV, doc, pm, an, cdv, ct, osl, rfl, lk, hcd, hD, hK⟩ := FD.ex
        have KX : K.In s.heap := e0.mod.kin.keeps fun b o e => (e0.bs b o e).1
        -- the defaults
        obtain ⟨its, rits, hits⟩ : ∃ its : List Value, Vals dvs its ∧ ∀ {α : Type} {M : Model} {A : Around} {E : Value → Shared → Prop} (kk : Option (Array Value) → Sem α) (Q : α → Shared → Prop), (∀ o : Option (Array Value), (o.getD #[]).toList = its → wpAny M A (kk o) Q E s) → wpAny M A (seqItems? dV >>= kk) Q E s := by
          rcases hD with ⟨rfl, rfl⟩ | ⟨hne, Tt, o, its, n, rfl, lT, oT, rT⟩
          · exact ⟨[], .nil, fun kk Q hh => hh none rfl⟩
          · exact ⟨its, rT, fun kk Q hh => wpAny_bind (wpAny_seqItems (KX _ _ lT) oT (hh (some its.toArray) (by simp)))⟩
        have ld : f.sig.ds.length = its.length := by rw [(T.ds j H).length, rits.length]
        have w1 := fr_zip (NM := NM) (K := K) (ps := f.sig.ps.drop (f.sig.ps.length - f.sig.ds.length)) (fun i hi => T.ix i (List.mem_of_mem_drop hi)) (T.ds j H)
        have w2 := kv_zip rits ((f.sig.ps.drop (f.sig.ps.length - f.sig.ds.length)).map (nm NM))
        obtain ⟨gs', g1, g2⟩ := fill_rel sf.nd w1 w2 y1 y2
        obtain ⟨ws, zs, v1, v2, v3⟩ := allGet_rel sf.nd g1 g2 T.ix hb
        have lz : ws.length = (f.sig.ps.map (nm NM)).length := by rw [v2.length, ← v3.length]
        refine OK.run A outer s H ⟨us, kw⟩ zs ws Q E hr e0 (fun M A E Q hq => ?_) v2 ⟨lz, j, L, us', hR, v1, hul, h⟩
        refine binds_gen (ps := f.sig.ps.map (nm NM)) (its := its) (vs := zs) T.po T.ko ?_ T.ka T.ar (fun kk Q hh => hits kk Q hh) ?_ ?_ (kwOk_rel sf.nd rkx rk z1 z2 c3) ?_ ?_ hq
        · have := T.va
          rw [hst] at this
          show params.vararg = none
          cases q : params.vararg with
          | none => rfl
          | some a => rw [q] at this; cases this
        · rw [List.length_map, ← rv.length, ← rxs.length]; exact c1
        · rw [List.length_map, ← ld]; exact c2
        · rw [List.length_map, ← ld, ← List.map_take]
          exact all_rel sf.nd y1 y2 (fun i hi => T.ix i (List.mem_of_mem_take hi)) c4
        · rw [List.length_map, ← ld, ← List.map_drop]
          exact v3
      · cases hb
    · exact h.elim
/-- def f(a, .., *v) -/
theorem bind_starG {fd : FuncData} {us rest : List Value} {ps : List Str} {a : Arg} (h1 : fd.params.posonlyargs = []) (h2 : fd.params.kwonlyargs = []) (h3 : fd.params.vararg = some a) (h4 : fd.params.kwarg = none) (h5 : fd.params.args.map (·.arg) = ps) (h6 : fd.defaults = .none) (hl : us.length = ps.length) (nd : ps.Nodup) :
    bindArgs fd ⟨us ++ rest, []⟩ = (newTuple rest >>= fun t => pure (ps.zip us ++ [(a.arg, t)])) := by
  have hs : seqItems? Value.none = pure none := rfl
  have look : ∀ (ps : List Str) (us : List Value), us.length = ps.length → ps.Nodup → Paired (fun n v => (ps.zip us).lookup n = some v) ps us := by
    intro ps
    induction ps with
    | nil => intro us h _; cases us with
      | nil => exact .nil
      | cons u us => cases h
    | cons p ps ih =>
      intro us h hn
      cases us with
      | nil => cases h
      | cons u us =>
        rw [List.nodup_cons] at hn
        refine .cons (by simp) ?_
        have z := ih us (by simpa using h) hn.2
        have lift : ∀ (qs : List Str) (ws : List Value), (∀ q ∈ qs, q ≠ p) → Paired (fun n v => (ps.zip us).lookup n = some v) qs ws → Paired (fun n v => ((p :: ps).zip (u :: us)).lookup n = some v) qs ws := by
          intro qs ws hq hz
          induction hz with
          | nil => exact .nil
          | @cons q w qs ws hw _ ih2 =>
            refine .cons ?_ (ih2 fun q' h' => hq q' (List.mem_cons_of_mem _ h'))
            rw [List.zip_cons_cons, List.lookup_cons, beq_eq_false_iff_ne.mpr (hq q (List.mem_cons_self ..))]
            exact hw
        exact lift ps us (fun q hq e => hn.1 (e ▸ hq)) z
  have cut : (us ++ rest).drop ps.length = rest := by rw [← hl]; simp
  have zz : ps.zip (us ++ rest) = ps.zip us := by
    have : ps.zip (us ++ rest) = (ps ++ []).zip (us ++ rest) := by rw [List.append_nil]
    rw [this, List.zip_append hl.symm]
    simp
  have z := look ps us hl nd
  have al : (ps.all fun n => ((ps.zip us).lookup n).isSome) = true := by
    have go : ∀ (qs : List Str) (ws : List Value), Paired (fun n v => (ps.zip us).lookup n = some v) qs ws → (qs.all fun n => ((ps.zip us).lookup n).isSome) = true := by
      intro qs ws h
      induction h with
      | nil => rfl
      | cons h _ ih => rw [List.all_cons, h, ih]; rfl
    exact go ps us z
  have e1 : ((none : Option (Array Value)).getD #[]).toList = [] := rfl
  unfold bindArgs
  simp only [h1, h2, h3, h4, h5, h6, hs, List.map_nil, List.nil_append, List.append_nil, Option.isSome_none, Option.isNone_none, Option.isNone_some, Bool.and_false, List.contains_nil, Bool.or_false, if_false, Bool.false_eq_true, List.forIn_nil, List.isEmpty_nil, Bool.not_true, pure_bind, bind_pure_comp, e1, List.drop_nil, List.length_nil, Nat.sub_zero, List.take_length, List.drop_length, zz, cut, filter_none al, List.zip_nil_left, zip_get z]
theorem fn_starS {fa : Addr} {f : Fn} {N : List Str} {x qual : Str} {params : Arguments} {body : List Stmt} {scope : Scope} {dvs : List V} (T : FnT K NM P fa f N x qual params body scope dvs) (hst : f.sig.star = true)
    (sf : Sf K NM P adr) (gs : ∀ c m, FnS Pr w K mg base NM k (adr c m) (G c m)) (mgn : ∀ x ∈ bltNames, mg x = none) (mgc : ∀ g v, P.con g = some v → ∃ w u, mg (nm NM g) = some u ∧ RelV w u ∧ ∀ f H, VR K NM f H v w) (mgs : ∀ g, P.glb g = true → mg (nm NM g) = some (.ref (gad K NM g))) (tbs : TabsH K mg base NM P) : FnS Pr w K mg base NM (k + 5) fa (runFn P G f) := by
  intro A outer s H us vs kw kv Q E hr e0 rv rk h
  obtain ⟨j, L, xs, kxs, hR, rxs, rkx, h⟩ := h
  obtain ⟨fd, FD⟩ := T.fd
  have sc := T.sc
  rw [hst, if_pos rfl] at sc
  unfold runFn at h
  split at h
  · exact h.elim
  · rename_i us' hb
    split at h
    · rename_i hul
      unfold Sig.bind at hb
      rw [hst, if_pos rfl] at hb
      split at hb
      · rename_i hc
        simp only [Bool.and_eq_true, decide_eq_true_eq, List.isEmpty_iff] at hc
        obtain ⟨⟨⟨⟨c1, c2⟩, c3⟩, c4⟩, c5⟩ := hc
        subst c1
        obtain rfl : kv = [] := rkx
        cases rk
        cases hb
        obtain ⟨oc, od, dV, kV, doc, pm, an, cdv, ct, osl, rfl, lk, hcd, hD, hK⟩ := FD.ex
        have dn : dV = .none := by
          rcases hD with ⟨_, h⟩ | ⟨hne, _⟩
          · exact h
          · have := T.ds j H
            rw [c2] at this
            exact absurd this hne
        subst dn
        obtain ⟨a, ha⟩ : ∃ a, params.vararg = some a := by
          have := T.va
          rw [hst] at this
          exact Option.isSome_iff_exists.mp this
        rw [ha] at sc
        have nd : (f.sig.ps.map (nm NM)).Nodup := by
          have h1 := sc.nd
          have h2 := sc.pre
          have h3 := List.Sublist.nodup (List.take_sublist (f.sig.ps.map (nm NM) ++ [(((some a).map (·.arg)).getD Str.empty)]).length N) h1
          rw [h2] at h3
          exact (List.nodup_append.mp h3).1
        have S := StX.fn_star (CX := L2.CX Pr w) (sp := fun vs H Q E => ∃ j L us, RelH K NM j L H ∧ VRs K NM j H us vs ∧ us.length ≤ f.slots ∧ Aft K NM j H (match (den P G f.body).s (us.map some ++ List.replicate (f.slots - us.length) none) L with
          | .ok (.nx _) H1 => .ok .non H1
          | .ok (.rt v) H1 => .ok v H1
          | .exc x _ H1 => .exc x H1
          | _ => .bad : R LV) (fun a f' H' => ∀ v, VR K NM f' H' a v → Q v H') (fun x f' H' => ∀ cls d, XR K NM f' H' x cls d → E cls d H')) (k := k + 4) lk hcd sc StX.cxUp
          (fun us rest hl => bind_starG T.po T.ko ha T.ka T.ar rfl hl nd)
          (fun A outer s H vs Q E hr ⟨j, L, us, h1, h2, h3, h4⟩ => body_run sf gs T.bd sc.nd T.sl mgn mgc mgs tbs T.lm (cdv := cdv) (codeOf_of lk hcd) hr h1 h2 h3 h4)
        refine S A outer s H us vs Q E hr e0 rv ⟨vs.take f.sig.ps.length, vs.drop f.sig.ps.length, (List.take_append_drop _ _).symm, ?_, ?_, fun p hp => ?_⟩
        · rw [List.length_take, List.length_map, ← rxs.length]; omega
        · rw [List.length_drop, ← rxs.length, ← SL_eq]; omega
        · refine ⟨j, L, _, hR.put hp, ?_, hul, Aft.ext h (Ext.put hp)⟩
          refine VRs.append (VRs.mono (Ext.put hp).mo _ _ (rxs.take _)) (VRs.cons ⟨p, vs.drop f.sig.ps.length, rfl, SqT.of upd_same, VRs.mono (Ext.put hp).mo _ _ (rxs.drop _)⟩ VRs.nil)
      · cases hb
    · exact h.elim
theorem fnS_bnd {fa : Addr} {run : List LV → List (Nat × LV) → LH → R LV} (F : FnS Pr w K mg base NM k fa run) : FnS Pr w K mg base NM k fa (bnd run) := fun A outer s H us vs kw kv Q E hr e0 rv rk ⟨j, L, xs, kxs, h1, h2, h3, h4⟩ => by
  obtain ⟨j', L', xs', kxs', q⟩ := aft_bnd h1 h2 h3 h4
  exact F A outer s H us vs kw kv Q E hr e0 rv rk ⟨j', L', xs', kxs', q⟩
/-- the whole table: one call deep each time -/
theorem fns_all (sf : Sf K NM P adr) (mgn : ∀ x ∈ bltNames, mg x = none) (mgc : ∀ g v, P.con g = some v → ∃ w u, mg (nm NM g) = some u ∧ RelV w u ∧ ∀ f H, VR K NM f H v w) (mgs : ∀ g, P.glb g = true → mg (nm NM g) = some (.ref (gad K NM g))) (tbs : TabsH K mg base NM P)
    (hT : ∀ c m f, P.fn c m = some f → ∃ N x qual params body scope dvs, FnT K NM P (adr c m) f N x qual params body scope dvs) : ∀ (n c m : Nat), FnS Pr w K mg base NM (5 * n) (adr c m) (gam P n c m)
  | 0, c, m => fun A outer s H us vs kw kv Q E hr e0 rv rk ⟨j, L, xs, kxs, _, _, _, h⟩ => h.elim
  | n + 1, c, m => by
    cases q : P.fn c m with
    | none =>
      intro A outer s H us vs kw kv Q E hr e0 rv rk ⟨j, L, xs, kxs, _, _, _, h⟩
      rw [gam_succ, q] at h
      exact h.elim
    | some f =>
      obtain ⟨N, x, qual, params, body, scope, dvs, T⟩ := hT c m f q
      have ih := fns_all sf mgn mgc mgs tbs hT n
      have run : FnS Pr w K mg base NM (5 * n + 5) (adr c m) (runFn P (gam P n) f) := by
        cases hs : f.sig.star with
        | true => exact fn_starS T hs sf ih mgn mgc mgs tbs
        | false => exact fn_plain T hs sf ih mgn mgc mgs tbs
      cases hz : f.fz with
      | false =>
        have e : gam P (n + 1) c m = runFn P (gam P n) f := by
          funext vs kws H
          rw [gam_succ, q]
          show (if f.fz = true then _ else _) = _
          rw [hz]
          rfl
        rw [e]
        exact run
      | true =>
        have e : gam P (n + 1) c m = bnd (runFn P (gam P n) f) := by
          funext vs kws H
          rw [gam_succ, q]
          show (if f.fz = true then _ else _) = _
          rw [hz]
          rfl
        rw [e]
        exact fnS_bnd run
end
end PM

set_option Elab.async false
set_option linter.all false
set_option autoImplicit false
set_option maxHeartbeats 2000000
/-! # PMe1: own errors are made and raised -/
namespace PM
open PySem PySem.Spec PyProof.Rows
open L2 hiding St
/-- every parameter given, none with a default -/
theorem binds_flat {K : PySem.W.Frag} {x qual : Str} {params : Arguments} {body : List Stmt} {scope : Scope} {fa : Addr} {fd : FuncData} {ps : List Str} (FD : FunD K x qual params body scope [] [] fa fd) (nd : ps.Nodup) (h1 : params.posonlyargs = []) (h2 : params.kwonlyargs = []) (h3 : params.vararg = none) (h4 : params.kwarg = none) (h5 : params.args.map (·.arg) = ps) : L2.Binds K fd ps [] := by
  intro s us KX hl
  obtain ⟨oc, od, dV, kV, doc, pm, an, cdv, ct, osl, rfl, lk, hcd, hD, hK⟩ := FD.ex
  have dn : dV = .none := by
    rcases hD with ⟨_, h⟩ | ⟨hne, _⟩
    · exact h
    · exact absurd rfl hne
  subst dn
  rw [List.append_nil] at hl ⊢
  have pr : ∀ (ps : List Str) (us : List Value), us.length = ps.length → ps.Nodup → Paired (fun n v => (ps.zip us).lookup n = some v) ps us := by
    intro ps
    induction ps with
    | nil => intro us h _; cases us with
      | nil => exact .nil
      | cons u us => cases h
    | cons p ps ih =>
      intro us h hn
      cases us with
      | nil => cases h
      | cons u us =>
        rw [List.nodup_cons] at hn
        have z := ih us (by simpa using h) hn.2
        have lift : ∀ (qs : List Str) (ws : List Value), (∀ q ∈ qs, q ≠ p) → Paired (fun n v => (ps.zip us).lookup n = some v) qs ws → Paired (fun n v => ((p :: ps).zip (u :: us)).lookup n = some v) qs ws := by
          intro qs ws hq hz
          induction hz with
          | nil => exact .nil
          | @cons q w qs ws hw _ ih2 =>
            refine .cons ?_ (ih2 fun q' h' => hq q' (List.mem_cons_of_mem _ h'))
            rw [List.zip_cons_cons, List.lookup_cons, beq_eq_false_iff_ne.mpr (hq q (List.mem_cons_self ..))]
            exact hw
        exact .cons (by simp) (lift ps us (fun q hq e => hn.1 (e ▸ hq)) z)
  have z := pr ps us hl nd
  intro M A E Q hq
  refine binds_gen (ps := ps) (its := []) (vs := us) h1 h2 h3 h4 h5 (fun kk Q hh => hh none rfl) (by omega) (Nat.zero_le _) trivial ?_ ?_ hq
  · have go : ∀ (qs : List Str) (ws : List Value), Paired (fun n v => (ps.zip us).lookup n = some v) qs ws → (qs.all fun n => ((ps.zip us ++ []).lookup n).isSome) = true := by
      intro qs ws h
      induction h with
      | nil => rfl
      | cons h _ ih => rw [List.all_cons, List.append_nil, h, ← List.append_nil (ps.zip us), ih]; rfl
    simpa using go ps us z
  · simpa [fillV] using z
section
variable {X : Cx} {NM : List Str} {W : WX} {P : PM.Prog} {G : Gam} {adr : Nat → Nat → Addr} {k : Nat}
/-- B.__init__(self, ..), B an own class whose __init__ is ValueError's -/
theorem pe_base {b : Str} {C0 : Addr} {e : Expr} {es : List Expr} {ta : TA} {p1 p2 pos : Pos} (hg : Gl X b) (hm : X.mg b = some (.ref C0)) (hdb : (b == ("__debug__" : Str)) = false) (hr : PySem.W.readsIn X.K C0 (.type "type") = true) (hga : PySem.W.specialIn X.K (.ref C0) "__getattribute__" = some (some (.builtin "type.__getattribute__")))
    (hf : PySem.W.findCls X.K (.ref C0) (.type "type") "__init__" = some (.val (.builtin "ValueError.__init__"))) (hsup : baseOk (.Name b p1) = true) (hfew : fewOk (e :: es) [] = true) (hli : (p2.endLine == pos.line) = true) (ha : PA X (e :: es) ta) :
    PE X (.Call (.Attribute (.Name b p1) "__init__" p2) (e :: es) [] pos) (tVeI X.K ta) := by
  have hal : (e :: es).all notStar = true := by
    unfold fewOk at hfew
    rw [Bool.and_eq_true] at hfew
    exact hfew.1
  have hal2 : notStar e = true ∧ es.all notStar = true := by rw [List.all_cons, Bool.and_eq_true] at hal; exact hal
  refine ⟨fun pins s σ H Q I h => ?_⟩
  refine PySem.W.methodCall_KW (ld_glob I hg hm ?_ hdb) (mcall_eq (ns := []) hsup hfew rfl hli)
  refine PySem.W.method_cls I.kIn hga (PySem.W.cls_value I.kIn hr hf rfl ?_)
  refine PyProof.Rows.callWith_method1 (thn (ha.run pos pins _ σ H _ (I.tok _) h) fun us s1 hh => ?_) (star_head hal2.1) (plain_all hal2.2)
  obtain ⟨vs, H1, I1, r1, a, C, ws, ev, hl, T, ea, q⟩ := hh
  subst ev
  cases r1 with
  | @cons _ u0 _ ur ra rw' =>
    obtain rfl : u0 = Value.ref a := ra
    exact oinit_ok T I1 ea (by rw [← Paired.length rw', sizeLine_eq]; omega) fun s' J => ⟨.non, H1, J, rfl, q⟩
/-- what an own error's __init__ does -/
def initSp (K : PySem.W.Frag) (C : Addr) (code : Str) : Option Str → Sp
  | none => fun vs H Q _ => ∃ a, vs = [.ref a] ∧ H a = some (exo a C none) ∧ ∀ dx, H dx = none → dx ≠ a → Q .non (upd (upd H dx (exd dx [("code", .str code)])) a (exo a C (some dx)))
  | some f => fun vs H Q _ => ∃ a v, vs = [.ref a, v] ∧ H a = some (exo a C none) ∧ ∀ dx, H dx = none → dx ≠ a → Q .non (upd (upd (upd H dx (exd dx [("code", .str code)])) a (exo a C (some dx))) dx (exd dx [(f, v), ("code", .str code)]))
theorem err_body {N : List Str} {body : List Stmt} {b s code : Str} {fl : Option (Str × Str)} {C C0 : Addr} {outer : Unit} (hX : X.N = N) (hb : errShape body = some (b, s, code, fl)) (hp : N.take (s :: (fl.map (·.2)).toList).length = s :: (fl.map (·.2)).toList) (hv : ∀ y ∈ s :: (fl.map (·.2)).toList, Vis X.env.scope y) (hnb : ∀ y ∈ s :: (fl.map (·.2)).toList, (y == ("__debug__" : Str)) = false ∧ (y == ("__classdict__" : Str)) = false)
    (hg : Gl X b) (hm : X.mg b = some (.ref C0)) (hdb : (b == ("__debug__" : Str)) = false) (hr : PySem.W.readsIn X.K C0 (.type "type") = true) (hga : PySem.W.specialIn X.K (.ref C0) "__getattribute__" = some (some (.builtin "type.__getattribute__")))
    (hf : PySem.W.findCls X.K (.ref C0) (.type "type") "__init__" = some (.val (.builtin "ValueError.__init__"))) (T : OexC X.K C) (hnc : PySem.W.findIn X.K (.ref C) "code" = some none) (hnf : ∀ f, fl.map (·.1) = some f → PySem.W.findIn X.K (.ref C) f = some none) {vs : List V} {H : Hp} {Q : VK} {E : XK} (h : initSp X.K C code (fl.map (·.1)) vs H Q E) :
    ∃ t, PSs X body t ∧ t { nx := fun _ H' => Q .non H', rt := Q } (L2.start N vs) H := by
  unfold errShape at hb
  split at hb
  · rename_i b0 p1 m ap s0 q1 msg j1 q2 cp q3 s2 q4 c q5 code0 j2 q6 q7 r
    split at hb
    · rename_i hc
      obtain ⟨rfl, rfl, rfl, hli, hsp⟩ := hc
      have hsup : baseOk (.Name b0 p1) = true := by
        unfold baseOk
        simpa using hsp
      split at hb
      · cases hb
        have n0 : N[0]? = some s := by
          have : (N.take 1)[0]? = some s := by rw [show N.take 1 = [s] from hp]; rfl
          simpa using this
        have hs : ∀ p : Pos, PE X (.Name s p) (tVar 0) := fun p => pe_var (by rw [hX]; exact n0) (hv s (List.mem_cons_self ..)) (hnb s (List.mem_cons_self ..)).1 (hnb s (List.mem_cons_self ..)).2
        refine ⟨_, pss_cons (ps_expr (pe_base hg hm hdb hr hga hf hsup rfl hli (pa_cons (hs _) (pa_cons pe_str pa_nil)))) (pss_cons (ps_ost (hs _) pe_str) pss_nil), ?_⟩
        obtain ⟨a, rfl, ha, q⟩ := h
        have e0 : (L2.start N [V.ref a])[0]? = some (some (.ref a)) := rfl
        exact ⟨.ref a, e0, a, C, [.str ⟨msg.cps⟩], rfl, by simp, T, ha, .ref a, e0, a, C, rfl, T, hnc, .inl ⟨ha, fun dx h1 h2 => q dx h1 h2⟩⟩
      · rename_i s3 q8 f q9 qn q10 q11
        split at hb
        · rename_i e3
          subst e3
          cases hb
          have hp2 : N.take 2 = [s, qn] := hp
          have n0 : N[0]? = some s := by
            have : (N.take 2)[0]? = some s := by rw [hp2]; rfl
            simpa using this
          have n1 : N[1]? = some qn := by
            have : (N.take 2)[1]? = some qn := by rw [hp2]; rfl
            simpa using this
          have m1 : qn ∈ s :: ((some (f, qn)).map (·.2)).toList := by simp
          have hs : ∀ p : Pos, PE X (.Name s p) (tVar 0) := fun p => pe_var (by rw [hX]; exact n0) (hv s (List.mem_cons_self ..)) (hnb s (List.mem_cons_self ..)).1 (hnb s (List.mem_cons_self ..)).2
          have hq : ∀ p : Pos, PE X (.Name qn p) (tVar 1) := fun p => pe_var (by rw [hX]; exact n1) (hv qn m1) (hnb qn m1).1 (hnb qn m1).2
          refine ⟨_, pss_cons (ps_expr (pe_base hg hm hdb hr hga hf hsup rfl hli (pa_cons (hs _) (pa_cons pe_str pa_nil)))) (pss_cons (ps_ost (hs _) pe_str) (pss_cons (ps_ost (hs _) (hq _)) pss_nil)), ?_⟩
          obtain ⟨a, v, rfl, ha, q⟩ := h
          have e0 : (L2.start N [V.ref a, v])[0]? = some (some (.ref a)) := rfl
          have e1 : (L2.start N [V.ref a, v])[1]? = some (some v) := rfl
          refine ⟨.ref a, e0, a, C, [.str ⟨msg.cps⟩], rfl, by simp, T, ha, .ref a, e0, a, C, rfl, T, hnc, .inl ⟨ha, fun dx h1 h2 => ?_⟩⟩
          refine ⟨v, e1, .ref a, e0, a, C, rfl, T, hnf f rfl, .inr ⟨dx, [("code", .str ⟨code.cps⟩)], by rw [upd_same], by rw [upd_ne h2, upd_same], by simp, q dx h1 h2⟩⟩
        · cases hb
      · cases hb
    · cases hb
  · cases hb
end
end PM

set_option Elab.async false
set_option linter.all false
set_option autoImplicit false
set_option maxHeartbeats 2000000
/-! # PMe2: raise -/
namespace PM
open PySem PySem.Spec PyProof.Rows
open L2 hiding St
theorem kcode_nm {K : PySem.W.Frag} {NM : List Str} {P : PM.Prog} {adr : Nat → Nat → Addr} (S : Sf K NM P adr) : nm NM kCode = "code" := S.pre kCode (by decide)
section
variable {X : Cx} {NM : List Str} {W : WX} {P : PM.Prog} {G : Gam} {adr : Nat → Nat → Addr} {k : Nat}
/-- C(), C an own error class without parameters -/
theorem pmk_none {CX : CXT} {x : Str} {C fI : Addr} {kk : Nat} {fd : FuncData} {s0 : Str} {sp : Sp} {p pos : Pos} (T : OexC X.K C) (iC : PySem.W.findIn X.K (.ref C) "__init__" = some (some (.ref fI))) (tI : PySem.W.typeIn X.K (.ref fI) = some (.type "function")) (F1 : FnOk X.prog X.w X.K X.mg X.base CX kk fI fd [s0] sp) (hr : Room (kk + 1) X.A) (hb : Binds X.K fd [s0] []) (hx : Passes CX X (fun _ _ _ => False)) (hg : Gl X x) (hm : X.mg x = some (.ref C)) (hdb : (x == ("__debug__" : Str)) = false) :
    PMk X (.Call (.Name x p) [] [] pos) (tMkO C sp [] tNil) := by
  intro pins s σ H Q I h
  obtain ⟨nm, q, N, bs, bm, sn, sub, ab, col, dd, k0, k1, k2, k3, k5, hC, hbm⟩ := T.cls
  obtain ⟨_, hq0⟩ := h
  refine wpAny_Call_Name_kw (ld_glob I hg hm ?_ hdb)
  refine PySem.W.callWith_K0 I.kIn T.kC ?_
  obtain ⟨hp, g, dr, tk, os⟩ := s
  have z0 : hp.objs.size ≤ hp.objs.size + 1 := Nat.le_succ _
  have hn : H (hp.objs.size + 1) = none := I.hok.fresh z0
  have hq := hq0 (hp.objs.size + 1) hn
  have kp : ∀ b o, hp.get? b = some o → ((hp.push (PySem.W.kdv_tup [])).push (PySem.HandSPX.excO C hp.objs.size)).get? b = some o := fun b o e => Heap.get?_push_of_some _ (Heap.get?_push_of_some _ e)
  have at1 : ((hp.push (PySem.W.kdv_tup [])).push (PySem.HandSPX.excO C hp.objs.size)).get? (hp.objs.size + 1) = some (PySem.HandSPX.excO C hp.objs.size) := by heap_get
  have I2 : Inv X pins σ (upd H (hp.objs.size + 1) (exo (hp.objs.size + 1) C none)) ⟨(hp.push (PySem.W.kdv_tup [])).push (PySem.HandSPX.excO C hp.objs.size), g, dr, tk, os⟩ :=
    I.laid (t' := tk) (a := hp.objs.size + 1) (o := exo (hp.objs.size + 1) C none) (h' := (hp.push (PySem.W.kdv_tup [])).push (PySem.HandSPX.excO C hp.objs.size)) kp z0 (exo_ok at1)
  have r2 : Vals [V.ref (hp.objs.size + 1)] [Value.ref (hp.objs.size + 1)] := .cons rfl .nil
  refine wpAny_call (PySem.HandSPX.call_own F.excBase_ValueError (fun Y => PySem.HandSPX.refsVE_contains Y bm hbm) (I.kIn _ _ hC) (PySem.W.looks_findIn I.kIn iC) (fun self => PySem.W.bind_fn I.kIn self tI) (Nat.zero_le _)
    (codeAny_mono (F1.run _ X.stack _ _ ⟨[Value.ref (hp.objs.size + 1)], []⟩ [Value.ref (hp.objs.size + 1)] _ _ (fun _ _ _ => False) (hr.make C [] []) (I2.env0.make C [] []) (hb _ [Value.ref (hp.objs.size + 1)] I2.kIn rfl) r2 hq) fun r s' hq' => ?_))
  cases r with
  | error er => exact hx pins σ _ _ er s' I2 hq'
  | ok fl =>
    cases fl with
    | ret u =>
      obtain ⟨v, H2, os2, bare2, un2, hok2, rv, ev, d, fs, ea, ed, hd1, q2⟩ := hq'
      subst ev
      obtain ⟨h2, g2, d2, t2, os'⟩ := s'
      exact ⟨rv, mk_end (raises_own T.exC T.tyC) I z0 kp un2 hok2 os2 bare2 ea ed hd1 q2⟩
    | next => exact False.elim hq'
    | brk => exact False.elim hq'
    | cont => exact False.elim hq'
/-- an error's __init__ keeps its promise -/
theorem init_ok {K : PySem.W.Frag} {Pr : Program} {w : World} {mg : Str → Option Value} {base : Heap} {c : Nat} {i : List Nat × Option Nat} {fI : Addr} {kk : Nat} (hcd : nm NM kCode = "code") (mgs : ∀ g, P.glb g = true → mg (nm NM g) = some (.ref (gad K NM g))) (T : ErrF K NM P c i) (I : ErrI K NM P i fI) :
    ∃ (fd : FuncData) (s : Str) (fl : Option (Str × Str)), fl.map (·.1) = i.2.map (nm NM) ∧ FnOk Pr w K mg base (L2.CX Pr w) (kk + 1) fI fd (s :: (fl.map (·.2)).toList) (initSp K (gad K NM c) ⟨i.1.toArray⟩ (fl.map (·.1))) ∧ Binds K fd (s :: (fl.map (·.2)).toList) [] := by
  obtain ⟨fd, x, qual, params, body, scope, N, b, s, fl, FD, S, h1, h2, h4, h3, h5, hb, hfl, hgl, hsc, hnb, hdb, hr, hga, hf⟩ := I.ex
  have nd : (s :: (fl.map (·.2)).toList).Nodup := by
    have := List.Sublist.nodup (List.take_sublist (s :: (fl.map (·.2)).toList).length N) S.nd
    rw [S.pre] at this
    exact this
  refine ⟨fd, s, fl, hfl, FD.ok S (fun vs H Q E h => ?_) (fun cdv A outer s' H vs Q E hr' h => ?_), binds_flat FD nd h1 h2 h3 h4 h5⟩
  · cases fl with
    | none => obtain ⟨a, rfl, _⟩ := h; rfl
    | some q => obtain ⟨a, v, rfl, _⟩ := h; rfl
  · refine err_body (X := cxOf (L2.CX Pr w) Pr w K mg base N qual scope fI cdv A outer s' H E) (C := gad K NM c) (C0 := gad K NM b) (outer := ()) rfl hb S.pre (fun y hy => (S.par y hy).elim .inl fun z => .inr (.inl z)) hnb hsc (mgs b hgl) hdb hr hga hf T.oex (by rw [← hcd]; exact T.noC.1) (fun f e => ?_) h
    rw [hfl] at e
    cases q : i.2 with
    | none => rw [q] at e; cases e
    | some g => rw [q] at e; cases e; exact (T.noF g q).1
/-- the arguments of an error: as many as its fields -/
def errArgs (i : List Nat × Option Nat) : List Expr → Bool
  | [] => i.2.isNone
  | [e] => i.2.isSome && notStar e
  | _ => false
/-- an error that is being made: what the rest asks of it -/
theorem tmk_ok {c : Nat} {i : List Nat × Option Nat} {fl : Option (Str × Str)} {H1 : Hp} {vs : List V} {Q : XK} (hfl : fl.map (·.1) = i.2.map (nm NM)) (hl : vs.length = (fl.map (·.1)).toList.length)
    (h : ∀ dx gs, H1 dx = none → (match fl, vs with
      | none, [] => gs = [(("code" : Str), V.str ⟨i.1.toArray⟩)]
      | some q, [v] => gs = [(q.1, v), (("code" : Str), V.str ⟨i.1.toArray⟩)]
      | _, _ => False) → Q (.ref (gad X.K NM c)) (some dx) (upd H1 dx (.xd gs))) :
    ∀ a, H1 a = none → initSp X.K (gad X.K NM c) ⟨i.1.toArray⟩ (fl.map (·.1)) (.ref a :: (vs ++ [])) (upd H1 a (exo a (gad X.K NM c) none))
      (fun v H2 => v = .non ∧ ∃ (d : Addr) (fs : List (Str × V)), H2 a = some (exo a (gad X.K NM c) (some d)) ∧ H2 d = some (exd d fs) ∧ H1 d = none ∧ Q (.ref (gad X.K NM c)) (some d) (upd (del H2 a) d (.xd fs))) (fun _ _ _ => False) := by
  intro a ha
  cases fl with
  | none =>
    match vs, hl with
    | [], _ =>
      refine ⟨a, rfl, upd_same, fun dx h1 h2 => ⟨rfl, dx, _, upd_same, by rw [upd_ne h2, upd_same], by rw [upd_ne h2] at h1; exact h1, ?_⟩⟩
      rw [upd_ne h2] at h1
      have e : upd (del (upd (upd (upd H1 a (exo a (gad X.K NM c) none)) dx (exd dx [(("code" : Str), V.str ⟨i.1.toArray⟩)])) a (exo a (gad X.K NM c) (some dx))) a) dx (.xd [(("code" : Str), V.str ⟨i.1.toArray⟩)]) = upd H1 dx (.xd [(("code" : Str), V.str ⟨i.1.toArray⟩)]) := by
        funext b
        by_cases z : b = dx
        · rw [z, upd_same, upd_same]
        · rw [upd_ne z, upd_ne z]
          by_cases y : b = a
          · rw [y, del_same, ha]
          · rw [del_ne y, upd_ne y, upd_ne z, upd_ne y]
      show Q _ _ (upd (del (upd (upd (upd H1 a (exo a (gad X.K NM c) none)) dx (exd dx [(("code" : Str), V.str ⟨i.1.toArray⟩)])) a (exo a (gad X.K NM c) (some dx))) a) dx (.xd [(("code" : Str), V.str ⟨i.1.toArray⟩)]))
      rw [e]
      exact h dx _ h1 rfl
  | some q =>
    match vs, hl with
    | [v], _ =>
      refine ⟨a, v, rfl, upd_same, fun dx h1 h2 => ⟨rfl, dx, _, by rw [upd_ne (Ne.symm h2), upd_same], upd_same, by rw [upd_ne h2] at h1; exact h1, ?_⟩⟩
      rw [upd_ne h2] at h1
      have e : upd (del (upd (upd (upd (upd H1 a (exo a (gad X.K NM c) none)) dx (exd dx [(("code" : Str), V.str ⟨i.1.toArray⟩)])) a (exo a (gad X.K NM c) (some dx))) dx (exd dx [(q.1, v), (("code" : Str), V.str ⟨i.1.toArray⟩)])) a) dx (.xd [(q.1, v), (("code" : Str), V.str ⟨i.1.toArray⟩)]) = upd H1 dx (.xd [(q.1, v), (("code" : Str), V.str ⟨i.1.toArray⟩)]) := by
        funext b
        by_cases z : b = dx
        · rw [z, upd_same, upd_same]
        · rw [upd_ne z, upd_ne z]
          by_cases y : b = a
          · rw [y, del_same, ha]
          · rw [del_ne y, upd_ne z, upd_ne y, upd_ne z, upd_ne y]
      show Q _ _ (upd (del (upd (upd (upd (upd H1 a (exo a (gad X.K NM c) none)) dx (exd dx [(("code" : Str), V.str ⟨i.1.toArray⟩)])) a (exo a (gad X.K NM c) (some dx))) dx (exd dx [(q.1, v), (("code" : Str), V.str ⟨i.1.toArray⟩)])) a) dx (.xd [(q.1, v), (("code" : Str), V.str ⟨i.1.toArray⟩)]))
      rw [e]
      exact h dx _ h1 rfl
/-- raise C(..) -/
theorem ss_rse (F : Fc X NM W P G adr k) {c : Nat} {i : List Nat × Option Nat} {es : List Expr} {ea : E} {p pos pos' : Pos} (hi : P.err c = some i) (hes : SA X NM W es (den P G ea).es) (he : errArgs i es = true) (hea : es = [] → ea = .nil) (hg : Gl X (nm NM c)) (hdb : (nm NM c == ("__debug__" : Str)) = false) :
    SS X NM W (.Raise (some (.Call (.Name (nm NM c) p) es [] pos)) none pos') (den P G (.rse c ea)).s := by
  have T := F.sf.err c i hi
  have hcd := kcode_nm F.sf
  obtain ⟨fI, iC, tI, EI⟩ := T.ini
  obtain ⟨fd, s0, fl, hfl, F1, hb⟩ := init_ok (Pr := X.prog) (w := X.w) (K := X.K) (mg := X.mg) (base := X.base) (kk := 0) hcd F.mgs T EI
  have hx : Passes (L2.CX X.prog X.w) X (fun _ _ _ => False) := passes_call F.tk fun _ _ _ _ h => h.elim
  have hr : Room 2 X.A := F.rm.mono (by omega)
  have key : ∀ {t : St → Hp → XK → Prop} {ta : TA}, PMk X (.Call (.Name (nm NM c) p) es [] pos) (tMkO (gad X.K NM c) (initSp X.K (gad X.K NM c) ⟨i.1.toArray⟩ (fl.map (·.1))) [] ta) → (∀ σ H Q, tR X.K NM (VRs X.K NM) W (den P G ea).es σ H Q → ta σ H Q) →
      SS X NM W (.Raise (some (.Call (.Name (nm NM c) p) es [] pos)) none pos') (den P G (.rse c ea)).s := by
    intro t ta hp hta
    refine ps_weak (ps_raise F.calm F.tk hp) fun D σ H h => ?_
    obtain ⟨f, l, L, hR, hS, h⟩ := h
    refine hta σ H _ (tR_bindS hR hS h fun vs L1 f1 H1 ws e1 r1 s1 rv h1 => ?_)
    rw [hi] at h1
    dsimp only at h1
    cases q : errFs i vs with
    | none => rw [q] at h1; exact h1.elim
    | some fs =>
      rw [q] at h1
      have lv : vs.length = (fl.map (·.1)).toList.length := by
        rw [hfl]
        unfold errFs at q
        split at q
        · rename_i e; rw [e]; rfl
        · rename_i e; rw [e]; rfl
        · cases q
      have lw : ws.length = (fl.map (·.1)).toList.length := by rw [← rv.length]; exact lv
      refine ⟨by rw [lw]; cases fl <;> simp, tmk_ok (X := X) (c := c) (i := i) (H1 := H1) (Q := fun cls d H' => W cls d σ H') hfl lw fun dx gs hd hgs => ?_⟩
      have E1 := Ext.put (f := f1) (u := .xd gs) hd
      refine h1 f1 (upd H1 dx (.xd gs)) σ E1 (r1.put hd) (s1.mono E1.mo) _ _ ⟨rfl, dx, gs, rfl, upd_same, fun z => nw_none hd (r1.bn dx z), ?_⟩
      unfold errFs at q
      split at q
      · rename_i e2
        cases q
        rw [e2] at hfl
        cases fl with
        | some y => cases hfl
        | none =>
          obtain rfl : ws = [] := rv
          dsimp only at hgs
          subst hgs
          exact ⟨_, [], by rw [hcd]; rfl, T.noC.2, rfl, rfl⟩
      · rename_i g v e2
        cases q
        rw [e2] at hfl
        cases fl with
        | none => cases hfl
        | some y =>
          obtain ⟨w, rfl, rw'⟩ := one_of rv
          dsimp only at hgs
          subst hgs
          have e3 : y.1 = nm NM g := Option.some.inj hfl
          exact ⟨w, _, by rw [e3], (T.noF g e2).2.1, VR.mono E1.mo _ _ rw', _, [], by rw [hcd]; rfl, T.noC.2, rfl, rfl⟩
      · cases q
  unfold errArgs at he
  split at he
  · -- no arguments
    cases fl with
    | some y =>
      rw [Option.isNone_iff_eq_none] at he
      rw [he] at hfl
      cases hfl
    | none =>
      refine key (t := fun _ _ _ => True) (pmk_none T.oex iC tI F1 hr hb hx hg (F.mgs c T.gl) hdb) fun σ H Q h => ?_
      rw [hea rfl] at h
      obtain ⟨f, l, L, hR, hS, h⟩ := h
      exact Aft.here h hR [] VRs.nil
  · rename_i e
    rw [Bool.and_eq_true] at he
    exact key (t := fun _ _ _ => True) (pmk_oex T.oex iC tI F1 hr hb .nil hx hg (F.mgs c T.gl) hes hdb (star_head he.2) rfl) fun _ _ _ h => h
  · cases he
end
end PM

set_option Elab.async false
set_option linter.all false
set_option autoImplicit false
set_option maxHeartbeats 2000000
/-! # PMe3: try: .. except (A, B, C) as n: .. -/
namespace PM
open PySem PySem.Spec PyProof.Rows
open L2 hiding St
/-- a flying exception: the heap grows -/
theorem flying_push {B h : Heap} {l : List Env} {a : Addr} {Z : Obj → Prop} {o : Obj} (x : HandSPX.FlyingZ B l a Z h) : HandSPX.FlyingZ B l a Z (h.push o) := by
  obtain ⟨x1, x2, x3, oe, vs, T, oT, ts, t1, t2, t3, t4, t5, t6, t7, t8, t9⟩ := x
  exact ⟨fun b u e => Heap.get?_push_of_some _ (x1 b u e), x2, x3.of_keeps fun b u e _ => ⟨u, Heap.get?_push_of_some _ e, rfl⟩, oe, vs, T, oT, ts, Heap.get?_push_of_some _ t1, t2, t3, t4, t5, t6, Heap.get?_push_of_some _ t7, t8, t9⟩
/-- what such a clause asks of an exception of the body: it is one of the three -/
def w3 (K : PySem.W.Frag) (cs : List Value) (i : Nat) (ts : Addr → Value → Option Addr → TS) (D : Ends) : WX := fun cls d σ H =>
  PySem.W.exmAny K cls cs = some true ∧ ∀ a, H a = none → ts a cls d { nx := fun σ' H' => D.nx (σ'.set i none) H', rt := D.rt, bk := fun σ' H' => D.bk (σ'.set i none) H', ct := fun σ' H' => D.ct (σ'.set i none) H' } (σ.set i (some (.ref a))) H
section
variable {X : Cx} {x1 x2 x3 n : Str} {c1 c2 c3 : Value} {i kk : Nat} {body suite : List Stmt} {b₀ : Stmt} {q1 q2 q3 tp pos pos' : Pos} {tb : WX → TS} {ts : Addr → Value → Option Addr → TS}
theorem ps_try3 (hs : X.stack = X.env :: X.outer) (hf : X.env.frame = some X.env.locals) (hN : X.N.Nodup) (hi : X.N[i]? = some n) (hln : X.env.kindOf n = some .local)
    (g1 : Gl X x1) (m1 : X.mg x1 = some c1) (d1 : (x1 == ("__debug__" : Str)) = false) (g2 : Gl X x2) (m2 : X.mg x2 = some c2) (d2 : (x2 == ("__debug__" : Str)) = false) (g3 : Gl X x3) (m3 : X.mg x3 = some c3) (d3 : (x3 == ("__debug__" : Str)) = false)
    (hb : ∀ (W : WX) (pn : List (Addr × Obj)) (xe : Value → Shared → Prop), Takes (X.tr pn xe) W → PassesOwn (model X.prog X.w) X.A X.env xe → PSs (X.tr pn xe) body (tb W))
    (hsu : ∀ (a : Addr) (oe : Obj) (cls : Value) (d : Option Addr) (pn : List (Addr × Obj)), Zc cls d oe → (∃ vs, oe.data = .fields vs) → PSs (X.suite a ((a, oe) :: pn)) (b₀ :: suite) (ts a cls d)) :
    PS X (.Try body [.ExceptHandler (some (.Tuple [.Name x1 q1, .Name x2 q2, .Name x3 q3] kk tp)) (some n) (b₀ :: suite) pos'] [] [] pos) (fun D σ H => tb (w3 X.K [c1, c2, c3] i ts D) D σ H) := by
  refine ⟨fun pins s σ H D IA h => ?_⟩
  have okA := IA.ok
  have fram : X.A.frames = some (X.env :: X.outer) := by rw [okA.frames, hs]
  refine wpAny_Try_except ?_
  refine wpAny_mono ((hb (w3 X.K [c1, c2, c3] i ts D) (X.pn ++ pins) (fun e s₁ => wpAny (model X.prog X.w) X.A (noteFrame e X.env) (fun _ sB => wpAny (model X.prog X.w) X.A (setFlight e none) (fun _ sC =>
    wpAny (model X.prog X.w) X.A (handleBy e X.env [.ExceptHandler (some (.Tuple [.Name x1 q1, .Name x2 q2, .Name x3 q3] kk tp)) (some n) (b₀ :: suite) pos']) (SP X pins D) X.xe sC) X.xe sB) X.xe s₁) (fun u sZ xx => ?_) PassesOwn.looking).run [] s σ H D (IA.toTry _) h) (fun f sE hsp => ?_) (fun e sE he => he)
  · obtain ⟨a, B, sI, pinsB, σB, HB, cls, d, rfl, JB, nb, up, sky, na, os, ag, hx, hyes⟩ := xx
    have JA : Inv X pins σB HB sI := JB.ofTry okA
    have skyA : Sky B (X.env :: X.outer) a (Zc cls d) X.env.locals sZ.heap := by rw [← hs]; exact sky
    show wpAny (model X.prog X.w) X.A (noteFrame (.ref a) X.env) _ _ _
    refine Sky.land Zc.steady fram hf skyA fun hA flA upA => ?_
    have JC : Inv X pins σB HB { sZ with heap := hA } := JA.landed nb flA.1 (up.trans upA) os ag
    obtain ⟨oA, vA, heA, hzA, hdA⟩ := flA.there
    have nfr : a ∉ frs (X.env :: X.outer) := fun hm => by
      obtain ⟨_, o', e', hnf⟩ := flA.2.2.1.mem hm
      rw [heA] at e'
      cases e'
      exact hnf _ hdA
    have nL : a ≠ X.env.locals := fun z => nfr (List.mem_filterMap.mpr ⟨X.env, List.mem_cons_self, by rw [hf, z]⟩)
    have nF : a ∉ X.fs := fun hm => by
      obtain ⟨e, he, q⟩ := List.mem_filterMap.mp hm
      exact nfr (List.mem_filterMap.mpr ⟨e, List.mem_cons_of_mem _ he, q⟩)
    have SA3 := JC.suite heA hdA na nL nF
    refine wpAny_handleBy_cons (codeAny_handlers_test ?_) (by intro q; cases q)
    refine Tuple_ (Calls.spliced_cons (ld_glob (X := X.suite a ((a, oA) :: (X.pn ++ pins))) SA3 g1 m1 (Calls.spliced_cons (ld_glob (X := X.suite a ((a, oA) :: (X.pn ++ pins))) SA3 g2 m2 (Calls.spliced_cons (ld_glob (X := X.suite a ((a, oA) :: (X.pn ++ pins))) SA3 g3 m3 (Calls.spliced_nil ?_) d3)) d2)) d1))
    refine wpAny_newTuple ?_ (by rw [sizeLine_eq]; exact Nat.le_of_ble_eq_true rfl)
    have flB : HandSPX.FlyingZ B (X.env :: X.outer) a (Zc cls d) (hA.push { cls := .type "tuple", data := .seq [c1, c2, c3].toArray }) := flying_push flA
    have heB : (hA.push { cls := .type "tuple", data := .seq [c1, c2, c3].toArray }).get? a = some oA := Heap.get?_push_of_some _ heA
    have LT : PySem.W.Looks (model X.prog X.w) (hA.push { cls := .type "tuple", data := .seq [c1, c2, c3].toArray }) (typeOf (.ref a)) cls := fun A Q E s k q => wpAny_typeOf_ref (k _ _ heB) (by rw [hzA.1]; exact q)
    have KB : X.K.In (hA.push { cls := .type "tuple", data := .seq [c1, c2, c3].toArray }) := JC.kIn.keeps fun b u e => Heap.get?_push_of_some _ e
    have LM := PySem.W.exm_tup3 (M := model X.prog X.w) KB LT (Heap.get?_push_size _ rfl) hx
    refine LM.here ?_
    refine codeAny_handlers_suite_as ?_
    refine HandSPX.lands_againZ flB fun hD flD upD => ?_
    have upP : hA.UpToSlots (hA.push { cls := .type "tuple", data := .seq [c1, c2, c3].toArray }) := fun b u e _ => ⟨u.slots, Heap.get?_push_of_some _ e⟩
    have JD : Inv X pins σB HB { sZ with heap := hD } := JA.landed nb flD.1 (((up.trans upA).trans upP).trans upD) os ag
    obtain ⟨oD, vD, heD, hzD, hdD⟩ := flD.there
    have SD := JD.suite heD hdD na nL nF
    refine store_ok (X := X.suite a ((a, oD) :: (X.pn ++ pins))) (v := .ref a) SD hN hi (.inl hln) rfl (fun sF SF => ?_) (.inr hln)
    refine wpAny_mono ((hsu a oD cls d (X.pn ++ pins) hzD ⟨_, hdD⟩).run [] sF _ HB _ SF (hyes a na)) (fun f sG hsp => ?_) (fun _ _ z => False.elim z)
    have gone : ∀ {σG : L2.St} {HG : Hp} {Q : Shared → Prop}, Inv (X.suite a ((a, oD) :: (X.pn ++ pins))) [] σG HG sG → (∀ sK, Inv X pins (σG.set i none) HG sK → Q sK) →
        wpAny (model X.prog X.w) X.A (do bindName X.env n .none; unbindBehindTheSuite X.env n pos') (fun _ sK => Q sK) X.xe sG := fun {σG HG Q} SG hq => gone_ok (SG.unsuite okA) hN hi hln hq
    cases f with
    | next =>
      obtain ⟨σG, HG, SG, qG⟩ := hsp
      exact gone SG fun sK JK => ⟨_, _, JK, qG⟩
    | brk =>
      obtain ⟨σG, HG, SG, qG⟩ := hsp
      exact gone SG fun sK JK => ⟨_, _, JK, qG⟩
    | cont =>
      obtain ⟨σG, HG, SG, qG⟩ := hsp
      exact gone SG fun sK JK => ⟨_, _, JK, qG⟩
    | ret u =>
      obtain ⟨vG, σG, HG, SG, rG, qG⟩ := hsp
      exact gone SG fun sK JK => ⟨_, _, _, JK, rG, qG⟩
  · cases f with
    | next =>
      obtain ⟨σB, HB, JB, q⟩ := hsp
      exact wpAny_execs_nil ⟨σB, HB, JB.ofTry okA, q⟩
    | brk =>
      obtain ⟨σB, HB, JB, q⟩ := hsp
      exact ⟨σB, HB, JB.ofTry okA, q⟩
    | cont =>
      obtain ⟨σB, HB, JB, q⟩ := hsp
      exact ⟨σB, HB, JB.ofTry okA, q⟩
    | ret u =>
      obtain ⟨v, σB, HB, JB, r, q⟩ := hsp
      exact ⟨v, σB, HB, JB.ofTry okA, r, q⟩
end
end PM

set_option Elab.async false
set_option linter.all false
set_option autoImplicit false
set_option maxHeartbeats 2000000
/-! # PMe4: the field of a caught error, read by a def -/
namespace PM
open PySem PySem.Spec PyProof.Rows
open L2 hiding St
def ExtA (H H' : Hp) : Prop := ∀ b o, H b = some o → H' b = some o
theorem ExtA.refl (H : Hp) : ExtA H H := fun _ _ e => e
theorem ExtA.trans {H H1 H2 : Hp} (a : ExtA H H1) (b : ExtA H1 H2) : ExtA H H2 := fun c o e => b c o (a c o e)
theorem ExtA.put {H : Hp} {p : Addr} {u : HO} (hp : H p = none) : ExtA H (upd H p u) := fun b o e => by rw [upd_ne (ne_of_none e hp)]; exact e
theorem in_strs (code : Str) : ∀ cs : List Str, L2.inV (.str code) (cs.map V.str) = cs.contains code
  | [] => rfl
  | c :: cs => by
    have ih := in_strs code cs
    unfold L2.inV at ih ⊢
    rw [List.map_cons, List.any_cons, ih, List.contains_cons]
    congr 1
    show (c == code) = (code == c)
    by_cases e : c = code
    · subst e; rfl
    · have e2 : ¬ code = c := fun z => e z.symm
      rw [beq_eq_false_iff_ne.mpr e, beq_eq_false_iff_ne.mpr e2]
section
variable {Y : Cx} {a C dd : Addr} {oe : Obj} {en : Str} {gs : List (Str × V)} {code : Str}
/-- the context: the error pinned, its name in the first slot -/
structure ErrY (Y : Cx) (a C dd : Addr) (oe : Obj) (en : Str) : Prop where
  pin : (a, oe) ∈ Y.pn
  z : Zc (.ref C) (some dd) oe
  fl : ∃ vs, oe.data = .fields vs
  T : XfC Y.K C
  n0 : Y.N[0]? = some en
  v : Vis Y.env.scope en
  d1 : (en == ("__debug__" : Str)) = false
  d2 : (en == ("__classdict__" : Str)) = false
  u : Y.A.units + 64 < cLine
theorem pe_xp (E : ErrY Y a C dd oe en) {f : Str} {p pos : Pos} (hno : PySem.W.findIn Y.K (.ref C) f = some none) : PE Y (.Attribute (.Name en p) f pos) (fun σ H Q => σ[0]? = some (some (.ref a)) ∧ ∃ gs v, H dd = some (.xd gs) ∧ gs.lookup f = some v ∧ Q v H) := by
  refine ⟨fun pins s σ H Q I h => ?_⟩
  obtain ⟨h0, gs, v, ea, hl, q⟩ := h
  refine attr_of (by rfl) (thn ((pe_var (pos := p) E.n0 E.v E.d1 E.d2).run pins s σ H (fun x H1 => x = .ref a ∧ H1 = H) I ⟨.ref a, h0, rfl, rfl⟩) fun u s1 hh => ?_)
  obtain ⟨x, H1, I1, rx, ex, eH⟩ := hh
  subst ex
  rw [eH] at I1
  obtain rfl : u = Value.ref a := rx
  obtain ⟨ha, _⟩ := I1.pin (a, oe) (List.mem_append_left _ E.pin)
  obtain ⟨vs, hd⟩ := E.fl
  have hx : ObjOk Y.prog Y.w H s1.heap dd (.xd gs) := I1.hok dd _ ea
  obtain ⟨mA, hns, hr⟩ := hx
  obtain ⟨od, ho, hlk⟩ := lookIn_ns hns
  obtain ⟨u, hu, ru⟩ := RelO.some_of (v := v) (o := mA f) (by rw [← hl]; exact hr f)
  have J : PySem.W.InstAt s1.heap a oe C (some od) := ⟨ha, E.z.1, by unfold PySem.W.notCls; rw [hd] <;> rfl, by rw [E.z.2]; exact ho⟩
  exact HandSPX.exc_get I1.kIn J E.T.ga E.T.gg E.T.exC (PySem.W.findObj_own E.T.hdC hno rfl (by rw [hlk, hu])) (handed_of ru) ⟨v, H, I1.tok _, ru, q⟩
theorem pa_strs : ∀ {es : List Expr} {cs : List Str}, cstrs es = some cs → PA Y es (fun _ H Q => Q (cs.map V.str) H)
  | [], cs, h => by cases h; exact pa_nil
  | e :: es, cs, h => by
    unfold cstrs at h
    split at h
    · rename_i heq
      cases heq
    · rename_i x j p r heq
      cases heq
      cases q : cstrs es with
      | none => rw [q] at h; cases h
      | some ds =>
        rw [q] at h
        cases h
        exact pa_cons pe_str (pa_strs q)
    · cases h
theorem cstrs_len : ∀ {es : List Expr} {cs : List Str}, cstrs es = some cs → cs.length = es.length
  | [], cs, h => by cases h; rfl
  | e :: es, cs, h => by
    unfold cstrs at h
    split at h
    · rename_i heq
      cases heq
    · rename_i x j p r heq
      cases heq
      cases q : cstrs es with
      | none => rw [q] at h; cases h
      | some ds => rw [q] at h; cases h; simp [cstrs_len q]
    · cases h
theorem pt_fldTest (E : ErrY Y a C dd oe en) (hc : PySem.W.findIn Y.K (.ref C) ("code" : Str) = some none) (hcs : SeqAt.shaped (.str code) = true) {t : Expr} {cs : List Str} (h : fldTest en t = some cs) :
    PT Y t (fun σ H Q => σ[0]? = some (some (.ref a)) ∧ H dd = some (.xd gs) ∧ gs.lookup ("code" : Str) = some (.str code) ∧ ∀ H', ExtA H H' → Q (cs.contains code) H') := by
  unfold fldTest at h
  split at h
  · rename_i x p c p2 es k2 p3 p4
    split at h
    · rename_i hcc
      obtain ⟨rfl, rfl, hl⟩ := hcc
      refine pt_weak (pt_cmpR op_in_seq (pe_xp E hc) (pe_tup (pa_strs h)) rfl) fun σ H Q hh => ?_
      obtain ⟨h0, h1, h2, h3⟩ := hh
      refine ⟨h0, gs, .str code, h1, h2, ?_⟩
      refine ⟨by rw [List.length_map, cstrs_len h, sizeLine_eq]; omega, fun q hq => ⟨q, cs.map V.str, rfl, .inr (SqT.of upd_same), rfl, by simp [flatV], _, rfl, ?_⟩⟩
      rw [if_neg Bool.false_ne_true, in_strs]
      exact h3 _ (ExtA.put hq)
    · cases h
  · rename_i x p c p2 z j2 p3 p4
    split at h
    · rename_i hcc
      obtain ⟨rfl, rfl, hz⟩ := hcc
      cases h
      refine pt_weak (pt_cmpR (op_eqD E.u) (pe_xp E hc) pe_str rfl) fun σ H Q hh => ?_
      obtain ⟨h0, h1, h2, h3⟩ := hh
      refine ⟨h0, gs, .str code, h1, h2, .str code, .str z, .str code, .str z, hcs, hz, _, rfl, ?_⟩
      have e : PyData.eqv (.str code) (.str z) = [z].contains code := by
        show (code == z) = (code == z || false)
        rw [Bool.or_false]
      rw [e]
      exact h3 _ (ExtA.refl H)
    · cases h
  · cases h
theorem pss_fld (E : ErrY Y a C dd oe en) (hc : PySem.W.findIn Y.K (.ref C) ("code" : Str) = some none) (hsh : SeqAt.shaped (.str code) = true) : ∀ (body : List Stmt) {r : Option Str}, fieldOf en code body = some r →
    PSs Y body (fun D σ H => σ[0]? = some (some (.ref a)) ∧ H dd = some (.xd gs) ∧ gs.lookup ("code" : Str) = some (.str code) ∧ (match r with
      | none => ∀ H', ExtA H H' → ∀ p, H' p = none → D.rt (.ref p) (upd H' p (.tup []))
      | some f => PySem.W.findIn Y.K (.ref C) f = some none ∧ ∃ v, gs.lookup f = some v ∧ ∀ H', ExtA H H' → ∀ p, H' p = none → D.rt (.ref p) (upd H' p (.tup [v]))))
  := by
  intro body
  induction body with
  | nil => intro r h; unfold fieldOf at h; cases h
  | cons st0 rest0 ih0 =>
    intro r h
    unfold fieldOf at h
    split at h
    · rename_i t k1 p1 x p2 f p3 k2 p4 p5 p6 heq
      cases heq
      split at h
      · rename_i cs ht
        split at h
        · rename_i ex
          subst ex
          by_cases hf : PySem.W.findIn Y.K (.ref C) f = some none
          · refine pss_weak (pss_one (ps_ret (pe_ifExp (pt_fldTest (gs := gs) (code := code) E hc hsh ht) (pe_tup pa_nil) (pe_tup (pa_cons (pe_xp E hf) pa_nil))))) fun D σ H hh => ?_
            obtain ⟨h0, h1, h2, h3⟩ := hh
            refine ⟨h0, h1, h2, fun H' e => ?_⟩
            cases hcs : cs.contains code with
            | true =>
              rw [hcs, if_pos rfl] at h
              cases h
              rw [if_pos rfl]
              exact ⟨Nat.zero_le _, fun p hp => h3 H' e p hp⟩
            | false =>
              rw [hcs, if_neg Bool.false_ne_true] at h
              cases h
              rw [if_neg Bool.false_ne_true]
              obtain ⟨_, v, h4, h5⟩ := h3
              exact ⟨h0, gs, v, e _ _ h1, h4, by rw [sizeLine_eq]; exact Nat.le_of_ble_eq_true rfl, fun p hp => h5 H' e p hp⟩
          · cases hcs : cs.contains code with
            | true =>
              rw [hcs, if_pos rfl] at h
              cases h
              refine pss_weak (pss_one (ps_ret (pe_ifExp (tb := fun _ _ _ => False) (pt_fldTest (gs := gs) (code := code) E hc hsh ht) (pe_tup pa_nil) ⟨fun _ _ _ _ _ _ z => z.elim⟩))) fun D σ H hh => ?_
              obtain ⟨h0, h1, h2, h3⟩ := hh
              refine ⟨h0, h1, h2, fun H' e => ?_⟩
              rw [hcs]
              show (if true = true then _ else _)
              rw [if_pos rfl]
              exact ⟨Nat.zero_le _, fun p hp => h3 H' e p hp⟩
            | false =>
              rw [hcs, if_neg Bool.false_ne_true] at h
              cases h
              exact ⟨fun pins s σ H D I hh => absurd hh.2.2.2.1 hf⟩
        · cases h
      · cases h
    · rename_i t x p1 f p2 k1 p3 p4 p5 rest heq
      cases heq
      split at h
      · rename_i cs ht
        split at h
        · rename_i ex
          subst ex
          cases hcs : cs.contains code with
          | true =>
            rw [hcs, if_pos rfl] at h
            cases h
            by_cases hf : PySem.W.findIn Y.K (.ref C) f = some none
            · refine pss_weak (pss_cons (u := fun _ _ _ => False) (ps_if (pt_fldTest (gs := gs) (code := code) E hc hsh ht) (pss_one (ps_ret (pe_tup (pa_cons (pe_xp E hf) pa_nil)))) pss_nil) ⟨fun _ _ _ _ _ _ z => z.elim⟩) fun D σ H hh => ?_
              obtain ⟨h0, h1, h2, _, v, h4, h5⟩ := hh
              refine ⟨h0, h1, h2, fun H' e => ?_⟩
              rw [hcs]
              show (if true = true then _ else _)
              rw [if_pos rfl]
              exact ⟨h0, gs, v, e _ _ h1, h4, by rw [sizeLine_eq]; exact Nat.le_of_ble_eq_true rfl, fun p hp => h5 H' e p hp⟩
            · exact ⟨fun pins s σ H D I hh => absurd hh.2.2.2.1 hf⟩
          | false =>
            rw [hcs, if_neg Bool.false_ne_true] at h
            have ih := ih0 h
            refine pss_weak (pss_cons (ps_if (t := fun _ _ _ => False) (pt_fldTest (gs := gs) (code := code) E hc hsh ht) ⟨fun _ _ _ _ _ _ z => z.elim⟩ pss_nil) ih) fun D σ H hh => ?_
            obtain ⟨h0, h1, h2, h3⟩ := hh
            refine ⟨h0, h1, h2, fun H' e => ?_⟩
            rw [hcs]
            show (if false = true then _ else _)
            rw [if_neg Bool.false_ne_true]
            refine ⟨h0, e _ _ h1, h2, ?_⟩
            cases r with
            | none => exact fun H2 e2 p hp => h3 H2 (e.trans e2) p hp
            | some f =>
              obtain ⟨a1, v, a2, a3⟩ := h3
              exact ⟨a1, v, a2, fun H2 e2 p hp => a3 H2 (e.trans e2) p hp⟩
        · cases h
      · cases h
    · cases h
end
end PM

set_option Elab.async false
set_option linter.all false
set_option autoImplicit false
set_option maxHeartbeats 2000000
/-! # PMe5: what a call tells, or its error's code and field -/
namespace PM
open PySem PySem.Spec PyProof.Rows
open L2 hiding St
open L2H (RoomH PinOk inv_startH cxH)
/-- what the field's def gives -/
def FldQ (K : PySem.W.Frag) (C : Addr) (gs : List (Str × V)) (H : Hp) (Q : VK) : Option Str → Prop
  | none => ∀ H', ExtA H H' → ∀ p, H' p = none → Q (.ref p) (upd H' p (.tup []))
  | some f => PySem.W.findIn K (.ref C) f = some none ∧ ∃ v, gs.lookup f = some v ∧ ∀ H', ExtA H H' → ∀ p, H' p = none → Q (.ref p) (upd H' p (.tup [v]))
theorem fld_run {P : Program} {w : World} {K : PySem.W.Frag} {mg : Str → Option Value} {base : Heap} {x en code : Str} {params : Arguments} {body : List Stmt} {scope : Scope} {fa a C dd : Addr} {fd : FuncData} {N : List Str} {oe : Obj} {gs : List (Str × V)} {r : Option Str} {A : Around} {outer : List Env} {s : Shared} {H : Hp} {Q : VK}
    (FD : FunD K x x params body scope [] [] fa fd) (S : FnScope N [en] scope) (h1 : params.posonlyargs = []) (h2 : params.kwonlyargs = []) (h3 : params.vararg = none) (h4 : params.kwarg = none) (h5 : params.args.map (·.arg) = [en]) (hd1 : (en == ("__debug__" : Str)) = false) (hd2 : (en == ("__classdict__" : Str)) = false)
    (hr : RoomH 2 A) (hpin : PinOk outer H s (a, oe)) (e0 : Env0 P w K mg base A outer s H) (hz : Zc (.ref C) (some dd) oe) (hfl : ∃ vs, oe.data = .fields vs) (T : XfC K C) (hc : PySem.W.findIn K (.ref C) ("code" : Str) = some none) (hsh : SeqAt.shaped (.str code) = true) (hf : fieldOf en code body = some r)
    (hx : H dd = some (.xd gs)) (hl : gs.lookup ("code" : Str) = some (.str code)) (hq : FldQ K C gs H Q r) : codeAny (model P w) A (.call (.ref fa) ⟨[.ref a], []⟩) (CR (L2.CX P w) outer P w H s Q fun _ _ _ => False) s := by
  have hb0 := binds_flat FD (by simp) h1 h2 h3 h4 h5
  obtain ⟨oc, od, dV, kV, doc, pm, an, cdv, ct, osl, rfl, lk, hcd, hD, hK⟩ := FD.ex
  have KX : K.In s.heap := e0.mod.kin.keeps fun b o e => (e0.bs b o e).1
  have lim : s.heap.NoLimit := e0.mod.nolimit.keeps fun b o e => (e0.bs b o e).1
  have hb := hb0 s [.ref a] KX rfl
  rw [List.append_nil] at hb
  have hkind : ∀ y ∈ [en].zip [Value.ref a], scope.names.lookup y.1 = some .local ∨ (scope.names.lookup y.1 = some .cell ∧ ((cellsFrom (s.heap.objs.size + 1) scope.names []).lookup y.1).isSome = true) := fun ⟨n, v⟩ hy => by
    rcases S.par n (List.of_mem_zip hy).1 with q | q
    · exact .inl q
    · exact .inr ⟨q, PySem.W.cellsFrom_some _ _ _ (.inl q)⟩
  refine codeAny_call_function hr.depth (KX _ _ lk) rfl S.co S.gen rfl (PySem.W.codeRec_of KX hcd) (hb _ _ _ _ ?_)
  refine wpAny_newFunctionEnv_cells S.kind hkind fun env he sA xx => ?_
  subst he
  refine ⟨lim.keeps xx.toInCall.keep, codeAny_func ?_⟩
  have n0 : N[0]? = some en := by
    have e : (N.take 1)[0]? = some en := by rw [show N.take 1 = [en] from S.pre]; rfl
    simpa using e
  have IA : Inv (cxH (L2.CX P w) P w K mg base N x scope fa cdv A outer s H (fun _ _ _ => False) (a, oe)) [] (L2.start N [.ref a]) H sA := inv_startH S hpin e0 rfl (.cons rfl .nil) xx
  have EY : ErrY (cxH (L2.CX P w) P w K mg base N x scope fa cdv A outer s H (fun _ _ _ => False) (a, oe)) a C dd oe en := ⟨List.mem_singleton.mpr rfl, hz, hfl, T, n0, (S.par en (List.mem_singleton.mpr rfl)).elim .inl fun z => .inr (.inl z), hd1, hd2, by
    have := (hr.deeper (k := 1) (envOfC x scope s.heap.objs.size fa cdv)).un
    show (A.deeper (envOfC x scope s.heap.objs.size fa cdv)).units + 64 < cLine
    omega⟩
  refine wpAny_mono ((pss_fld (gs := gs) EY hc hsh body hf).run [] sA (L2.start N [.ref a]) H { nx := fun _ H' => Q .non H', rt := Q } IA ⟨rfl, hx, hl, ?_⟩) (fun fl s' hs => ?_) fun e s' hs => hs
  · cases r with
    | none => exact hq
    | some f => exact hq
  · have fin : ∀ {σ' : L2.St} {H' : Hp} {v : V} {u : Value}, Inv (cxH (L2.CX P w) P w K mg base N x scope fa cdv A outer s H (fun _ _ _ => False) (a, oe)) [] σ' H' s' → L2.RelV v u → Q v H' → CE outer P w H s Q u s' :=
      fun {σ' H' v u} J rv q => ⟨v, H', J.os, J.bare, J.base, J.hok, rv, q⟩
    cases fl with
    | ret u =>
      obtain ⟨v, σ', H', J, rv, q⟩ := hs
      exact fin J rv q
    | next =>
      obtain ⟨σ', H', J, q⟩ := hs
      exact fin (v := V.non) (u := Value.none) J rfl q
    | brk =>
      obtain ⟨_, _, _, q⟩ := hs
      exact False.elim q
    | cont =>
      obtain ⟨_, _, _, q⟩ := hs
      exact False.elim q
section
variable {X : Cx} {a C dd : Addr} {oe : Obj} {en fn : Str} {i : Nat} {gs : List (Str × V)} {code : Str} {pn : List (Addr × Obj)}
/-- the field's def called in the except suite -/
theorem pe_fldcall {e2 : Str} {params : Arguments} {body : List Stmt} {scope : Scope} {fa : Addr} {fd : FuncData} {N : List Str} {r : Option Str} {p1 p2 pos : Pos} (FD : FunD X.K fn fn params body scope [] [] fa fd) (S : FnScope N [e2] scope) (h1 : params.posonlyargs = []) (h2 : params.kwonlyargs = []) (h3 : params.vararg = none) (h4 : params.kwarg = none) (h5 : params.args.map (·.arg) = [e2]) (hd1 : (e2 == ("__debug__" : Str)) = false) (hd2 : (e2 == ("__classdict__" : Str)) = false)
    (hr : Room 2 X.A) (hz : Zc (.ref C) (some dd) oe) (hfl : ∃ vs, oe.data = .fields vs) (T : XfC X.K C) (hc : PySem.W.findIn X.K (.ref C) ("code" : Str) = some none) (hsh : SeqAt.shaped (.str code) = true) (hf : fieldOf e2 code body = some r)
    (hg : Gl X fn) (hm : X.mg fn = some (.ref fa)) (hdb : (fn == ("__debug__" : Str)) = false) (hN : X.N[i]? = some en) (hv : Vis X.env.scope en) (hn1 : (en == ("__debug__" : Str)) = false) (hn2 : (en == ("__classdict__" : Str)) = false) :
    PE (X.suite a ((a, oe) :: pn)) (.Call (.Name fn p1) [.Name en p2] [] pos) (fun σ H Q => σ[i]? = some (some (.ref a)) ∧ H dd = some (.xd gs) ∧ gs.lookup ("code" : Str) = some (.str code) ∧ FldQ X.K C gs H Q r) := by
  refine ⟨fun pins s σ H Q I h => ?_⟩
  obtain ⟨g0, gx, gl, gq⟩ := h
  refine wpAny_Call_Name_kw (ld_glob (X := X.suite a ((a, oe) :: pn)) I hg hm ?_ hdb)
  refine PySem.W.callWith_K (h₀ := X.base) I.ok.mod.kin FD.kp (thn ((pa_cons (X := X.suite a ((a, oe) :: pn)) (pe_var (pos := p2) hN hv hn1 hn2) pa_nil).run pos pins s σ H (fun vs H1 => vs = [.ref a] ∧ H1 = H) I ⟨.ref a, g0, rfl, rfl⟩) fun us s1 ⟨vs, H1, I1, r1, ev, eH⟩ => ⟨I1.kIn, ?_⟩) (by rfl) (by rfl)
  subst ev
  rw [eH] at I1
  cases r1 with
  | @cons _ u0 _ ur ra rw' =>
    obtain rfl : u0 = Value.ref a := ra
    cases rw'
    have P1 := I1.pin (a, oe) (List.mem_append_left _ List.mem_cons_self)
    have hpin : PinOk (X.suite a ((a, oe) :: pn)).stack H s1 (a, oe) := ⟨P1.1, P1.2.1, fun hm => (List.mem_cons.mp (I1.stkSub a hm)).elim P1.2.2.1 P1.2.2.2.1, P1.2.2.2.2⟩
    refine wpAny_call (codeAny_mono (fld_run (P := X.prog) (w := X.w) (mg := X.mg) (base := X.base) (A := (X.suite a ((a, oe) :: pn)).A) (outer := X.stack) (Q := Q) FD S h1 h2 h3 h4 h5 hd1 hd2 ⟨hr.dp, hr.un⟩ hpin I1.env0 hz hfl T hc hsh hf gx gl gq) fun r s' hq => ?_)
    cases r with
    | error e => exact (passAt (W := fun _ _ _ _ => False) takes_none5 σ pins H s1 e s' I1 hq)
    | ok fl =>
      cases fl with
      | ret u => exact I1.after hq
      | next => exact False.elim hq
      | brk => exact False.elim hq
      | cont => exact False.elim hq
end
end PM

set_option Elab.async false
set_option linter.all false
set_option autoImplicit false
set_option maxHeartbeats 2000000
/-! # PMe6: the call of the def that catches -/
namespace PM
open PySem PySem.Spec PyProof.Rows
open L2 hiding St
/-- what the def that catches wishes of an exception -/
def Ewhy (K : PySem.W.Frag) (cs : List Value) (e2 : Str) (b2 : List Stmt) (Q : VK) : XK := fun cls d H => PySem.W.exmAny K cls cs = some true ∧ ∃ (C dd : Addr) (gs : List (Str × V)) (code : Str) (r : Option Str), cls = .ref C ∧ d = some dd ∧ XfC K C ∧ PySem.W.findIn K (.ref C) ("code" : Str) = some none ∧
  H dd = some (.xd gs) ∧ gs.lookup ("code" : Str) = some (.str code) ∧ SeqAt.shaped (.str code) = true ∧ fieldOf e2 code b2 = some r ∧ FldQ K C gs H (fun v H2 => ∀ p, H2 p = none → Q (.ref p) (upd H2 p (.tup [.str code, v]))) r
def TWhy (K : PySem.W.Frag) (cs : List Value) (e2 : Str) (b2 : List Stmt) : (XK → Hp → VK → Prop) → Hp → VK → Prop := fun tl H Q =>
  tl (Ewhy K cs e2 b2 Q) H (fun v H' => ∀ p, H' p = none → Q (.ref p) (upd H' p (.tup [.str "told", v])))
theorem why_gives {X : Cx} {Ng : List Str} {x a en fn e2 : Str} {x1 x2 x3 : Str} {c1 c2 c3 : Value} {q : Str} {sg sc2 : Scope} {g gf : Addr} {cdg : Value} {bg b2 : List Stmt} {p2 : Arguments} {fd2 : FuncData} {N2 : List Str} (hsh : whyShape bg = some (a, x1, x2, x3, en, fn)) (hN : Ng.Nodup) (hN1 : Ng[1]? = some en) (hen : sg.names.lookup en = some .local)
    (hk : ∀ y ∈ [x1, x2, x3, fn], sg.names.lookup y = some .globalImplicit) (hnb : ∀ y ∈ [en, e2, x1, x2, x3, fn], (y == ("__debug__" : Str)) = false ∧ (y == ("__classdict__" : Str)) = false) (m1 : X.mg x1 = some c1) (m2 : X.mg x2 = some c2) (m3 : X.mg x3 = some c3) (mf : X.mg fn = some (.ref gf))
    (FD : FunD X.K fn fn p2 b2 sc2 [] [] gf fd2) (S2 : FnScope N2 [e2] sc2) (h1 : p2.posonlyargs = []) (h2 : p2.kwonlyargs = []) (h3 : p2.vararg = none) (h4 : p2.kwarg = none) (h5 : p2.args.map (·.arg) = [e2]) (hr : Room 3 X.A) (h0 : ∀ f : Addr, (L2.start Ng [V.ref f])[0]? = some (some (V.ref f))) :
    LamX.GivesTo X Ng x sg g cdg bg a q (TWhy X.K [c1, c2, c3] e2 b2) := by
  unfold whyShape at hsh
  split at hsh
  · rename_i told j1 q1 a0 q2 q3 k1 q4 q5 y1 r1 y2 r2 y3 r3 k2 r4 en0 e1 r5 c r6 fn0 r7 e3 r8 r9 k3 r10 r11 r12 r13
    split at hsh
    · rename_i hc
      obtain ⟨rfl, rfl, rfl, rfl⟩ := hc
      cases hsh
      intro f c' s H Q tl act hco h
      have gl : ∀ y ∈ [x1, x2, x3, fn], Gl (cxOf C8.CX0 X.prog X.w X.K X.mg X.base Ng x sg g cdg X.A X.stack s H C8.E0).nox y := fun y hy => hk y hy
      refine ⟨_, pss_one (ps_try3 (X := (cxOf C8.CX0 X.prog X.w X.K X.mg X.base Ng x sg g cdg X.A X.stack s H C8.E0).nox) (i := 1) (c1 := c1) (c2 := c2) (c3 := c3)
          (tb := fun W D σ H => ∃ Ech : XK, (∀ cls d σ' H', Ech cls d H' → W cls d σ' H') ∧ σ[0]? = some (some (.ref f)) ∧ H c' = some (LamX.CodeO c' q) ∧ tl Ech H (fun v H' => ∀ p, H' p = none → D.rt (.ref p) (upd H' p (.tup [.str "told", v]))))
          (ts := fun a cls d D σ H => (∃ σ0 : L2.St, σ = σ0.set 1 (some (.ref a))) ∧ ∃ (C dd : Addr) (gs : List (Str × V)) (code : Str) (r : Option Str), cls = .ref C ∧ d = some dd ∧ XfC X.K C ∧ PySem.W.findIn X.K (.ref C) ("code" : Str) = some none ∧
            H dd = some (.xd gs) ∧ gs.lookup ("code" : Str) = some (.str code) ∧ SeqAt.shaped (.str code) = true ∧ fieldOf e2 code b2 = some r ∧ FldQ X.K C gs H (fun v H2 => ∀ p, H2 p = none → D.rt (.ref p) (upd H2 p (.tup [.str code, v]))) r)
          rfl rfl hN hN1 hen (gl x1 (by simp)) m1 (hnb x1 (by simp)).1 (gl x2 (by simp)) m2 (hnb x2 (by simp)).1 (gl x3 (by simp)) m3 (hnb x3 (by simp)).1 (fun W pn xe tk _ => ?_) (fun a' oe cls d pn hz hfl => ?_)), ?_⟩
      · refine ⟨fun pins s' σ H' D I h' => ?_⟩
        obtain ⟨Ech, hW, z1, z2, z3⟩ := h'
        have hp := act W pn xe Ech q2 q3 tk hW
        refine (pss_one (ps_ret (pos := q5) (pe_tup (x1 := k1) (pos := q4) (pa_cons (pe_str (j := j1) (pos := q1)) (pa_cons hp pa_nil))))).run pins s' σ H' D I ?_
        refine ⟨z1, z2, ?_⟩
        have e : (fun v H'' => ([V.str ⟨("told" : Str).cps⟩, v] : List V).length ≤ sizeLine ∧ ∀ p, H'' p = none → D.rt (.ref p) (upd H'' p (.tup [V.str ⟨("told" : Str).cps⟩, v]))) = (fun v H'' => ∀ p, H'' p = none → D.rt (.ref p) (upd H'' p (.tup [.str "told", v]))) := by
          funext v H''
          refine propext ⟨fun z => z.2, fun z => ⟨?_, z⟩⟩
          rw [sizeLine_eq]
          exact Nat.le_of_ble_eq_true rfl
        show tl Ech H' (fun v H'' => ([V.str ⟨("told" : Str).cps⟩, v] : List V).length ≤ sizeLine ∧ ∀ p, H'' p = none → D.rt (.ref p) (upd H'' p (.tup [V.str ⟨("told" : Str).cps⟩, v])))
        rw [e]
        exact z3
      · refine ⟨fun pins s' σ H' D I h' => ?_⟩
        obtain ⟨⟨σ0, hσ⟩, C, dd, gs, code, r, rfl, rfl, z2, z3, z4, z5, z6, z7, z8⟩ := h'
        have z1 : σ[1]? = some (some (.ref a')) := by
          have hl : σ.length = Ng.length := I.len
          have hl1 := (List.getElem?_eq_some_iff.mp hN1).1
          rw [hσ] at hl ⊢
          rw [List.length_set] at hl
          rw [List.getElem?_set_self (by omega)]
        refine (pss_one (ps_ret (pos := r11) (pe_tup (x1 := k3) (pos := r10) (pa_cons (pe_xf (X := (cxOf C8.CX0 X.prog X.w X.K X.mg X.base Ng x sg g cdg X.A X.stack s H C8.E0).nox) (a := a') (pos := r6) z2 z3 hz hfl (pe_var (i := 1) (pos := r5) hN1 (.inl hen) (hnb en (by simp)).1 (hnb en (by simp)).2))
          (pa_cons (pe_fldcall (X := (cxOf C8.CX0 X.prog X.w X.K X.mg X.base Ng x sg g cdg X.A X.stack s H C8.E0).nox) (gs := gs) (i := 1) (p1 := r7) (p2 := r8) (pos := r9) FD S2 h1 h2 h3 h4 h5 (hnb e2 (by simp)).1 (hnb e2 (by simp)).2 (hr.deeper _) hz hfl z2 z3 z6 z7 (gl fn (by simp)) mf (hnb fn (by simp)).1 hN1 (.inl hen) (hnb en (by simp)).1 (hnb en (by simp)).2) pa_nil))))).run pins s' σ H' D I ?_
        refine ⟨.ref a', z1, rfl, rfl, dd, gs, .str code, rfl, z4, z5, z1, z4, z5, ?_⟩
        cases r with
        | none => exact fun H2 e2 p hp => ⟨by rw [sizeLine_eq]; exact Nat.le_of_ble_eq_true rfl, fun p2 hp2 => z8 H2 e2 p hp p2 hp2⟩
        | some f =>
          obtain ⟨y1, v, y2, y3⟩ := z8
          exact ⟨y1, v, y2, fun H2 e2 p hp => ⟨by rw [sizeLine_eq]; exact Nat.le_of_ble_eq_true rfl, fun p2 hp2 => y3 H2 e2 p hp p2 hp2⟩⟩
      · refine ⟨Ewhy X.K [c1, c2, c3] e2 b2 Q, fun cls d σ' H' hE => ?_, h0 f, hco, h⟩
        obtain ⟨w1, C, dd, gs, code, r, w2, w3, w4, w5, w6, w7, w8, w9, w10⟩ := hE
        exact ⟨w1, fun a' ha => ⟨⟨_, rfl⟩, C, dd, gs, code, r, w2, w3, w4, w5, w6, w7, w8, w9, w10⟩⟩
    · cases hsh
  · cases hsh
section
variable {X : Cx} {NM : List Str} {W : WX} {P : PM.Prog} {G : Gam} {adr : Nat → Nat → Addr} {k : Nat}
theorem ext_n {f : Inj} {L : LH} {H H1 : Hp} (r : RelH X.K NM f L H) (e : LamX.ExtN H H1) (t : LamX.Tabs (LT X.K NM) H1) : Ext f H f H1 ∧ RelH X.K NM f L H1 := by
  have E : Ext f H f H1 := ⟨fun _ _ z => z, fun _ _ z => .inl z, fun q ⟨o, z, n⟩ => ⟨o, e _ _ z n, n⟩, fun q o z n _ => e _ _ z n, fun q xs z => e _ _ z (fun _ y => nomatch y), fun q o u z => e _ _ z (fun _ y => nomatch y), fun _ z => z, fun _ z => .inl z⟩
  refine ⟨E, r.inj, r.dom, fun a o h => ?_, fun q h => E.keep q (r.bn q h), t⟩
  obtain ⟨q, e1, e2⟩ := r.obj a o h
  obtain ⟨u, h1, h2⟩ := e2.th
  exact ⟨q, e1, e2.mono E.mo (by rw [h1]; exact e _ _ h1 h2)⟩
theorem ext_a {f : Inj} {L : LH} {H H1 : Hp} (r : RelH X.K NM f L H) (e : ExtA H H1) : Ext f H f H1 ∧ RelH X.K NM f L H1 := by
  have E : Ext f H f H1 := ⟨fun _ _ z => z, fun _ _ z => .inl z, fun q ⟨o, z, n⟩ => ⟨o, e _ _ z, n⟩, fun q o z n _ => e _ _ z, fun q xs z => e _ _ z, fun q o u z => e _ _ z, fun _ z => z, fun _ z => .inl z⟩
  refine ⟨E, r.inj, r.dom, fun a o h => ?_, fun q h => E.keep q (r.bn q h), r.tab.ext e⟩
  obtain ⟨q, e1, e2⟩ := r.obj a o h
  obtain ⟨u, h1, h2⟩ := e2.th
  exact ⟨q, e1, e2.mono E.mo (by rw [h1]; exact e _ _ h1)⟩
/-- w(lambda: body) -/
theorem se_why (F : Fc X NM W P G adr k) {w : Nat} {params : Arguments} {body : Expr} {scope : Scope} {ea : E} {p lpos pos : Pos} (hw : P.why = some w) (hg : Gl X (nm NM w)) (hlm : ∃ e ∈ P.lams, X.env.scope.names = e.2) (L : LamX.LamS X.env.scope scope) (hdef : defaultsOf params X.env = ([], []))
    (hbind : ∀ (q : Str) (cl : List (Str × Addr)) (pm cv ctv : Value), bindArgs (PySem.W.kla_fn "<lambda>" q params body scope cl pm cv ctv) ⟨[], []⟩ = pure [])
    (hne : ∀ e ∈ P.lams, scope.names ≠ e.2) (hbody : ∀ (Y : Cx) (W' : WX), Fc Y NM W' P G adr k → Y.env.scope = scope → Y.N = X.N → SE Y NM W' body (den P G ea).e) :
    SE X NM W (.Call (.Name (nm NM w) p) [.Lambda params body scope lpos] [] pos) (den P G (.why ea)).e := by
  obtain ⟨fd, fd2, params1, p2, bg, b2, sg, sc2, Ng, N2, a, en, e2, c1, c2, c3, ff, FD, Sg, v1, v2, v4, v3, v5, hsh, hN1, hen, hnb, hgl, hglw, FD2, S2, u1, u2, u4, u3, u5, herr⟩ := (F.sf.why w hw).ex
  obtain ⟨e0, he0, hs0⟩ := hlm
  obtain ⟨A, hr4⟩ := F.lam e0 he0 hs0
  have hcd := kcode_nm F.sf
  have hb := binds_flat FD (by simp) v1 v2 v3 v4 v5
  have kp := FD.kp
  obtain ⟨oc, od, dV, kV, doc, pm, an, cdv, ct, osl, rfl, lk, hcg, _, _⟩ := FD.ex
  have n0 : Ng[0]? = some a := by
    have z : (Ng.take 1)[0]? = some a := by rw [show Ng.take 1 = [a] from Sg.pre]; rfl
    simpa using z
  have hva : Vis sg a := (Sg.par a (List.mem_singleton.mpr rfl)).elim .inl fun z => .inr (.inl z)
  have gls : ∀ y ∈ [nm NM c1, nm NM c2, nm NM c3, nm NM ff], sg.names.lookup y = some .globalImplicit := fun y hy => by
    simp only [List.mem_cons, List.not_mem_nil, or_false] at hy
    rcases hy with rfl | rfl | rfl | rfl <;> exact (hgl _ (by simp)).2
  have hG := why_gives (X := X) (Ng := Ng) (x := nm NM w) (sg := sg) (g := gad X.K NM w) (cdg := cdv) (q := X.env.qual ++ ("<lambda>" : Str)) hsh Sg.nd hN1 hen gls (fun y hy => hnb y (by simp only [List.mem_cons, List.not_mem_nil, or_false] at hy ⊢; rcases hy with h | h | h | h | h | h <;> simp [h])) (F.mgs c1 (hgl c1 (by simp)).1) (F.mgs c2 (hgl c2 (by simp)).1) (F.mgs c3 (hgl c3 (by simp)).1) (F.mgs ff (hgl ff (by simp)).1) FD2 S2 u1 u2 u3 u4 u5 (hr4.mono (by omega)) (fun f => by
    have : 0 < Ng.length := (List.getElem?_eq_some_iff.mp n0).1
    rfl)
  have RR := LamX.pe_lamcall (X := X) (T := LT X.K NM) (k := k + 2) (t := fun E => tR X.K NM (VR X.K NM) (fun cls d _ H => E cls d H) (den P G ea).e) (p := p) (lpos := lpos) (pos := pos) hg (F.mgs w hglw) kp lk hcg hb Sg n0 hva hG A.tab A.code (by rw [A.q]; exact A.mem) (fun q hq hp => by rw [A.q]; exact A.un q hq hp) hr4 L hdef hbind
    (fun A' outer s H E f c' hr => hbody _ _ ⟨F.sf, F.gs, hr, takes_of rfl rfl rfl rfl, passes_of rfl, rfl, F.xn, F.mgn, F.mgc, F.mgs, fun e he h => absurd h (hne e he)⟩ rfl rfl) (hnb (nm NM w) (by simp)).1 (hnb a (by simp)).1 (hnb a (by simp)).2
  refine pe_weak RR fun σ H Q h => ?_
  obtain ⟨f, l, LL, hR, hS, h⟩ := h
  refine ⟨hR.tab, fun H1 eN tN => ?_⟩
  obtain ⟨E1, R1⟩ := ext_n hR eN tN
  refine ⟨f, l, LL, R1, hS.mono E1.mo, ?_⟩
  have h : Aft X.K NM f H (match (den P G ea).e l LL with
      | .ok v H1 => .ok (.tup [.str [116, 111, 108, 100], v]) H1
      | .exc x H1 => whyOf P x H1
      | .bad => .bad : R LV) (fun a f' H' => ∀ b, VR X.K NM f' H' a b → Q b H') (Wx X.K NM W σ) := h
  have h := Aft.ext h E1
  cases q : (den P G ea).e l LL with
  | ok v L1 =>
    rw [q] at h
    intro f2 H2 e2 r2 b rb p hp
    have E3 := Ext.put (f := f2) (u := .tup [.str "told", b]) hp
    refine h f2 _ (e2.trans E3) (r2.put hp) _ ⟨p, [.str "told", b], rfl, SqT.of upd_same, VRs.cons rfl (VRs.cons (VR.mono E3.mo _ _ rb) VRs.nil)⟩
  | exc x L1 =>
    rw [q] at h
    dsimp only at h
    unfold whyOf at h
    cases hi : P.err x.cls with
    | none => rw [hi] at h; exact h.elim
    | some i =>
      rw [hi] at h
      dsimp only at h
      cases hv : errV i x.fs with
      | none => rw [hv] at h; exact h.elim
      | some w' =>
        rw [hv] at h
        intro f2 H2 e2' r2 cls d hx
        obtain ⟨z1, dd, gs, z2, z3, z4, z5⟩ := hx
        have T := F.sf.err x.cls i hi
        obtain ⟨y1, y2, y3⟩ := herr x.cls i hi
        subst z1
        unfold errV at hv
        split at hv
        · rename_i kk cc hi2 hfs
          split at hv
          · rename_i hc
            obtain ⟨rfl, rfl⟩ := hc
            cases hv
            rw [hfs] at z5
            obtain ⟨w1, ws, rfl, _, rw1, hn⟩ := z5
            obtain rfl : ws = [] := hn
            obtain rfl : w1 = strV i.1 := rw1
            refine ⟨y1, gad X.K NM x.cls, dd, _, ⟨i.1.toArray⟩, _, rfl, z2, T.xf, by rw [← hcd]; exact T.noC.1, z3, by rw [hcd]; simp [strV], y3, y2, ?_⟩
            rw [hi2]
            intro H3 e3 p hp p2 hp2
            obtain ⟨E3, r3⟩ := ext_a r2 e3
            have E4 := Ext.put (f := f2) (u := .tup []) hp
            have E5 := Ext.put (f := f2) (u := .tup [.str ⟨i.1.toArray⟩, .ref p]) hp2
            refine h f2 _ (((e2'.trans E3).trans E4).trans E5) ((r3.put hp).put hp2) _ ⟨p2, _, rfl, SqT.of upd_same, VRs.cons rfl (VRs.cons ⟨p, [], rfl, SqT.of ?_, VRs.nil⟩ VRs.nil)⟩
            rw [upd_ne fun z => ?_, upd_same]
            rw [← z, upd_same] at hp2
            cases hp2
          · cases hv
        · rename_i ff2 g2 v2 kk cc hi2 hfs
          split at hv
          · rename_i hc
            obtain ⟨rfl, rfl, rfl⟩ := hc
            cases hv
            rw [hfs] at z5
            obtain ⟨w0, ws0, rfl, _, rw0, w1, ws, rfl, _, rw1, hn⟩ := z5
            obtain rfl : ws = [] := hn
            obtain rfl : w1 = strV i.1 := rw1
            have nf := T.noF g2 hi2
            by_cases hgc : nm NM kCode = nm NM g2
            · exact absurd (nm_inj F.sf.nd T.noC.2 nf.2.1 hgc).symm nf.2.2
            refine ⟨y1, gad X.K NM x.cls, dd, _, ⟨i.1.toArray⟩, _, rfl, z2, T.xf, by rw [← hcd]; exact T.noC.1, z3, by rw [← hcd, List.lookup_cons, beq_eq_false_iff_ne.mpr hgc]; simp [strV], y3, y2, ?_⟩
            rw [hi2]
            refine ⟨nf.1, w0, by rw [List.lookup_cons, beq_self_eq_true], ?_⟩
            intro H3 e3 p hp p2 hp2
            obtain ⟨E3, r3⟩ := ext_a r2 e3
            have E4 := Ext.put (f := f2) (u := .tup [w0]) hp
            have E5 := Ext.put (f := f2) (u := .tup [.str ⟨i.1.toArray⟩, .ref p]) hp2
            refine h f2 _ (((e2'.trans E3).trans E4).trans E5) ((r3.put hp).put hp2) _ ⟨p2, _, rfl, SqT.of upd_same, VRs.cons rfl (VRs.cons ⟨p, [w0], rfl, SqT.of ?_, VRs.cons (VR.mono ((E3.trans E4).trans E5).mo _ _ rw0) VRs.nil⟩ VRs.nil)⟩
            rw [upd_ne fun z => ?_, upd_same]
            rw [← z, upd_same] at hp2
            cases hp2
          · cases hv
        · cases hv
  | bad => rw [q] at h; exact h.elim
end
end PM

set_option Elab.async false
set_option linter.all false
set_option autoImplicit false
set_option maxHeartbeats 1000000
/-! # PM19: tests that are not plain; places that are not served -/
namespace PM
open PySem PySem.Spec PyProof.Rows
open L2 hiding St
section
variable {X : Cx} {NM : List Str} {W : WX} {P : PM.Prog} {G : Gam} {adr : Nat → Nat → Addr} {k : Nat}
theorem st_ife {c a b : Expr} {ec ea eb : E} {pos : Pos} (hc : ST X NM W c (den P G ec).t) (ha : ST X NM W a (den P G ea).t) (hb : ST X NM W b (den P G eb).t) : ST X NM W (.IfExp c a b pos) (den P G (.ife ec ea eb)).t := by
  refine ⟨fun pins s σ H Q I h => ?_⟩
  obtain ⟨f, l, L, hR, hS, h⟩ := h
  have h : Aft X.K NM f H (((den P G ec).t l L).bind fun k H1 => if k then (den P G ea).t l H1 else (den P G eb).t l H1) _ _ := h
  show wpAny _ _ (isTrue c X.env (eval c X.env) >>= fun b' => if b' = true then isTrue a X.env (eval a X.env) else isTrue b X.env (eval b X.env)) _ _ _
  refine wpAny_bind (thn (hc.run pins s σ H (fun k H1 => if k = true then tR X.K NM rB W (den P G ea).t σ H1 Q else tR X.K NM rB W (den P G eb).t σ H1 Q) I (tR_bind hR hS h fun k L1 f1 H1 v e1 r1 s1 rv h1 => ?_)) fun k s1 ⟨H1, I1, q1⟩ => ?_)
  · subst rv
    cases k with
    | true => exact ⟨f1, l, L1, r1, s1, h1⟩
    | false => exact ⟨f1, l, L1, r1, s1, h1⟩
  · cases k with
    | true => exact ha.run pins s1 σ H1 Q I1 q1
    | false => exact hb.run pins s1 σ H1 Q I1 q1
theorem st_isN {e : Expr} {ea : E} {j : Nat} {p pos : Pos} (ha : SE X NM W e (den P G ea).e) : ST X NM W (.Compare e [.Is] [.Constant .none j p] pos) (den P G (.isN ea)).t := by
  refine pt_weak (pt_cmpR op_isN ha pe_non rfl) fun σ H Q h => ?_
  obtain ⟨f, l, L, hR, hS, h⟩ := h
  have h : Aft X.K NM f H ((((den P G ea).e l L).bind fun x H1 => .ok (.bl (isNone x)) H1).bind fun v H1 => truth P G v H1) _ _ := h
  rw [R.bind_assoc] at h
  refine tR_bind hR hS h fun x L1 f1 H1 v e1 r1 s1 rv h1 => ?_
  refine ⟨rfl, _, rfl, ?_⟩
  rw [← isNone_ok rv]
  exact Aft.here (show Aft X.K NM f1 H1 (.ok (isNone x) L1 : R Bool) _ _ from h1) r1 _ rfl
theorem st_notN {e : Expr} {ea : E} {j : Nat} {p pos : Pos} (ha : SE X NM W e (den P G ea).e) : ST X NM W (.Compare e [.IsNot] [.Constant .none j p] pos) (den P G (.notN ea)).t := by
  refine pt_weak (pt_cmpR op_notN ha pe_non rfl) fun σ H Q h => ?_
  obtain ⟨f, l, L, hR, hS, h⟩ := h
  have h : Aft X.K NM f H ((((den P G ea).e l L).bind fun x H1 => .ok (.bl (!isNone x)) H1).bind fun v H1 => truth P G v H1) _ _ := h
  rw [R.bind_assoc] at h
  refine tR_bind hR hS h fun x L1 f1 H1 v e1 r1 s1 rv h1 => ?_
  refine ⟨rfl, _, rfl, ?_⟩
  rw [← isNone_ok rv]
  exact Aft.here (show Aft X.K NM f1 H1 (.ok (!isNone x) L1 : R Bool) _ _ from h1) r1 _ rfl
theorem st_chain (ht : TruS X NM W P G) {op op' : CmpOp} {o o' : COp} {a b c : Expr} {ea eb ec : E} {pos : Pos} (ho : OpS X NM W (compareOp op) (cmpV P G o)) (ho' : OpS X NM W (compareOp op') (cmpV P G o')) (ha : SE X NM W a (den P G ea).e) (hb : SE X NM W b (den P G eb).e) (hc : SE X NM W c (den P G ec).e)
    (hm : lastMarks [op, op'] [b, c] = false) : ST X NM W (.Compare a [op, op'] [b, c] pos) (den P G (.chain o o' ea eb ec)).t := by
  refine ⟨fun pins s σ H Q I h => ?_⟩
  obtain ⟨f, l, L, hR, hS, h⟩ := h
  have h : Aft X.K NM f H ((((den P G ea).e l L).bind fun x H1 => ((den P G eb).e l H1).bind fun y H2 => (cmpV P G o x y H2).bind fun r H3 =>
      chainK (fun σ H3 => ((den P G ec).e σ H3).bind fun z H4 => cmpV P G o' y z H4) l r H3).bind fun v H1 => truth P G v H1) _ _ := h
  simp only [R.bind_assoc] at h
  refine isTrue_chain (thn (ha.run pins s σ H (fun v H1 => tR X.K NM (VR X.K NM) W (den P G eb).e σ H1 fun u H2 => ∃ f2 x y L2, RelH X.K NM f2 L2 H2 ∧ SR X.K NM f2 H2 l σ ∧ VR X.K NM f2 H2 x v ∧ VR X.K NM f2 H2 y u ∧
      Aft X.K NM f2 H2 ((cmpV P G o x y L2).bind fun r H3 => (chainK (fun σ H3 => ((den P G ec).e σ H3).bind fun z H4 => cmpV P G o' y z H4) l r H3).bind fun v H1 => truth P G v H1) (fun a f' H' => ∀ b, rB f' H' a b → Q b H') (Wx X.K NM W σ)) I
    (tR_bind hR hS h fun x L1 f1 H1 v e1 r1 s1 rv h1 => tR_bind r1 s1 h1 fun y L2 f2 H2 u e2 r2 s2 ru h2 => ⟨f2, x, y, L2, r2, s2, VR.mono e2.mo _ _ rv, ru, h2⟩)) fun v s1 ⟨x, H1, I1, r1, q1⟩ => test_link (thn (hb.run pins s1 σ H1 _ I1 q1) fun u s2 ⟨y, H2, I2, r2, q2⟩ => ?_)) hm
  obtain ⟨f2, x', y', L2, q2, q3, q4, q5, q6⟩ := q2
  refine thn (ho pins s2 σ H2 x y v u (fun z H3 => (z = .bl true ∧ ∃ f3 L3, RelH X.K NM f3 L3 H3 ∧ SR X.K NM f3 H3 l σ ∧ VR X.K NM f3 H3 y' y ∧ Aft X.K NM f3 H3 ((((den P G ec).e l L3).bind fun z H4 => cmpV P G o' y' z H4).bind fun v H1 => truth P G v H1) (fun a f' H' => ∀ b, rB f' H' a b → Q b H') (Wx X.K NM W σ)) ∨ (z = .bl false ∧ Q false H3)) I2 r1 r2 ⟨f2, x', y', L2, q2, q4, q5, ?_⟩) fun d s3 ⟨z, H3, I3, r3, q⟩ => ?_
  · cases q : cmpV P G o x' y' L2 with
    | ok r L3 =>
      rw [q] at q6
      intro f' H' e r1 z rz
      cases r with
      | bl t =>
        obtain rfl : z = .bl t := rz
        cases t with
        | true => exact .inl ⟨rfl, f', L3, r1, q3.mono e.mo, VR.mono e.mo _ _ q5, Aft.ext q6 e⟩
        | false => exact .inr ⟨rfl, Aft.here (show Aft X.K NM f' H' (.ok false L3 : R Bool) _ _ from Aft.ext q6 e) r1 _ rfl⟩
      | _ => exact q6.elim
    | exc x L3 => rw [q] at q6; exact q6
    | bad => rw [q] at q6; exact q6
  · rcases q with ⟨rfl, f3, L3, q1, q2, q3, q4⟩ | ⟨rfl, q⟩
    · cases r3
      rw [R.bind_assoc] at q4
      refine wpAny_truthy_bool (ite_tt (test_last (thn (hc.run pins s3 σ H3 (fun w H4 => ∃ f4 z L4, RelH X.K NM f4 L4 H4 ∧ VR X.K NM f4 H4 y' y ∧ VR X.K NM f4 H4 z w ∧ Aft X.K NM f4 H4 ((cmpV P G o' y' z L4).bind fun v H1 => truth P G v H1) (fun a f' H' => ∀ b, rB f' H' a b → Q b H') (Wx X.K NM W σ)) I3
        (tR_bind q1 q2 q4 fun z L4 f4 H4 w e4 r4 s4 rw' h4 => ⟨f4, z, L4, r4, VR.mono e4.mo _ _ q3, rw', h4⟩)) fun w' s4 ⟨z', H4, I4, r4, q4⟩ => ?_)))
      obtain ⟨f4, z4, L4, w1, w2, w3, w4⟩ := q4
      refine thn (ho' pins s4 σ H4 y z' u w' (fun z H5 => ∃ g a L, RelH X.K NM g L H5 ∧ VR X.K NM g H5 a z ∧ Aft X.K NM g H5 (truth P G a L) (fun c f' H' => ∀ z, rB f' H' c z → Q z H') (Wx X.K NM W σ)) I4 r2 r4 ⟨f4, y', z4, L4, w1, w2, w3, ?_⟩) fun d' s5 ⟨z2, H5, I5, r5, g5, a5, L5, v1, v2, v3⟩ => ht pins s5 σ H5 z2 d' Q I5 r5 ⟨g5, a5, L5, v1, v2, v3⟩
      cases q : cmpV P G o' y' z4 L4 with
      | ok c L3 =>
        rw [q] at w4
        intro f' H' e r z rz
        exact ⟨f', c, L3, r, rz, Aft.ext w4 e⟩
      | exc x L3 => rw [q] at w4; exact w4
      | bad => rw [q] at w4; exact w4
    · cases r3
      exact wpAny_truthy_bool (ite_ff ⟨H3, I3, q⟩)
/-! ### what is not served -/
theorem tR_bad {α β : Type} {K : PySem.W.Frag} {rel : Inj → Hp → α → β → Prop} {dn : LS → LH → R α} {σ : St} {H : Hp} {Q : β → Hp → Prop} (hd : ∀ l L, dn l L = .bad) (h : tR K NM rel W dn σ H Q) : False := by
  obtain ⟨f, l, L, _, _, h⟩ := h
  rw [hd] at h
  exact h
theorem se_bad {e : Expr} {dn : LS → LH → R LV} (hd : ∀ l L, dn l L = .bad) : SE X NM W e dn := ⟨fun _ _ _ _ _ _ h => (tR_bad hd h).elim⟩
theorem st_bad {e : Expr} {dn : LS → LH → R Bool} (hd : ∀ l L, dn l L = .bad) : ST X NM W e dn := ⟨fun _ _ _ _ _ _ h => (tR_bad hd h).elim⟩
theorem sa_bad {e : List Expr} {dn : LS → LH → R (List LV)} (hd : ∀ l L, dn l L = .bad) : SA X NM W e dn := ⟨fun _ _ _ _ _ _ _ h => (tR_bad hd h).elim⟩
theorem sw_bad {e : Expr} {dn : LS → LH → R Bool} (hd : ∀ l L, dn l L = .bad) : PW X e (tR X.K NM rB W dn) := ⟨fun _ _ _ _ _ _ _ h => (tR_bad hd h).elim⟩
theorem si_bad {tg e : Expr} {dn : LS → LH → R LIt} (hd : ∀ l L, dn l L = .bad) : SI X NM W tg e dn := ⟨fun _ _ _ _ _ _ h => (tR_bad hd h).elim⟩
theorem sk_bad {e : List Keyword} {dn : LS → LH → R (List LV)} (hd : ∀ l L, dn l L = .bad) : SK X NM W e dn := ⟨fun _ _ _ _ _ _ _ h => (tR_bad hd h).elim⟩
theorem so_bad {e : Option Expr} {dn : LS → LH → R (Option Int)} (hd : ∀ l L, dn l L = .bad) : SO X NM W e dn := ⟨fun _ _ _ _ _ _ h => (tR_bad hd h).elim⟩
theorem sg_bad {e : Expr} {dn : LV → LS → LH → R LS} (hd : ∀ v l L, dn v l L = .bad) : SG X NM W e dn := ⟨fun _ _ _ _ _ _ _ _ _ h => by
  obtain ⟨f, l, L, x, _, _, _, h⟩ := h
  rw [hd] at h
  exact h.elim⟩
theorem sgs_bad {e : List Expr} {dn : List LV → LS → LH → R LS} (hd : ∀ v l L, dn v l L = .bad) : SGs X NM W e dn := ⟨fun _ _ _ _ _ _ _ _ _ h => by
  obtain ⟨f, l, L, x, _, _, _, h⟩ := h
  rw [hd] at h
  exact h.elim⟩
theorem sgw_bad {vs : List Nat} {e : Expr} {dn : LV → LS → LH → R LS} (hd : ∀ v l L, dn v l L = .bad) : SGw X NM vs e dn := ⟨fun _ _ _ _ _ _ _ _ _ h => by
  obtain ⟨f, l, L, x, _, _, _, h⟩ := h
  rw [hd] at h
  exact h.elim⟩
theorem sgsw_bad {vs : List Nat} {e : List Expr} {dn : List LV → LS → LH → R LS} (hd : ∀ v l L, dn v l L = .bad) : SGsw X NM vs e dn := ⟨fun _ _ _ _ _ _ _ _ _ h => by
  obtain ⟨f, l, L, x, _, _, _, h⟩ := h
  rw [hd] at h
  exact h.elim⟩
theorem ss_bad {e : Stmt} {dn : LS → LH → RS} (hd : ∀ l L, dn l L = .bad) : SS X NM W e dn := ⟨fun _ _ _ _ _ _ h => by
  obtain ⟨f, l, L, _, _, h⟩ := h
  rw [hd] at h
  exact h.elim⟩
theorem sss_bad {e : List Stmt} {dn : LS → LH → RS} (hd : ∀ l L, dn l L = .bad) : SSs X NM W e dn := ⟨fun _ _ _ _ _ _ h => by
  obtain ⟨f, l, L, _, _, h⟩ := h
  rw [hd] at h
  exact h.elim⟩
end
end PM

set_option Elab.async false
set_option linter.all false
set_option autoImplicit false
set_option maxHeartbeats 1000000
/-! # PM20: the translator -/
namespace PM
open PySem PySem.Spec PyProof.Rows
open L2 hiding St
/-- a name's place in a list -/
def idxA (x : Str) : Nat → List Str → Option Nat
  | _, [] => none
  | n, y :: r => if y = x then some n else idxA x (n + 1) r
def idx (NM : List Str) (x : Str) : Option Nat := idxA x 0 NM
def lk (sc : Scope) (x : Str) : Option NameKind := sc.names.lookup x
def isGlb (sc : Scope) (x : Str) : Bool := match lk sc x with
  | some .globalImplicit => true
  | _ => false
def isLoc (sc : Scope) (x : Str) : Bool := match lk sc x with
  | some .local => true
  | some .cell => true
  | _ => false
def isPlainLoc (sc : Scope) (x : Str) : Bool := match lk sc x with
  | some .local => true
  | _ => false
def isVis (sc : Scope) (x : Str) : Bool := match lk sc x with
  | some .local => true
  | some .cell => true
  | some .free => true
  | _ => false
def badNm (x : Str) : Bool := x == ("__debug__" : Str) || x == ("__classdict__" : Str)
/-- built-in calls by the number of values -/
def bltOf (x : Str) (n : Nat) : Option Bl := match n with
  | 1 => if x = ("len" : Str) then some .len else if x = ("int" : Str) then some .int else if x = ("bool" : Str) then some .bool else if x = ("str" : Str) then some .str else if x = ("repr" : Str) then some .repr
    else if x = ("abs" : Str) then some .abs else if x = ("sum" : Str) then some .sum else if x = ("list" : Str) then some .list else if x = ("tuple" : Str) then some .tuple else if x = ("all" : Str) then some .all else if x = ("any" : Str) then some .any else none
  | 2 => if x = ("max" : Str) then some .max2 else if x = ("min" : Str) then some .min2 else none
  | _ => none
section
variable (P : PM.Prog) (NM : List Str)
/-- the list made here will be changed -/
def muP (pos : Pos) : Bool := P.mu pos.line pos.col
def tyName (x : Str) : Option Ty := if x = ("int" : Str) then some .int else if x = ("bool" : Str) then some .bool else if x = ("str" : Str) then some .str else if x = ("list" : Str) then some .list else if x = ("tuple" : Str) then some .tuple else if x = ("dict" : Str) then some .dict
  else match idx NM x with
    | some g => if P.isCls g && P.glb g then some (.own g) else none
    | none => none
def tyExp (sc : Scope) : Expr → Option Ty
  | .Name x _ => if isGlb sc x && !badNm x then tyName P NM x else none
  | _ => none
def tyExps (sc : Scope) : List Expr → Option (List Ty)
  | [] => some []
  | e :: es => match tyExp P NM sc e, tyExps sc es with
    | some t, some ts => some (t :: ts)
    | _, _ => none
def kwIx : List Str → Option (List Nat)
  | [] => some []
  | x :: r => match idx NM x, kwIx r with
    | some i, some is => some (i :: is)
    | _, _ => none
/-- the keywords' ids -/
def kwIds (kws : List Keyword) : Option (List Nat) := match kwN kws with
  | some ns => kwIx NM ns
  | none => none
/-- a block's own names with their places -/
def ownOf (N : List Str) : List (Str × NameKind) → List (Str × Nat)
  | [] => []
  | (x, k) :: r => match k with
    | .local | .cell => (match idx N x with
      | some i => (x, i) :: ownOf N r
      | none => ownOf N r)
    | _ => ownOf N r
/-- how a pair is stored: none: not served -/
def sw1 (sc : Scope) (ts vs : List Expr) : Bool := !(ts.length == 2 || ts.length == 3) || vs.length != ts.length || (if sc.kind.isAnnotationScope then ScopeKind.function else sc.kind) != .function
def sw2 (vs : List Expr) : Bool := vs.any fun | .Starred .. => true | _ => false
def swN (sc : Scope) (ts : List Expr) : List Str := ts.filterMap fun
      | .Name id pos => if sc.names.lookup id == some .local && pos.line == (ts.head?.map (·.pos.line)).getD 0 then some id else none
      | _ => none
def sw3 (sc : Scope) (ts : List Expr) : Bool := (swN sc ts).length != ts.length || (swN sc ts).eraseDups.length != (swN sc ts).length
def swapOf (sc : Scope) (ts vs : List Expr) : Option (Option (List Str)) :=
  if sw1 sc ts vs then some none else if sw2 vs then some none else if sw3 sc ts then some none else if vs.all (foldedForSure 8) then some none else if vs.all (constantsAlone 8) then none else some (some (swN sc ts))
/-- a comprehension stored in a name: the short way? -/
def lcShort (sc : Scope) (t : Str) (pos : Pos) (scope : Scope) (vpos : Pos) : Bool :=
  (if sc.kind.isAnnotationScope then ScopeKind.function else sc.kind) == .function && sc.names.lookup t == some .local && pos.line == vpos.line && !(scope.names.any fun (n, k) => n == t && (k == .local || k == .cell))
structure Tr where
  e : List Str → Scope → Expr → E
  es : List Str → Scope → List Expr → E
  ks : List Str → Scope → List Keyword → E
  i : List Str → Scope → Expr → Expr → E
  g : List Str → Scope → Expr → E
  gs : List Str → Scope → List Expr → E
  gw : List Str → Scope → List Nat → Expr → E
  gsw : List Str → Scope → List Nat → List Expr → E
  s : List Str → Scope → Stmt → E
  ss : List Str → Scope → List Stmt → E
/-- part of a slice -/
def sPart (t : Tr) (N : List Str) (sc : Scope) : Option Expr → E
  | none => .nil
  | some e => .cons (t.e N sc e) .nil
def trCmp (t : Tr) (N : List Str) (sc : Scope) (a : Expr) (op : CmpOp) (b : Expr) : E := match op, b with
  | .Is, .Constant .none _ _ => .isN (t.e N sc a)
  | .IsNot, .Constant .none _ _ => .notN (t.e N sc a)
  | op, b => match cmpT op with
    | some o => if behindInMarks op b then .wall else .cmp o (t.e N sc a) (t.e N sc b)
    | none => .wall
def noParams (a : Arguments) : Bool := a.posonlyargs.isEmpty && a.args.isEmpty && a.vararg.isNone && a.kwonlyargs.isEmpty && a.kw_defaults.isEmpty && a.kwarg.isNone && a.defaults.isEmpty
def whyOk (sc : Scope) (params : Arguments) (scope : Scope) : Bool := noParams params && LamX.lamSB sc scope && P.lams.any (fun e => decide (sc.names = e.2)) && P.lams.all (fun e => !decide (scope.names = e.2))
def trWhy (t : Tr) (N : List Str) (sc : Scope) (args : List Expr) (kws : List Keyword) : E := match args, kws with
  | [.Lambda params body scope _], [] => if whyOk P sc params scope then .why (t.e N scope body) else .wall
  | _, _ => .wall
def mxdOf (x : Str) (args : List Expr) (kws : List Keyword) : Option (Expr × Expr) := match args, kws with
  | [e], [⟨some y, d, _⟩] => if x = ("max" : Str) ∧ y = ("default" : Str) ∧ notStar e = true then some (e, d) else none
  | _, _ => none
def trCallN (t : Tr) (N : List Str) (sc : Scope) (x : Str) (args : List Expr) (kws : List Keyword) (pos : Pos) : E :=
  if !isGlb sc x || badNm x then .wall else match idx NM x with
    | some g => if P.why = some g then trWhy P t N sc args kws else if P.glb g && (P.isCls g || (P.fn 0 g).isSome) then match kwIds NM kws, shpOf args kws with
        | some ks, some _ => .call g (t.es N sc args) ks (t.ks N sc kws)
        | _, _ => .wall
      else .wall
    | none => match mxdOf x args kws with
      | some (e, d) => .mxd (t.e N sc e) (t.e N sc d)
      | none => if kws.isEmpty && args.all notStar then
        (if x = ("isinstance" : Str) then match args with
          | [e, .Tuple cs _ _] => (match tyExps P NM sc cs with
            | some ts => if ts.length ≤ 100 && !ts.isEmpty && cs.all notStar then .isi (t.e N sc e) ts else .wall
            | none => .wall)
          | [e, c] => (match tyExp P NM sc c with
            | some ty => .isi (t.e N sc e) [ty]
            | none => .wall)
          | _ => .wall
        else match bltOf x args.length with
          | some b => .blt (if muP P pos && decide (b = .list) then .listM else b) (t.es N sc args)
          | none => .wall)
      else .wall
def trCallM (t : Tr) (N : List Str) (sc : Scope) (o : Expr) (m : Str) (apos : Pos) (args : List Expr) (kws : List Keyword) (pos : Pos) : E :=
  if !(baseOk o && fewOk args kws && (apos.endLine == pos.line)) then .wall else match idx NM m, kwIds NM kws with
    | some i, some ks => if i = kAppend ∨ i = kExtend ∨ i = kJoin then (match args, kws with
        | [e], [] => .met i (t.e N sc o) (.cons (t.e N sc e) .nil) [] .nil
        | _, _ => .wall)
      else if i = kPop then (match args, kws with
        | [], [] => .met i (t.e N sc o) .nil [] .nil
        | _, _ => .wall)
      else .met i (t.e N sc o) (t.es N sc args) ks (t.ks N sc kws)
    | _, _ => .wall
def lcB (m : Bool) (a b c d : E) (own : List Nat) : E := if m then .lcM a b c d own else .lc a b c d own
def blkP (N : List Str) (sc scope : Scope) (own : List (Str × Nat)) : Bool := blkC N sc scope own && P.lams.all (fun e => !decide ((relS scope sc).names = e.2))
def trLc (m : Bool) (t : Tr) (N : List Str) (sc : Scope) (elt tg iter : Expr) (ifs : List Expr) (scope : Scope) : E :=
  let own := ownOf N scope.names
  if !(blkP P N sc scope own && noSet iter) then .wall else match ifs with
    | [] => lcB m (t.e N (relS scope sc) elt) (t.gw N scope (own.map (·.2)) tg) (t.i N sc tg iter) .nil (own.map (·.2))
    | [c] => lcB m (t.e N (relS scope sc) elt) (t.gw N scope (own.map (·.2)) tg) (t.i N sc tg iter) (t.e N (relS scope sc) c) (own.map (·.2))
    | _ => .wall
def trE (t : Tr) (N : List Str) (sc : Scope) : Expr → E
  | .Name x _ => if badNm x then .wall else if isVis sc x then (match idx N x with
      | some i => .var i
      | none => .wall)
    else if isGlb sc x then (match idx NM x with
      | some g => if P.glb g then .glo g else match P.con g with
        | some _ => .con g
        | none => .wall
      | none => .wall)
    else .wall
  | .Constant c _ _ => match c with
    | .int i => .int i
    | .bool b => .bl b
    | .none => .non
    | .str x => .str x.cps.toList
    | _ => .wall
  | .Tuple es _ _ => .tup (t.es N sc es)
  | .List es pos => if muP P pos then .lstM (t.es N sc es) else .lst (t.es N sc es)
  | .BinOp a op b pos => match opT (muP P pos) op with
    | some o => .bin o (t.e N sc a) (t.e N sc b)
    | none => .wall
  | .UnaryOp .Not a _ => .not (t.e N sc a)
  | .UnaryOp .USub a _ => .neg (t.e N sc a)
  | .Compare a [op] [b] _ => trCmp t N sc a op b
  | .Compare a [op, op'] [b, c] _ => match cmpT op, cmpT op' with
    | some o, some o' => if lastMarks [op, op'] [b, c] then .wall else .chain o o' (t.e N sc a) (t.e N sc b) (t.e N sc c)
    | _, _ => .wall
  | .BoolOp .And es _ => .and (t.es N sc es)
  | .BoolOp .Or es _ => .or (t.es N sc es)
  | .IfExp c a b _ => .ife (t.e N sc c) (t.e N sc a) (t.e N sc b)
  | .Attribute o f _ => if baseOk o then (match idx NM f with
      | some i => .fld i (t.e N sc o)
      | none => .wall) else .wall
  | .Subscript a (.Slice lo hi none _) pos => (if muP P pos then E.slcM else .slc) (t.e N sc a) (sPart t N sc lo) (sPart t N sc hi)
  | .Subscript a (.Slice none none (some (.UnaryOp .USub (.Constant (.int 1) _ _) _)) _) _ => .rev (t.e N sc a)
  | .Subscript a b _ => if plainIx b then .ix (t.e N sc a) (t.e N sc b) else .wall
  | .Call (.Name x _) args kws pos => trCallN P NM t N sc x args kws pos
  | .Call (.Attribute o m apos) args kws pos => trCallM NM t N sc o m apos args kws pos
  | .ListComp elt [⟨tg, iter, ifs, 0⟩] scope pos => trLc P (muP P pos) t N sc elt tg iter ifs scope
  | .JoinedStr [.FormattedValue e (-1) none _] _ => .fmt (t.e N sc e)
  | .JoinedStr [.Constant (.str x) _ _] _ => .str x.cps.toList
  | .JoinedStr (a :: b :: r) _ => .fst (t.es N sc (a :: b :: r))
  | .FormattedValue e (-1) none _ => .fmt (t.e N sc e)
  | _ => .wall
def trI (t : Tr) (N : List Str) (sc : Scope) (tg it : Expr) : E := match it with
  | .Call (.Name x _) args [] _ => if isGlb sc x && args.all notStar then
      (if x = ("range" : Str) then match args with
        | [a] => .itr (.cons (t.e N sc a) .nil)
        | [a, b] => .itr (.cons (t.e N sc a) (.cons (t.e N sc b) .nil))
        | [a, b, c] => .itr (.cons (t.e N sc a) (.cons (t.e N sc b) (.cons (t.e N sc c) .nil)))
        | _ => .wall
      else if x = ("reversed" : Str) then match args with
        | [a] => .itb (t.e N sc a)
        | _ => .wall
      else if x = ("enumerate" : Str) then match tg, args with
        | .Tuple _ _ _, [a] => .ite (t.e N sc a)
        | _, _ => .wall
      else if x = ("zip" : Str) then match tg, args with
        | .Tuple _ _ _, [a, b] => .itz (t.e N sc a) (t.e N sc b)
        | _, _ => .wall
      else .itv (t.e N sc it))
    else .itv (t.e N sc it)
  | it => .itv (t.e N sc it)
def trG (t : Tr) (N : List Str) (sc : Scope) : Expr → E
  | .Name x _ => if isLoc sc x then (match idx N x with
      | some i => .tnm i
      | none => .wall) else .wall
  | .Tuple es _ _ => if es.all notStar then .ttp (t.gs N sc es) else .wall
  | .Subscript o i _ => if plainIx i then .tix (t.e N sc o) (t.e N sc i) else .wall
  | _ => .wall
def trGw (t : Tr) (N : List Str) (sc : Scope) (vs : List Nat) : Expr → E
  | .Name x _ => if isLoc sc x then (match idx N x with
      | some i => if vs.contains i then .tnm i else .wall
      | none => .wall) else .wall
  | .Tuple es _ _ => if es.all notStar then .ttp (t.gsw N sc vs es) else .wall
  | _ => .wall
def trAsg (t : Tr) (N : List Str) (sc : Scope) (tg v : Expr) (pos : Pos) : E := match tg with
  | .Name x px => if isLoc sc x then (match idx N x with
      | some i => (match v with
        | .ListComp elt [⟨ltg, iter, ifs, 0⟩] scope vpos => if lcShort sc x px scope vpos then (if isPlainLoc sc x then .asg (.tnm i) (trLc P (muP P vpos) t N sc elt ltg iter ifs scope) else .wall) else .asg (.tnm i) (t.e N sc v)
        | v => if noComp v then .asg (.tnm i) (t.e N sc v) else .wall)
      | none => .wall) else .wall
  | .Attribute o f _ => (match idx NM f with
      | some i => .asg (.tfl i (t.e N sc o)) (t.e N sc v)
      | none => .wall)
  | .Subscript o i _ => if plainIx i then .asg (.tix (t.e N sc o) (t.e N sc i)) (t.e N sc v) else .wall
  | .Tuple ts _ _ => (match v with
      | .Tuple vs _ _ => (match swapOf sc ts vs with
        | some none => if ts.all notStar then .asg (.ttp (t.gs N sc ts)) (t.e N sc v) else .wall
        | some (some names) => (match ts, vs with
          | [.Name x _, .Name y _], [a, b] => (match idx N x, idx N y with
            | some i, some j => if i ≠ j ∧ isPlainLoc sc x ∧ isPlainLoc sc y ∧ names = [x, y] ∧ notStar a ∧ notStar b then .asg (.ttp (.cons (.tnm i) (.cons (.tnm j) .nil))) (.tup (.cons (t.e N sc a) (.cons (t.e N sc b) .nil))) else .wall
            | _, _ => .wall)
          | [.Name x _, .Name y _, .Name z _], [a, b, c] => (match idx N x, idx N y, idx N z with
            | some i, some j, some l => if (i ≠ j ∧ i ≠ l ∧ j ≠ l) ∧ (isPlainLoc sc x ∧ isPlainLoc sc y ∧ isPlainLoc sc z) ∧ names = [x, y, z] ∧ notStar a ∧ notStar b ∧ notStar c then .asg (.ttp (.cons (.tnm i) (.cons (.tnm j) (.cons (.tnm l) .nil)))) (.tup (.cons (t.e N sc a) (.cons (t.e N sc b) (.cons (t.e N sc c) .nil)))) else .wall
            | _, _, _ => .wall)
          | _, _ => .wall)
        | none => .wall)
      | v => if ts.all notStar then .asg (.ttp (t.gs N sc ts)) (t.e N sc v) else .wall)
  | _ => .wall
def trS (t : Tr) (N : List Str) (sc : Scope) : Stmt → E
  | .Pass _ => .skip
  | .Break _ => .brk
  | .Continue _ => .cnt
  | .Expr (.Constant (.str _) _ _) _ => .skip
  | .Expr e _ => if noComp e then .ex (t.e N sc e) else .wall
  | .Raise (some (.Call (.Name x _) es [] _)) none _ => if isGlb sc x && !badNm x then (match idx NM x with
      | some g => (match P.err g with
        | some i => if errArgs i es then .rse g (t.es N sc es) else .wall
        | none => .wall)
      | none => .wall) else .wall
  | .Return (some e) _ => .ret (t.e N sc e)
  | .Return none _ => .ret .non
  | .If c a b _ => .iff (t.e N sc c) (t.ss N sc a) (t.ss N sc b)
  | .While c b [] _ => .whl (t.e N sc c) (t.ss N sc b)
  | .For tg it b [] _ => if noSet it then .for (t.g N sc tg) (t.i N sc tg it) (t.ss N sc b) else .wall
  | .Assign [tg] v pos => trAsg P NM t N sc tg v pos
  | .AugAssign (.Name x _) op v _ => (match opT false op with
    | some o => if isLoc sc x then (match idx N x with
      | some i => .augn o i (t.e N sc v)
      | none => .wall) else .wall
    | none => .wall)
  | .AugAssign (.Subscript o i _) op v _ => (match opT false op with
    | some b => if plainIx i then .augx b (t.e N sc o) (t.e N sc i) (t.e N sc v) else .wall
    | none => .wall)
  | _ => .wall
def tr : Nat → Tr
  | 0 => ⟨fun _ _ _ => .wall, fun _ _ es => (match es with
      | [] => .nil
      | _ => .wall), fun _ _ es => (match es with
      | [] => .nil
      | _ => .wall), fun _ _ _ _ => .wall, fun _ _ _ => .wall, fun _ _ _ => .wall, fun _ _ _ _ => .wall, fun _ _ _ _ => .wall, fun _ _ _ => .wall, fun _ _ _ => .wall⟩
  | n + 1 =>
    { e := trE P NM (tr n)
      es := fun N sc es => match es with
        | [] => .nil
        | .Starred e _ :: r => .star ((tr n).e N sc e) ((tr n).es N sc r)
        | e :: r => .cons ((tr n).e N sc e) ((tr n).es N sc r)
      ks := fun N sc ks => match ks with
        | [] => .nil
        | ⟨_, e, _⟩ :: r => .cons ((tr n).e N sc e) ((tr n).ks N sc r)
      i := trI (tr n)
      g := trG (tr n)
      gs := fun N sc es => match es with
        | [] => .nil
        | e :: r => .cons ((tr n).g N sc e) ((tr n).gs N sc r)
      gw := trGw (tr n)
      gsw := fun N sc vs es => match es with
        | [] => .nil
        | e :: r => .cons ((tr n).gw N sc vs e) ((tr n).gsw N sc vs r)
      s := trS P NM (tr n)
      ss := fun N sc es => match es with
        | [] => .skip
        | e :: r => .seq ((tr n).s N sc e) ((tr n).ss N sc r) }
end
end PM

set_option Elab.async false
set_option linter.all false
set_option autoImplicit false
set_option maxHeartbeats 2000000
/-! # PM21: the translator's soundness -/
namespace PM
open PySem PySem.Spec PyProof.Rows
open L2 hiding St
theorem idxA_ok {x : Str} : ∀ {l : List Str} {n i : Nat}, idxA x n l = some i → n ≤ i ∧ l[i - n]? = some x
  | [], _, _, h => by cases h
  | y :: r, n, i, h => by
    unfold idxA at h
    split at h
    · rename_i e
      cases h
      refine ⟨Nat.le_refl _, ?_⟩
      rw [Nat.sub_self, e]; rfl
    · obtain ⟨h1, h2⟩ := idxA_ok h
      refine ⟨by omega, ?_⟩
      have : i - n = (i - (n + 1)) + 1 := by omega
      rw [this]
      simpa using h2
theorem idx_ok {l : List Str} {x : Str} {i : Nat} (h : idx l x = some i) : l[i]? = some x := by
  have := (idxA_ok h).2
  simpa using this
theorem idx_nm {NM : List Str} {x : Str} {i : Nat} (h : idx NM x = some i) : x = nm NM i ∧ i < NM.length := by
  have h1 := idx_ok h
  refine ⟨?_, (List.getElem?_eq_some_iff.mp h1).1⟩
  unfold nm
  rw [List.getD_eq_getElem?_getD, h1]
  rfl
section
variable {X : Cx} {NM : List Str} {W : WX} {P : PM.Prog} {G : Gam} {adr : Nat → Nat → Addr} {k : Nat} {N : List Str} {sc : Scope}
theorem glb_ok {x : Str} (hs : X.env.scope = sc) (h : isGlb sc x = true) : Gl X x := by
  unfold isGlb lk at h
  show X.env.scope.names.lookup x = _
  rw [hs]
  split at h
  · assumption
  · cases h
theorem vis_ok {x : Str} (hs : X.env.scope = sc) (h : isVis sc x = true) : Vis X.env.scope x := by
  unfold isVis lk at h
  unfold Vis
  rw [hs]
  split at h
  · exact .inl (by assumption)
  · exact .inr (.inl (by assumption))
  · exact .inr (.inr (by assumption))
  · cases h
theorem loc_ok {x : Str} (h : isLoc sc x = true) : L2.Loc sc x := by
  unfold isLoc lk at h
  unfold L2.Loc
  split at h
  · exact .inl (by assumption)
  · exact .inr (by assumption)
  · cases h
theorem plainLoc_ok {x : Str} (h : isPlainLoc sc x = true) : sc.names.lookup x = some .local := by
  unfold isPlainLoc lk at h
  split at h
  · assumption
  · cases h
theorem badNm_ok {x : Str} (h : ¬ badNm x = true) : (x == ("__debug__" : Str)) = false ∧ (x == ("__classdict__" : Str)) = false := by
  unfold badNm at h
  rw [Bool.or_eq_true, not_or] at h
  exact ⟨by simpa using h.1, by simpa using h.2⟩
theorem kwIx_ok : ∀ {ns : List Str} {is : List Nat}, kwIx NM ns = some is → ns = is.map (nm NM) ∧ ∀ i ∈ is, i < NM.length
  | [], is, h => by cases h; exact ⟨rfl, fun i hi => by cases hi⟩
  | x :: r, is, h => by
    unfold kwIx at h
    split at h
    · rename_i i js h1 h2
      cases h
      obtain ⟨e1, e2⟩ := idx_nm h1
      obtain ⟨e3, e4⟩ := kwIx_ok h2
      refine ⟨by rw [List.map_cons, ← e1, ← e3], fun j hj => ?_⟩
      rcases List.mem_cons.mp hj with rfl | hj
      · exact e2
      · exact e4 j hj
    · cases h
theorem kwIds_ok {kws : List Keyword} {is : List Nat} (h : kwIds NM kws = some is) : kwN kws = some (is.map (nm NM)) ∧ ∀ i ∈ is, i < NM.length := by
  unfold kwIds at h
  split at h
  · rename_i ns e
    obtain ⟨h1, h2⟩ := kwIx_ok h
    exact ⟨by rw [e, h1], h2⟩
  · cases h
/-- an expression whose test is its value's -/
theorem both {e : Expr} {E : PM.E} (F : Fc X NM W P G adr k) (he : SE X NM W e (den P G E).e) (hE : (den P G E).t = fun σ H => ((den P G E).e σ H).bind fun v H1 => truth P G v H1) (hp : ∀ whole, isTrue e X.env whole = (do let v ← whole; standAt e.pos; holding [v] (truthy v))) :
    SE X NM W e (den P G E).e ∧ ST X NM W e (den P G E).t := ⟨he, by rw [hE]; exact st_plain (tru_all F) he hp⟩
theorem wall_both {e : Expr} : SE X NM W e (den P G .wall).e ∧ ST X NM W e (den P G .wall).t := ⟨se_bad fun _ _ => rfl, st_bad fun _ _ => rfl⟩
end
/-- what holds of a translator -/
structure TrOk (P : PM.Prog) (NM : List Str) (t : Tr) : Prop where
  e : ∀ (X : Cx) (W : WX) (G : Gam) (adr : Nat → Nat → Addr) (k : Nat) (N : List Str) (sc : Scope), Fc X NM W P G adr k → X.env.scope = sc → X.N = N → ∀ e, SE X NM W e (den P G (t.e N sc e)).e ∧ ST X NM W e (den P G (t.e N sc e)).t
  es : ∀ (X : Cx) (W : WX) (G : Gam) (adr : Nat → Nat → Addr) (k : Nat) (N : List Str) (sc : Scope), Fc X NM W P G adr k → X.env.scope = sc → X.N = N → ∀ es, SA X NM W es (den P G (t.es N sc es)).es ∧
    (∀ pos, PW X (.BoolOp .And es pos) (tR X.K NM rB W (den P G (t.es N sc es)).ta)) ∧ (∀ pos, PW X (.BoolOp .Or es pos) (tR X.K NM rB W (den P G (t.es N sc es)).to)) ∧
    (∀ pos, SE X NM W (.BoolOp .And es pos) (den P G (t.es N sc es)).an) ∧ (∀ pos, SE X NM W (.BoolOp .Or es pos) (den P G (t.es N sc es)).orr) ∧ SJ X NM W es (den P G (t.es N sc es)).fs
  esN : ∀ (G : Gam) (N : List Str) (sc : Scope) (es : List Expr), es ≠ [] → (den P G (t.es N sc es)).nil = false
  es0 : ∀ (N : List Str) (sc : Scope), t.es N sc [] = .nil
  ks0 : ∀ (N : List Str) (sc : Scope), t.ks N sc [] = .nil
  esS : ∀ (N : List Str) (sc : Scope) (e : Expr) (p : Pos), t.es N sc [.Starred e p] = .wall ∨ ∃ a, t.es N sc [.Starred e p] = .star a .nil ∧ ∀ (X : Cx) (W : WX) (G : Gam) (adr : Nat → Nat → Addr) (k : Nat), Fc X NM W P G adr k → X.env.scope = sc → X.N = N → SE X NM W e (den P G a).e
  ks : ∀ (X : Cx) (W : WX) (G : Gam) (adr : Nat → Nat → Addr) (k : Nat) (N : List Str) (sc : Scope), Fc X NM W P G adr k → X.env.scope = sc → X.N = N → ∀ ks, SK X NM W ks (den P G (t.ks N sc ks)).es
  i : ∀ (X : Cx) (W : WX) (G : Gam) (adr : Nat → Nat → Addr) (k : Nat) (N : List Str) (sc : Scope), Fc X NM W P G adr k → X.env.scope = sc → X.N = N → ∀ tg e, SI X NM W tg e (den P G (t.i N sc tg e)).i
  gw : ∀ (X : Cx) (G : Gam) (adr : Nat → Nat → Addr) (k : Nat) (N : List Str) (scope : Scope) (vs : List Nat), Fc X NM noW P G adr k → (∀ x, isLoc scope x = true → L2.Loc X.env.scope x ∧ (X.fn x = true ∨ X.env.scope.names.lookup x = some .local)) → X.N = N → ∀ e, SGw X NM vs e (den P G (t.gw N scope vs e)).g
  gsw : ∀ (X : Cx) (G : Gam) (adr : Nat → Nat → Addr) (k : Nat) (N : List Str) (scope : Scope) (vs : List Nat), Fc X NM noW P G adr k → (∀ x, isLoc scope x = true → L2.Loc X.env.scope x ∧ (X.fn x = true ∨ X.env.scope.names.lookup x = some .local)) → X.N = N → ∀ es, es.all notStar = true → SGsw X NM vs es (den P G (t.gsw N scope vs es)).gs
  gswL : ∀ (G : Gam) (N : List Str) (scope : Scope) (vs : List Nat) (es : List Expr) (xs : List LV) (l : LS) (L : LH), xs.length ≠ es.length → (den P G (t.gsw N scope vs es)).gs xs l L = .bad
  g : ∀ (X : Cx) (W : WX) (G : Gam) (adr : Nat → Nat → Addr) (k : Nat) (N : List Str) (sc : Scope), Fc X NM W P G adr k → X.env.scope = sc → X.N = N → (∀ x, X.fn x = true) → ∀ e, SG X NM W e (den P G (t.g N sc e)).g
  gs : ∀ (X : Cx) (W : WX) (G : Gam) (adr : Nat → Nat → Addr) (k : Nat) (N : List Str) (sc : Scope), Fc X NM W P G adr k → X.env.scope = sc → X.N = N → (∀ x, X.fn x = true) → ∀ es, es.all notStar = true → SGs X NM W es (den P G (t.gs N sc es)).gs
  gsL : ∀ (G : Gam) (N : List Str) (sc : Scope) (es : List Expr) (xs : List LV) (l : LS) (L : LH), xs.length ≠ es.length → (den P G (t.gs N sc es)).gs xs l L = .bad
  s : ∀ (X : Cx) (W : WX) (G : Gam) (adr : Nat → Nat → Addr) (k : Nat) (N : List Str) (sc : Scope), Fc X NM W P G adr k → X.env.scope = sc → X.N = N → (∀ x, X.fn x = true) → ∀ st, SS X NM W st (den P G (t.s N sc st)).s
  ss : ∀ (X : Cx) (W : WX) (G : Gam) (adr : Nat → Nat → Addr) (k : Nat) (N : List Str) (sc : Scope), Fc X NM W P G adr k → X.env.scope = sc → X.N = N → (∀ x, X.fn x = true) → ∀ st, SSs X NM W st (den P G (t.ss N sc st)).s
theorem sj_bad {X : Cx} {NM : List Str} {W : WX} {es : List Expr} {dn : List Nat → LS → LH → R (List Nat)} (h : es ≠ []) (hd : ∀ a l L, dn a l L = .bad) : SJ X NM W es dn := by
  have mk : ∀ es : List Expr, ∃ ts, PJ X es ts ∧ ts.length = es.length := by
    intro es
    induction es with
    | nil => exact ⟨[], .nil, rfl⟩
    | cons e es ih =>
      obtain ⟨ts, h1, h2⟩ := ih
      exact ⟨(fun _ _ _ => False) :: ts, .cons ⟨fun _ _ _ _ _ _ h => h.elim⟩ h1, by simp [h2]⟩
  obtain ⟨ts, h1, _⟩ := mk es
  exact ⟨ts, h1, fun acc σ H Q h => (tR_bad (hd acc) h).elim⟩
theorem tr0_ok (P : PM.Prog) (NM : List Str) : TrOk P NM (tr P NM 0) where
  e := fun _ _ _ _ _ _ _ _ _ _ _ => wall_both
  es := fun X W G adr k N sc F hs hN es => by
    cases es with
    | nil => exact ⟨sa_nil, fun pos => sw_and_nil, fun pos => sw_or_nil, fun pos => se_bad fun _ _ => rfl, fun pos => se_bad fun _ _ => rfl, sj_nil⟩
    | cons e es => exact ⟨sa_bad fun _ _ => rfl, fun pos => sw_bad fun _ _ => rfl, fun pos => sw_bad fun _ _ => rfl, fun pos => se_bad fun _ _ => rfl, fun pos => se_bad fun _ _ => rfl, sj_bad (by simp) fun _ _ _ => rfl⟩
  esN := fun G N sc es h => by
    cases es with
    | nil => exact absurd rfl h
    | cons e es => rfl
  es0 := fun _ _ => rfl
  ks0 := fun _ _ => rfl
  esS := fun _ _ _ _ => .inl rfl
  ks := fun X W G adr k N sc F hs hN ks => by
    cases ks with
    | nil => exact sk_nil
    | cons e es => exact sk_bad fun _ _ => rfl
  i := fun _ _ _ _ _ _ _ _ _ _ _ _ => si_bad fun _ _ => rfl
  gw := fun _ _ _ _ _ _ _ _ _ _ _ => sgw_bad fun _ _ _ => rfl
  gsw := fun _ _ _ _ _ _ _ _ _ _ _ _ => sgsw_bad fun _ _ _ => rfl
  gswL := fun _ _ _ _ _ _ _ _ _ => rfl
  g := fun _ _ _ _ _ _ _ _ _ _ _ _ => sg_bad fun _ _ _ => rfl
  gs := fun _ _ _ _ _ _ _ _ _ _ _ _ _ => sgs_bad fun _ _ _ => rfl
  gsL := fun _ _ _ _ _ _ _ _ => rfl
  s := fun _ _ _ _ _ _ _ _ _ _ _ _ => ss_bad fun _ _ => rfl
  ss := fun _ _ _ _ _ _ _ _ _ _ _ _ => sss_bad fun _ _ => rfl
end PM

set_option Elab.async false
set_option linter.all false
set_option autoImplicit false
set_option maxHeartbeats 1000000
/-! # PMx: max(.., default=..) -/
namespace PM
open PySem PySem.Spec PyProof.Rows
open L2 hiding St
section
variable {X : Cx} {NM : List Str} {W : WX} {P : PM.Prog} {G : Gam} {adr : Nat → Nat → Addr} {k : Nat}
theorem max_fold : ∀ (ns : List Int) (n : Int), PySem.W.maxOf n ns = ns.foldl (fun a y => if decide (a < y) = true then y else a) n := fun ns n => rfl
theorem se_mxd (F : Fc X NM W P G adr k) {e d : Expr} {ea ed : E} {p kp pos : Pos} (hv : bootBuiltins "max" = some (.builtin "max")) (hg : Gl X "max") (hs : notStar e = true) (he : SE X NM W e (den P G ea).e) (hd : SE X NM W d (den P G ed).e) :
    SE X NM W (.Call (.Name "max" p) [e] [⟨some "default", d, kp⟩] pos) (den P G (.mxd ea ed)).e := by
  refine ⟨fun pins s σ H Q I h => ?_⟩
  obtain ⟨f, l, L, hR, hS, h⟩ := h
  refine wpAny_Call_Name_kw (ld_blt I hg (F.mgn "max" (by simp [bltNames])) hv ?_ (by decide) (by decide))
  have hp : PA X [e] _ := pa_cons he pa_nil (star_head hs)
  have hk : PK X [⟨some "default", d, kp⟩] _ := pk_cons hd pk_nil
  refine PyProof.Rows.callWith_kw (thn (hp.run pos pins s σ H (fun vs H1 => ∃ v, vs = [v] ∧ ∃ f l L x, RelH X.K NM f L H1 ∧ SR X.K NM f H1 l σ ∧ VR X.K NM f H1 x v ∧ Aft X.K NM f H1 (((den P G ed).e l L).bind fun y H2 => maxD x y H2) (fun c f' H' => ∀ z, VR X.K NM f' H' c z → Q z H') (Wx X.K NM W σ)) I
    (tR_bind hR hS h fun x L1 f1 H1 v e1 r1 s1 rv h1 => ⟨v, rfl, f1, l, L1, x, r1, s1, rv, h1⟩)) fun us s1 ⟨vs, H1, I1, r1, q1⟩ => ?_) (by rw [star_head hs]; rfl) (plain_all (by rw [List.all_cons, hs]; rfl))
  obtain ⟨v, rfl, f1, l1, L1, x, R1, S1, rv, h1⟩ := q1
  obtain ⟨u, rfl, ru⟩ := r1.one
  refine thn (hk.run pos pins s1 σ H1 (fun ws H2 => ∃ w, ws = [w] ∧ ∃ f l L x y, RelH X.K NM f L H2 ∧ VR X.K NM f H2 x v ∧ VR X.K NM f H2 y w ∧ Aft X.K NM f H2 (maxD x y L) (fun c f' H' => ∀ z, VR X.K NM f' H' c z → Q z H') (Wx X.K NM W σ)) I1
    (tR_bind R1 S1 h1 fun y L2 f2 H2 w e2 r2 s2 rw' h2 => ⟨w, rfl, f2, l1, L2, x, y, r2, VR.mono e2.mo _ _ rv, rw', h2⟩)) fun ks s2 ⟨ws, H2, I2, r2, q2⟩ => ?_
  obtain ⟨w, rfl, f2, l2, L2, x, y, R2, rx, ry, h2⟩ := q2
  obtain ⟨kv, rfl, rk⟩ := r2.one
  unfold maxD at h2
  split at h2
  · rename_i ns d0 hn
    obtain ⟨p, ys, vs, rfl, q1, q2, q3⟩ := via_list R2 rx hn
    obtain rfl := ints_ok q3 q2
    obtain rfl : w = .int d0 := ry
    obtain ⟨t, rfl⟩ := rk
    cases ru
    obtain ⟨its, rvs, pl, hz⟩ := I2.list q1
    have hi := rvs.ints
    refine PySem.W.max_list_datum_default (α := Int) (xs := ns) (I2.ok.hd F.calm) pl.isList (PySem.W.HoldAll.of_ints hi) (by have := F.room.units; show X.A.units + 1 + 0 < cLine; omega) (fun e h' tk hk => ?_) (fun y ys' i v h' tk e hi2 hh hk => ?_)
    · subst e
      exact ⟨.int d0, H2, I2.kept hk, ⟨_, rfl⟩, Aft.here h2 R2 _ rfl⟩
    · subst e
      obtain ⟨t', rfl⟩ := PySem.W.int_of_holds hh
      exact ⟨.int _, H2, I2.kept hk, ⟨_, rfl⟩, Aft.here h2 R2 _ rfl⟩
  · exact h2.elim
end
end PM

set_option Elab.async false
set_option linter.all false
set_option autoImplicit false
set_option maxHeartbeats 2000000
/-! # PM22: the translator's soundness, expressions -/
namespace PM
open PySem PySem.Spec PyProof.Rows
open L2 hiding St
theorem bo_len : bootBuiltins "len" = some (.builtin "len") := by decide +kernel
theorem bo_int : bootBuiltins "int" = some (.type "int") := by decide +kernel
theorem bo_bool : bootBuiltins "bool" = some (.type "bool") := by decide +kernel
theorem bo_str : bootBuiltins "str" = some (.type "str") := by decide +kernel
theorem bo_repr : bootBuiltins "repr" = some (.builtin "repr") := by decide +kernel
theorem bo_abs : bootBuiltins "abs" = some (.builtin "abs") := by decide +kernel
theorem bo_sum : bootBuiltins "sum" = some (.builtin "sum") := by decide +kernel
theorem bo_max : bootBuiltins "max" = some (.builtin "max") := by decide +kernel
theorem bo_min : bootBuiltins "min" = some (.builtin "min") := by decide +kernel
theorem bo_list : bootBuiltins "list" = some (.type "list") := by decide +kernel
theorem bo_tuple : bootBuiltins "tuple" = some (.type "tuple") := by decide +kernel
theorem bo_dict : bootBuiltins "dict" = some (.type "dict") := by decide +kernel
theorem bo_all : bootBuiltins "all" = some (.builtin "all") := by decide +kernel
theorem bo_any : bootBuiltins "any" = some (.builtin "any") := by decide +kernel
theorem mgn_at {X : Cx} {NM : List Str} {W : WX} {P : PM.Prog} {G : Gam} {adr : Nat → Nat → Addr} {k : Nat} (F : Fc X NM W P G adr k) (i : Nat) {x : Str} (h : bltNames[i]? = some x) : X.mg x = none := F.mgn x (List.mem_of_getElem? h)
section
variable {X : Cx} {NM : List Str} {W : WX} {P : PM.Prog} {G : Gam} {adr : Nat → Nat → Addr} {k : Nat} {N : List Str} {sc : Scope} {t : Tr}
theorem trCmp_ok (T : TrOk P NM t) (F : Fc X NM W P G adr k) (hs : X.env.scope = sc) (hN : X.N = N) (a : Expr) (op : CmpOp) (b : Expr) (pos : Pos) : SE X NM W (.Compare a [op] [b] pos) (den P G (trCmp t N sc a op b)).e ∧ ST X NM W (.Compare a [op] [b] pos) (den P G (trCmp t N sc a op b)).t := by
  have ha := (T.e X W G adr k N sc F hs hN a).1
  have hb := (T.e X W G adr k N sc F hs hN b).1
  unfold trCmp
  split
  · exact ⟨se_isN ha, st_isN ha⟩
  · exact ⟨se_notN ha, st_notN ha⟩
  · split
    · rename_i o ho
      split
      · exact wall_both
      · rename_i hm
        have hm : behindInMarks op b = false := by simpa using hm
        exact ⟨se_cmp (cmp_all F ho) ha hb hm, st_cmp (tru_all F) (cmp_all F ho) ha hb hm⟩
    · exact wall_both
theorem plainCall {f : Expr} {args : List Expr} {kws : List Keyword} {pos : Pos} : ∀ whole, isTrue (.Call f args kws pos) X.env whole = (do let v ← whole; standAt (Expr.Call f args kws pos).pos; holding [v] (truthy v)) := fun _ => rfl
theorem tyExp_ok (F : Fc X NM W P G adr k) (hs : X.env.scope = sc) {e : Expr} {ty : Ty} (h : tyExp P NM sc e = some ty) : CN X NM e ty ∧ notStar e = true := by
  unfold tyExp at h
  split at h
  · rename_i x p
    refine ⟨?_, rfl⟩
    split at h
    · rename_i hc
      rw [Bool.and_eq_true] at hc
      have hg := glb_ok hs hc.1
      have hd := badNm_ok (x := x) (by simpa using hc.2)
      unfold tyName at h
      split at h
      · rename_i e; subst e; cases h
        exact pe_bltn hg (mgn_at F 1 rfl) bo_int rfl (by decide) (by decide)
      · split at h
        · rename_i e; subst e; cases h
          exact pe_bltn hg (mgn_at F 2 rfl) bo_bool rfl (by decide) (by decide)
        · split at h
          · rename_i e; subst e; cases h
            exact pe_bltn hg (mgn_at F 3 rfl) bo_str rfl (by decide) (by decide)
          · split at h
            · rename_i e; subst e; cases h
              exact pe_bltn hg (mgn_at F 9 rfl) bo_list rfl (by decide) (by decide)
            · split at h
              · rename_i e; subst e; cases h
                exact pe_bltn hg (mgn_at F 10 rfl) bo_tuple rfl (by decide) (by decide)
              · split at h
                · rename_i e; subst e; cases h
                  exact pe_bltn hg (mgn_at F 11 rfl) bo_dict rfl (by decide) (by decide)
                · split at h
                  · rename_i g hi
                    split at h
                    · rename_i hcg
                      rw [Bool.and_eq_true] at hcg
                      cases h
                      obtain ⟨e1, e2⟩ := idx_nm hi
                      subst e1
                      exact pe_glob hg (F.mgs g hcg.2) rfl hd.1
                    · cases h
                  · cases h
    · cases h
  · cases h
theorem tyExps_ok (F : Fc X NM W P G adr k) (hs : X.env.scope = sc) : ∀ {es : List Expr} {ts : List Ty}, tyExps P NM sc es = some ts → CNs X NM es ts
  | [], ts, h => by cases h; trivial
  | e :: es, ts, h => by
    unfold tyExps at h
    split at h
    · rename_i ty tys h1 h2
      cases h
      obtain ⟨q1, q2⟩ := tyExp_ok F hs h1
      exact ⟨q2, q1, tyExps_ok F hs h2⟩
    · cases h
theorem blt_ok (F : Fc X NM W P G adr k) {x : Str} {b : Bl} {e : Expr} {es : List Expr} {ea : E} {p pos : Pos} (hg : Gl X x) (h : bltOf x (e :: es).length = some b) (hns : (e :: es).all notStar = true) (ha : SA X NM W (e :: es) (den P G ea).es) : SE X NM W (.Call (.Name x p) (e :: es) [] pos) (den P G (.blt b ea)).e := by
  unfold bltOf at h
  split at h
  · split at h
    · rename_i e1; subst e1; cases h; exact se_bltB (cal_len F) hg (mgn_at F 0 rfl) bo_len (by decide) (by decide) hns ha
    · split at h
      · rename_i e1; subst e1; cases h; exact se_bltT cal_int hg (mgn_at F 1 rfl) bo_int (by decide) (by decide) hns ha
      · split at h
        · rename_i e1; subst e1; cases h; exact se_bltT (cal_bool F) hg (mgn_at F 2 rfl) bo_bool (by decide) (by decide) hns ha
        · split at h
          · rename_i e1; subst e1; cases h; exact se_bltT (cal_str F) hg (mgn_at F 3 rfl) bo_str (by decide) (by decide) hns ha
          · split at h
            · rename_i e1; subst e1; cases h; exact se_bltB (cal_repr F) hg (mgn_at F 4 rfl) bo_repr (by decide) (by decide) hns ha
            · split at h
              · rename_i e1; subst e1; cases h; exact se_bltB cal_abs hg (mgn_at F 5 rfl) bo_abs (by decide) (by decide) hns ha
              · split at h
                · rename_i e1; subst e1; cases h; exact se_bltB (cal_sum F.calm) hg (mgn_at F 6 rfl) bo_sum (by decide) (by decide) hns ha
                · split at h
                  · rename_i e1; subst e1; cases h; exact se_bltT cal_list hg (mgn_at F 9 rfl) bo_list (by decide) (by decide) hns ha
                  · split at h
                    · rename_i e1; subst e1; cases h; exact se_bltT cal_tuple hg (mgn_at F 10 rfl) bo_tuple (by decide) (by decide) hns ha
                    · split at h
                      · rename_i e1; subst e1; cases h; exact se_bltB (cal_all F.calm) hg (mgn_at F 13 rfl) bo_all (by decide) (by decide) hns ha
                      · split at h
                        · rename_i e1; subst e1; cases h; exact se_bltB (cal_any F.calm) hg (mgn_at F 14 rfl) bo_any (by decide) (by decide) hns ha
                        · cases h
  · split at h
    · rename_i e1; subst e1; cases h; exact se_bltB (cal_max2 F.calm) hg (mgn_at F 7 rfl) bo_max (by decide) (by decide) hns ha
    · split at h
      · rename_i e1; subst e1; cases h; exact se_bltB (cal_min2 F.calm) hg (mgn_at F 8 rfl) bo_min (by decide) (by decide) hns ha
      · cases h
  · cases h
/-- list(..): one that will be changed -/
theorem bltM_ok (F : Fc X NM W P G adr k) {m : Bool} {x : Str} {b : Bl} {e : Expr} {es : List Expr} {ea : E} {p pos : Pos} (hg : Gl X x) (h : bltOf x (e :: es).length = some b) (hns : (e :: es).all notStar = true) (ha : SA X NM W (e :: es) (den P G ea).es) : SE X NM W (.Call (.Name x p) (e :: es) [] pos) (den P G (.blt (if m && decide (b = .list) then .listM else b) ea)).e := by
  by_cases hm : (m && decide (b = .list)) = true
  · rw [if_pos hm]
    rw [Bool.and_eq_true, decide_eq_true_iff] at hm
    obtain ⟨_, rfl⟩ := hm
    have hx : x = ("list" : Str) := by
      unfold bltOf at h
      split at h
      · repeat' split at h
        all_goals first | assumption | cases h
      · repeat' split at h
        all_goals cases h
      · cases h
    subst hx
    exact se_bltT cal_listM hg (mgn_at F 9 rfl) bo_list (by decide) (by decide) hns ha
  · rw [if_neg hm]
    exact blt_ok F hg h hns ha
/-- the star's premise; where the star is too deep nothing is served -/
theorem star_prem (T : TrOk P NM t) (F : Fc X NM W P G adr k) (hs : X.env.scope = sc) (hN : X.N = N) (args : List Expr) : t.es N sc args = .wall ∨ ∀ e p, args = [.Starred e p] → ∃ a, t.es N sc args = .star a .nil ∧ SE X NM W e (den P G a).e := by
  by_cases h : ∃ e p, args = [.Starred e p]
  · obtain ⟨e, p, rfl⟩ := h
    rcases T.esS N sc e p with h | ⟨a, h1, h2⟩
    · exact .inl h
    · refine .inr fun e' p' he => ⟨a, h1, ?_⟩
      have he := congrArg (fun l : List Expr => l.head?) he
      simp only [List.head?_cons, Option.some.injEq, Expr.Starred.injEq] at he
      rw [← he.1]
      exact h2 X W G adr k F hs hN
  · exact .inr fun e p he => absurd ⟨e, p, he⟩ h
theorem trWhy_ok (T : TrOk P NM t) (F : Fc X NM W P G adr k) (hs : X.env.scope = sc) (hN : X.N = N) {g : Nat} {p : Pos} {args : List Expr} {kws : List Keyword} {pos : Pos} (hw : P.why = some g) (hg : Gl X (nm NM g)) : SE X NM W (.Call (.Name (nm NM g) p) args kws pos) (den P G (trWhy P t N sc args kws)).e ∧ ST X NM W (.Call (.Name (nm NM g) p) args kws pos) (den P G (trWhy P t N sc args kws)).t := by
  unfold trWhy
  split
  · rename_i params body scope lpos
    split
    · rename_i hc
      unfold whyOk at hc
      simp only [Bool.and_eq_true, List.any_eq_true, List.all_eq_true, decide_eq_true_eq, Bool.not_eq_true', decide_eq_false_iff_not] at hc
      obtain ⟨⟨⟨h1, h2⟩, h3⟩, h4⟩ := hc
      have hp : params = ⟨[], [], none, [], [], none, []⟩ := by
        obtain ⟨a1, a2, a3, a4, a5, a6, a7⟩ := params
        unfold noParams at h1
        simp only [Bool.and_eq_true, List.isEmpty_iff, Option.isNone_iff_eq_none] at h1
        obtain ⟨⟨⟨⟨⟨⟨rfl, rfl⟩, rfl⟩, rfl⟩, rfl⟩, rfl⟩, rfl⟩ := h1
        rfl
      subst hp
      exact both F (se_why F hw hg (by rw [hs]; exact h3) (by rw [hs]; exact LamX.lamS_by h2) rfl (fun _ _ _ _ _ => rfl) h4 fun Y W' FY hY hYN => (T.e Y W' G adr k N scope FY hY (hYN.trans hN) body).1) rfl plainCall
    · exact wall_both
  · exact wall_both
theorem mxdOf_ok {x : Str} {args : List Expr} {kws : List Keyword} {e d : Expr} (h : mxdOf x args kws = some (e, d)) : ∃ kp, x = ("max" : Str) ∧ args = [e] ∧ kws = [⟨some "default", d, kp⟩] ∧ notStar e = true := by
  unfold mxdOf at h
  split at h
  · split at h
    · rename_i hc
      obtain ⟨h1, h2, h3⟩ := hc
      cases h
      exact ⟨_, h1, rfl, by rw [h2], h3⟩
    · cases h
  · cases h
theorem trCallN_ok (T : TrOk P NM t) (F : Fc X NM W P G adr k) (hs : X.env.scope = sc) (hN : X.N = N) (x : Str) (p : Pos) (args : List Expr) (kws : List Keyword) (pos : Pos) : SE X NM W (.Call (.Name x p) args kws pos) (den P G (trCallN P NM t N sc x args kws pos)).e ∧ ST X NM W (.Call (.Name x p) args kws pos) (den P G (trCallN P NM t N sc x args kws pos)).t := by
  have hes := (T.es X W G adr k N sc F hs hN args).1
  have hks := T.ks X W G adr k N sc F hs hN kws
  have sp := star_prem T F hs hN args
  unfold trCallN
  split
  · exact wall_both
  · rename_i hg
    rw [Bool.or_eq_true, not_or] at hg
    have hgl := glb_ok (X := X) hs (x := x) (by simpa using hg.1)
    have hd := badNm_ok hg.2
    split
    · rename_i g hi
      obtain ⟨e1, e2⟩ := idx_nm hi
      subst e1
      split
      · rename_i hw
        exact trWhy_ok T F hs hN hw hgl
      split
      · rename_i hc
        rw [Bool.and_eq_true, Bool.or_eq_true] at hc
        split
        · rename_i ks sh hk hsh
          obtain ⟨k1, k2⟩ := kwIds_ok hk
          rcases sp with hw | hst
          · refine ⟨se_bad fun l L => ?_, st_bad fun l L => ?_⟩
            · rw [hw]; rfl
            · rw [hw]; rfl
          · refine both F (se_call F hes hks k1 k2 hsh (fun e => by rw [e]; exact T.es0 N sc) (fun e => by rw [e]; exact T.ks0 N sc) hst hgl hd.1 hc.1 ?_) rfl plainCall
            by_cases q : P.isCls g = true
            · exact .inl q
            · refine .inr ?_
              obtain ⟨f, hf⟩ := Option.isSome_iff_exists.mp (hc.2.resolve_left q)
              exact ⟨f, by simpa using q, hf⟩
        · exact wall_both
      · exact wall_both
    · split
      · rename_i e d hm
        obtain ⟨kp, e1, e2, e3, e4⟩ := mxdOf_ok hm
        subst e1 e2 e3
        exact both F (se_mxd F bo_max hgl e4 (T.e X W G adr k N sc F hs hN e).1 (T.e X W G adr k N sc F hs hN d).1) rfl plainCall
      rename_i hnone
      clear hnone
      split
      · rename_i hc
        rw [Bool.and_eq_true] at hc
        have hk0 : kws = [] := by simpa using hc.1
        subst hk0
        split
        · rename_i e1
          subst e1
          split
          · rename_i e cs kk tp
            split
            · rename_i ts hts
              split
              · rename_i hl
                rw [Bool.and_eq_true, Bool.and_eq_true, decide_eq_true_iff] at hl
                have hn : notStar e = true := by
                  have := hc.2
                  rw [List.all_cons, Bool.and_eq_true] at this
                  exact this.1
                exact both F (se_isiT F hgl (tyExps_ok F hs hts) hl.1.1 (by intro z; subst z; have := hl.1.2; simp at this) hn (T.e X W G adr k N sc F hs hN e).1) rfl plainCall
              · exact wall_both
            · exact wall_both
          · rename_i e c hno
            split
            · rename_i ty hty
              have hn : notStar e = true := by
                have := hc.2
                rw [List.all_cons, Bool.and_eq_true] at this
                exact this.1
              obtain ⟨q1, q2⟩ := tyExp_ok F hs hty
              exact both F (se_isi F hgl q1 hn q2 (T.e X W G adr k N sc F hs hN e).1) rfl plainCall
            · exact wall_both
          · exact wall_both
        · split
          · rename_i b hb
            cases args with
            | nil => cases hb
            | cons e es => exact both F (bltM_ok F hgl hb hc.2 hes) rfl plainCall
          · exact wall_both
      · exact wall_both
theorem few_shp {args : List Expr} {kws : List Keyword} (h : fewOk args kws = true) : shpOf args kws = some .pl := by
  unfold fewOk at h
  rw [Bool.and_eq_true] at h
  unfold shpOf
  rw [if_pos h.1]
theorem recv_kinds {i : Nat} {x : LV} {L : LH} (h : (recv P i x L).ok = true) : (∃ d, recv P i x L = .own d) ∨ (recv P i x L = .lst ∧ (i = kAppend ∨ i = kExtend ∨ i = kPop)) ∨ (recv P i x L = .str ∧ i = kJoin) := by
  cases q : recv P i x L with
  | own d => exact .inl ⟨d, rfl⟩
  | no => rw [q] at h; cases h
  | stat d =>
    unfold recv at q
    split at q
    · split at q <;> cases q
    · split at q
      · split at q <;> cases q
      · split at q
        · split at q
          · split at q <;> cases q
          · cases q
        · cases q
  | clsm d =>
    unfold recv at q
    split at q
    · split at q <;> cases q
    · split at q
      · split at q <;> cases q
      · split at q
        · split at q
          · split at q <;> cases q
          · cases q
        · cases q
  | lst =>
    refine .inr (.inl ⟨rfl, ?_⟩)
    unfold recv at q
    split at q
    · split at q <;> cases q
    · split at q
      · split at q <;> cases q
      · split at q
        · split at q
          · split at q
            · assumption
            · cases q
          · cases q
        · cases q
  | str =>
    refine .inr (.inr ⟨rfl, ?_⟩)
    unfold recv at q
    split at q
    · split at q
      · assumption
      · cases q
    · split at q
      · split at q <;> cases q
      · split at q
        · split at q
          · split at q <;> cases q
          · cases q
        · cases q
theorem trCallM_ok (T : TrOk P NM t) (F : Fc X NM W P G adr k) (hs : X.env.scope = sc) (hN : X.N = N) (o : Expr) (m : Str) (apos : Pos) (args : List Expr) (kws : List Keyword) (pos : Pos) : SE X NM W (.Call (.Attribute o m apos) args kws pos) (den P G (trCallM NM t N sc o m apos args kws pos)).e ∧ ST X NM W (.Call (.Attribute o m apos) args kws pos) (den P G (trCallM NM t N sc o m apos args kws pos)).t := by
  have hes := (T.es X W G adr k N sc F hs hN args).1
  have hks := T.ks X W G adr k N sc F hs hN kws
  have ho := (T.e X W G adr k N sc F hs hN o).1
  unfold trCallM
  split
  · exact wall_both
  · rename_i hc
    have hc : (baseOk o && fewOk args kws && (apos.endLine == pos.line)) = true := by simpa using hc
    rw [Bool.and_eq_true, Bool.and_eq_true] at hc
    obtain ⟨⟨c1, c2⟩, c3⟩ := hc
    have hal : args.all notStar = true := by unfold fewOk at c2; rw [Bool.and_eq_true] at c2; exact c2.1
    split
    · rename_i i ks hi hk
      obtain ⟨e1, e2⟩ := idx_nm hi
      subst e1
      obtain ⟨k1, k2⟩ := kwIds_ok hk
      have hst : ∀ e p, args = [.Starred e p] → ∃ a, t.es N sc args = .star a .nil ∧ SE X NM W e (den P G a).e := fun e p he => by rw [he] at hal; cases hal
      have own := pm_own (m := i) (apos := apos) (pos := pos) F ho hes hks k1 k2 (few_shp c2) (fun e => by rw [e]; exact T.es0 N sc) (fun e => by rw [e]; exact T.ks0 N sc) hst c1 c2 c3
      have out : ∀ {B : LV → LH → Prop}, PE X (.Call (.Attribute o (nm NM i) apos) args kws pos) (tMet X NM W P G i (t.e N sc o) (t.es N sc args) ks (t.ks N sc kws) B) → (∀ x L, (recv P i x L).ok = true → (∃ d, recv P i x L = .own d) ∨ B x L) →
        SE X NM W (.Call (.Attribute o (nm NM i) apos) args kws pos) (den P G (.met i (t.e N sc o) (t.es N sc args) ks (t.ks N sc kws))).e ∧ ST X NM W (.Call (.Attribute o (nm NM i) apos) args kws pos) (den P G (.met i (t.e N sc o) (t.es N sc args) ks (t.ks N sc kws))).t := fun h2 hB => both F (se_met own h2 hB) rfl plainCall
      split
      · rename_i hi3
        split
        · rename_i e
          have hn : notStar e = true := by rw [List.all_cons, Bool.and_eq_true] at hal; exact hal.1
          have he := (T.e X W G adr k N sc F hs hN e).1
          have ha : SA X NM W [e] (den P G (.cons (t.e N sc e) .nil)).es := sa_cons hn he sa_nil
          have own1 := pm_own (m := i) (apos := apos) (pos := pos) (ks := []) (ek := .nil) (kws := []) F ho ha sk_nil rfl (fun j hj => by cases hj) (few_shp c2) (fun e => by cases e) (fun _ => rfl) (fun e' p he => by cases he; cases hal) c1 c2 c3
          rcases hi3 with rfl | rfl | rfl
          · have nmE : nm NM kAppend = ("append" : Str) := (F.sf.pre kAppend (by decide)).trans rfl
            refine both F (se_met own1 (by rw [nmE]; exact pm_append ho he hn c1 c3) fun x L hr => ?_) rfl plainCall
            rcases recv_kinds hr with h | ⟨h, _⟩ | ⟨_, h⟩
            · exact .inl h
            · exact .inr h
            · exact absurd h (by decide)
          · have nmE : nm NM kExtend = ("extend" : Str) := (F.sf.pre kExtend (by decide)).trans rfl
            refine both F (se_met own1 (by rw [nmE]; exact pm_extend ho he hn c1 c3) fun x L hr => ?_) rfl plainCall
            rcases recv_kinds hr with h | ⟨h, _⟩ | ⟨_, h⟩
            · exact .inl h
            · exact .inr h
            · exact absurd h (by decide)
          · have nmE : nm NM kJoin = ("join" : Str) := (F.sf.pre kJoin (by decide)).trans rfl
            refine both F (se_met own1 (by rw [nmE]; exact pm_join ho he hn c1 c3) fun x L hr => ?_) rfl plainCall
            rcases recv_kinds hr with h | ⟨_, h⟩ | ⟨h, _⟩
            · exact .inl h
            · exact absurd h (by decide)
            · exact .inr h
        · exact wall_both
      · split
        · rename_i n1 hi4
          subst hi4
          split
          · have own1 := pm_own (m := kPop) (apos := apos) (pos := pos) (ks := []) (ek := .nil) (kws := []) F ho (sa_nil (P := P) (G := G)) sk_nil rfl (fun j hj => by cases hj) (few_shp c2) (fun _ => rfl) (fun _ => rfl) (fun e' p he => by cases he) c1 c2 c3
            have nmE : nm NM kPop = ("pop" : Str) := (F.sf.pre kPop (by decide)).trans rfl
            refine both F (se_met own1 (by rw [nmE]; exact pm_pop ho c1 c3) fun x L hr => ?_) rfl plainCall
            rcases recv_kinds hr with h | ⟨h, _⟩ | ⟨_, h⟩
            · exact .inl h
            · exact .inr h
            · exact absurd h (by decide)
          · exact wall_both
        · rename_i n1 n2
          -- no list's and no text's name: an own one
          exact out own fun x L hr => by
            rcases recv_kinds hr with h | ⟨_, h⟩ | ⟨_, h⟩
            · exact .inl h
            · exact absurd h (fun h => by rcases h with h | h | h; exact n1 (.inl h); exact n1 (.inr (.inl h)); exact n2 h)
            · exact absurd (.inr (.inr h)) n1
    · exact wall_both
end
end PM

set_option Elab.async false
set_option linter.all false
set_option autoImplicit false
set_option maxHeartbeats 2000000
/-! # PM23: the translator's soundness -/
namespace PM
open PySem PySem.Spec PyProof.Rows
open L2 hiding St
section
variable {X : Cx} {NM : List Str} {W : WX} {P : PM.Prog} {G : Gam} {adr : Nat → Nat → Addr} {k : Nat} {N : List Str} {sc : Scope} {t : Tr}
theorem relS_lookup (scope sc : Scope) (x : Str) : (relS scope sc).names.lookup x = (scope.names.lookup x).map fun kk => if (kk == .free && sc.kind == .function && sc.names.lookup x == some .cell) then .cell else kk := by
  unfold relS
  show (scope.names.map fun (n, kk) => if (kk == .free && sc.kind == .function && sc.names.lookup n == some .cell) then (n, NameKind.cell) else (n, kk)).lookup x = _
  induction scope.names with
  | nil => rfl
  | cons q r ih =>
    obtain ⟨n, kk⟩ := q
    rw [List.map_cons]
    by_cases e : x = n
    · subst e
      dsimp only
      split
      · rename_i h
        rw [List.lookup_cons, List.lookup_cons, beq_self_eq_true]
        show some NameKind.cell = some (if (kk == NameKind.free && sc.kind == ScopeKind.function && List.lookup x sc.names == some NameKind.cell) = true then NameKind.cell else kk)
        rw [if_pos h]
      · rename_i h
        rw [List.lookup_cons, List.lookup_cons, beq_self_eq_true]
        show some kk = some (if (kk == NameKind.free && sc.kind == ScopeKind.function && List.lookup x sc.names == some NameKind.cell) = true then NameKind.cell else kk)
        rw [if_neg h]
    · have ne : (x == n) = false := beq_eq_false_iff_ne.mpr e
      have e2 : List.lookup x ((n, kk) :: r) = List.lookup x r := by rw [List.lookup_cons, ne]
      rw [e2, ← ih]
      dsimp only
      split <;> rw [List.lookup_cons, ne]
/-- the block's stores -/
theorem blk_loc {scope : Scope} (s : Shared) (H : Hp) (C : Addr) (cl : List (Str × Addr)) (fp : List Addr) : ∀ x, isLoc scope x = true → L2.Loc (X.blk s H scope (compEnvC scope cl C X.env) fp).env.scope x ∧ ((X.blk s H scope (compEnvC scope cl C X.env) fp).fn x = true ∨ (X.blk s H scope (compEnvC scope cl C X.env) fp).env.scope.names.lookup x = some .local) := by
  intro x h
  have e : (X.blk s H scope (compEnvC scope cl C X.env) fp).env.scope = relS scope X.env.scope := rfl
  rw [e]
  unfold L2.Loc
  rw [relS_lookup]
  unfold isLoc lk at h
  split at h
  · rename_i q
    rw [q]
    exact ⟨.inl rfl, .inr rfl⟩
  · rename_i q
    rw [q]
    exact ⟨.inr rfl, .inl (by show (scope.names.lookup x == some .cell) = true; rw [q]; rfl)⟩
  · cases h
theorem lc_parts (T : TrOk P NM t) (F : Fc X NM W P G adr k) (hs : X.env.scope = sc) (hN : X.N = N) {elt tg iter : Expr} {scope : Scope} (hb0 : blkP P N sc scope (ownOf N scope.names) = true) :
    BlkOk X.N X.env.scope scope (ownOf N scope.names) ∧
    (∀ (s : Shared) (H : Hp) (C : Addr) (cl : List (Str × Addr)) (fp : List Addr), SGw (X.blk s H scope (compEnvC scope cl C X.env) fp) NM ((ownOf N scope.names).map (·.2)) tg (den P G (t.gw N scope ((ownOf N scope.names).map (·.2)) tg)).g) ∧
    (∀ (e : Expr) (s : Shared) (H : Hp) (C : Addr) (cl : List (Str × Addr)) (fp : List Addr), SE (X.blk s H scope (compEnvC scope cl C X.env) fp) NM noW e (den P G (t.e N (relS scope sc) e)).e ∧ ST (X.blk s H scope (compEnvC scope cl C X.env) fp) NM noW e (den P G (t.e N (relS scope sc) e)).t) := by
  subst hs hN
  obtain ⟨hb, hl⟩ := Bool.and_eq_true_iff.mp hb0
  have hne : ∀ e ∈ P.lams, (relS scope X.env.scope).names ≠ e.2 := fun e he => by simpa using List.all_eq_true.mp hl e he
  exact ⟨blkOk_by hb, fun s H C cl fp => T.gw _ G adr k X.N scope _ (F.blk s H scope C cl fp hne) (blk_loc s H C cl fp) rfl tg, fun e s H C cl fp => T.e _ noW G adr k X.N _ (F.blk s H scope C cl fp hne) rfl rfl e⟩
theorem pts_one' {Y : Cx} {c : Expr} {dn : LS → LH → R Bool} (h : ST Y NM noW c dn) : PTs Y [c] (tR Y.K NM rB noW dn) := pts_one h
theorem pts_nil' {Y : Cx} : PTs Y [] (tR Y.K NM rB noW (den P G .nil).t) := ⟨fun pins s σ H Q I h => pts_nil.run pins s σ H Q I (by
  obtain ⟨f, l, L, hR, hS, h⟩ := h
  exact Aft.here h hR true rfl)⟩
theorem both_ite {m : Bool} {e : Expr} {a b : E} (h1 : SE X NM W e (den P G a).e ∧ ST X NM W e (den P G a).t) (h2 : SE X NM W e (den P G b).e ∧ ST X NM W e (den P G b).t) : SE X NM W e (den P G (if m = true then a else b)).e ∧ ST X NM W e (den P G (if m = true then a else b)).t := by
  cases m with
  | true => exact h1
  | false => exact h2
theorem trLc_ok {m : Bool} (T : TrOk P NM t) (F : Fc X NM W P G adr k) (hs : X.env.scope = sc) (hN : X.N = N) (elt tg iter : Expr) (ifs : List Expr) (scope : Scope) (pos : Pos) : SE X NM W (.ListComp elt [⟨tg, iter, ifs, 0⟩] scope pos) (den P G (trLc P m t N sc elt tg iter ifs scope)).e ∧ ST X NM W (.ListComp elt [⟨tg, iter, ifs, 0⟩] scope pos) (den P G (trLc P m t N sc elt tg iter ifs scope)).t := by
  unfold trLc
  dsimp only
  split
  · exact wall_both
  · rename_i hc
    have hc : (blkP P N sc scope (ownOf N scope.names) && noSet iter) = true := by simpa using hc
    rw [Bool.and_eq_true] at hc
    obtain ⟨p1, p2, p3⟩ := lc_parts (elt := elt) (tg := tg) (iter := iter) (G := G) (adr := adr) (k := k) T F hs hN hc.1
    have hi := T.i X W G adr k N sc F hs hN tg iter
    split
    · exact both_ite (both F (se_lcM F hi p1 p2 (fun s H C cl fp => pts_nil') (fun s H C cl fp => (p3 elt s H C cl fp).1) hc.2) rfl (fun _ => rfl)) (both F (se_lc F hi p1 p2 (fun s H C cl fp => pts_nil') (fun s H C cl fp => (p3 elt s H C cl fp).1) hc.2) rfl (fun _ => rfl))
    · rename_i c
      exact both_ite (both F (se_lcM F hi p1 p2 (fun s H C cl fp => pts_one' (p3 c s H C cl fp).2) (fun s H C cl fp => (p3 elt s H C cl fp).1) hc.2) rfl (fun _ => rfl)) (both F (se_lc F hi p1 p2 (fun s H C cl fp => pts_one' (p3 c s H C cl fp).2) (fun s H C cl fp => (p3 elt s H C cl fp).1) hc.2) rfl (fun _ => rfl))
    · exact wall_both
theorem so_ok (T : TrOk P NM t) (F : Fc X NM W P G adr k) (hs : X.env.scope = sc) (hN : X.N = N) (o : Option Expr) : SO X NM W o (fun σ H => ((den P G (sPart t N sc o)).es σ H).bind partR) := by
  cases o with
  | none => exact so_none
  | some e => exact so_some (T.e X W G adr k N sc F hs hN e).1
theorem se_con (F : Fc X NM W P G adr k) {g : Nat} {v : LV} {pos : Pos} (hg : Gl X (nm NM g)) (hd : (nm NM g == ("__debug__" : Str)) = false) (h : P.con g = some v) : SE X NM W (.Name (nm NM g) pos) (den P G (.con g)).e := by
  obtain ⟨w, u, e1, e2, e3⟩ := F.mgc g v h
  have e : (den P G (.con g)).e = fun _ L => .ok v L := by
    funext l L
    show (match P.con g with
      | some v => .ok v L
      | none => .bad : R LV) = _
    rw [h]
  rw [e]
  exact se_lit (pe_glob hg e1 e2 hd) e3
theorem trE_ok (T : TrOk P NM t) (F : Fc X NM W P G adr k) (hs : X.env.scope = sc) (hN : X.N = N) (e : Expr) : SE X NM W e (den P G (trE P NM t N sc e)).e ∧ ST X NM W e (den P G (trE P NM t N sc e)).t := by
  have he := fun e => T.e X W G adr k N sc F hs hN e
  have hes := fun es => T.es X W G adr k N sc F hs hN es
  unfold trE
  split
  · -- Name
    rename_i x p
    split
    · exact wall_both
    · rename_i hb
      obtain ⟨d1, d2⟩ := badNm_ok hb
      split
      · rename_i hv
        split
        · rename_i i hi
          exact both F (se_var (by rw [hN]; exact idx_ok hi) (vis_ok hs hv) d1 d2) rfl (fun _ => rfl)
        · exact wall_both
      · split
        · rename_i hg
          have hg := glb_ok hs hg
          split
          · rename_i g hi
            obtain ⟨e1, e2⟩ := idx_nm hi
            subst e1
            split
            · rename_i hgl
              exact both F (se_glo hg (F.mgs g hgl) d1) rfl (fun _ => rfl)
            · split
              · rename_i v hv
                exact both F (se_con F hg d1 hv) rfl (fun _ => rfl)
              · exact wall_both
          · exact wall_both
        · exact wall_both
  · -- Constant
    split
    · exact both F se_int rfl (fun _ => rfl)
    · exact both F se_bl rfl (fun _ => rfl)
    · exact both F se_non rfl (fun _ => rfl)
    · exact both F se_str rfl (fun _ => rfl)
    · exact wall_both
  · exact both F (se_tup (hes _).1) rfl (fun _ => rfl)
  · exact both_ite (both F (se_lstM (hes _).1) rfl (fun _ => rfl)) (both F (se_lst (hes _).1) rfl (fun _ => rfl))
  · split
    · rename_i o ho
      exact both F (se_bin (ops_all F ho) (he _).1 (he _).1) rfl (fun _ => rfl)
    · exact wall_both
  · exact ⟨se_not (tru_all F) (he _).1, st_not (he _).2⟩
  · exact both F (se_neg F (he _).1) rfl (fun _ => rfl)
  · exact trCmp_ok T F hs hN _ _ _ _
  · split
    · rename_i o o' h1 h2
      split
      · exact wall_both
      · rename_i hm
        have hm := (Bool.not_eq_true _).mp hm
        exact ⟨chain_K (cmp_all F h1) (cmp_all F h2) (he _).1 (he _).1 (he _).1 hm, st_chain (tru_all F) (cmp_all F h1) (cmp_all F h2) (he _).1 (he _).1 (he _).1 hm⟩
    · exact wall_both
  · exact ⟨(hes _).2.2.2.1 _, st_and ((hes _).2.1 _)⟩
  · exact ⟨(hes _).2.2.2.2.1 _, st_or ((hes _).2.2.1 _)⟩
  · exact ⟨se_ife (he _).2 (he _).1 (he _).1, st_ife (he _).2 (he _).2 (he _).2⟩
  · -- Attribute
    split
    · rename_i hb
      split
      · rename_i i hi
        obtain ⟨e1, e2⟩ := idx_nm hi
        subst e1
        exact both F (se_fld F hb (he _).1) rfl (fun _ => rfl)
      · exact wall_both
    · exact wall_both
  · rename_i a lo hi p2 pos
    cases muP P pos with
    | true => exact both F (se_slcM (he _).1 (so_ok T F hs hN _) (so_ok T F hs hN _)) rfl (fun _ => rfl)
    | false => exact both F (se_slc (he _).1 (so_ok T F hs hN _) (so_ok T F hs hN _)) rfl (fun _ => rfl)
  · exact both F (se_rev (he _).1) rfl (fun _ => rfl)
  · split
    · rename_i hp
      exact both F (se_ix hp (he _).1 (he _).1) rfl (fun _ => rfl)
    · exact wall_both
  · exact trCallN_ok T F hs hN _ _ _ _ _
  · exact trCallM_ok T F hs hN _ _ _ _ _ _
  · exact trLc_ok T F hs hN _ _ _ _ _ _
  · exact both F (se_fst1 (se_fmt (he _).1)) rfl (fun _ => rfl)
  · exact both F (se_fst1 se_str) rfl (fun _ => rfl)
  · exact both F (se_fst (hes _).2.2.2.2.2) rfl (fun _ => rfl)
  · exact both F (se_fmt (he _).1) rfl (fun _ => rfl)
  · exact wall_both
end
end PM

set_option Elab.async false
set_option linter.all false
set_option autoImplicit false
set_option maxHeartbeats 1000000
/-! # PMa: xs[i] op= e -/
namespace PM
open PySem PySem.Spec PyProof.Rows
open L2 hiding St
section
variable {X : Cx} {NM : List Str} {W : WX} {P : PM.Prog} {G : Gam} {adr : Nat → Nat → Addr} {k : Nat}
theorem pget_list : PGet X (rIxL X.K) := by
  intro pins s σ H x y v u Q I rx ry h
  obtain ⟨p, xs, i, z, rfl, rfl, hq, he, q⟩ := h
  cases rx
  obtain ⟨t, rfl⟩ := ry
  obtain ⟨its, r, pl, hz⟩ := I.list hq
  obtain ⟨j, h1, h2, h3, h4, h5⟩ := atI_get he
  obtain ⟨w, ew, rw'⟩ := r.get h2
  have hl := r.length
  have hn := line63
  have fin : EP X pins σ Q w s := ⟨z, H, I, rw', q⟩
  by_cases h0 : 0 ≤ i
  · have hj : i.toNat = j := by
      rw [seqIndex_of h0 h5] at h1
      exact Option.some.inj h1
    exact wpAny_getItem_list pl.isList h0 (by omega) (by rw [hj]; simpa using ew) fin
  · have hj : (i + (its.toArray.size : Int)).toNat = j := by
      rw [seqIndex_neg (by omega) h4] at h1
      rw [List.size_toArray, ← hl]
      exact Option.some.inj h1
    exact wpAny_getItem_list_neg pl.isList (by omega) (by rw [List.size_toArray]; omega) (by omega) (by rw [hj]; simpa using ew) fin
theorem ss_augx {o i e : Expr} {op : Operator} {b : BOp} {eo ei ea : E} {tpos pos : Pos} (hop : opT false op = some b) (hpl : plainIx i = true) (ho : SE X NM W o (den P G eo).e) (hi : SE X NM W i (den P G ei).e) (he : SE X NM W e (den P G ea).e) :
    SS X NM W (.AugAssign (.Subscript o i tpos) op e pos) (den P G (.augx b eo ei ea)).s := by
  refine ps_weak (ps_augS ho hi pget_list he (inp_all (NM := NM) hop) set_list (by cases i <;> first | (intros; rfl) | (cases hpl))) fun D σ H h => ?_
  obtain ⟨f, l, L, hR, hS, h⟩ := h
  refine tR_bindS hR hS h fun x L1 f1 H1 vx e1 r1 s1 rx h1 => ?_
  refine tR_bindS r1 s1 h1 fun j L2 f2 H2 vj e2 r2 s2 rj h2 => ?_
  have rx2 := VR.mono e2.mo _ _ rx
  have rd : ∀ old L3, getIxL x j L2 = .ok old L3 → L3 = L2 ∧ ∃ p vs i w, vx = .ref p ∧ vj = .int i ∧ SqL X.K H2 p vs ∧ _root_.L2.atI vs i = some w ∧ VR X.K NM f2 H2 old w := fun old L3 q => by
    unfold getIxL at q
    split at q
    · rename_i a
      unfold getIx at q
      split at q
      · rename_i i
        obtain rfl : vj = .int i := rj
        split at q
        · rename_i s0 hs0
          cases hs0
        · split at q
          · rename_i xs hs
            split at q
            · rename_i v hv
              cases q
              obtain ⟨p, vs, rfl, q1, q2⟩ := lstOf_ok r2 rx2 (show lstOf L2 (.ref a) = some xs from hs)
              obtain ⟨w, w1, w2⟩ := atI_ok q2 hv
              exact ⟨rfl, p, vs, i, w, rfl, rfl, q1, w1, w2⟩
            · cases q
          · cases q
      · cases q
    · cases q
  cases q : getIxL x j L2 with
  | exc y L3 =>
    exfalso
    unfold getIxL getIx at q
    repeat' (split at q)
    all_goals cases q
  | bad => rw [q] at h2; exact h2.elim
  | ok old L3 =>
    rw [q] at h2
    obtain ⟨rfl, p, vs, i, w, rfl, rfl, q1, q2, q3⟩ := rd old L3 q
    refine ⟨p, vs, i, w, rfl, rfl, q1, q2, ?_⟩
    refine tR_bindS r2 s2 h2 fun y L4 f4 H4 vy e4 r4 s4 ry h4 => ?_
    refine ⟨f4, old, y, L4, r4, VR.mono e4.mo _ _ q3, ry, ?_⟩
    cases q4 : augop b old y L4 with
    | bad => rw [q4] at h4; exact h4.elim
    | exc z L5 =>
      exfalso
      unfold augop at q4
      repeat' (split at q4)
      all_goals cases q4
    | ok z L5 =>
      rw [q4] at h4
      intro f5 H5 e5 r5 vz rz
      have h5 : AftS X.K NM W f5 H5 (RS.ofR (setIx x j z L5) l fun _ H6 => .ok (.nx l) H6) D := AftS.ext h4 e5
      refine setIx_ok (W := W) (l := l) (σ := σ) r5 (VR.mono (e4.trans e5).mo _ _ rx2) (VR.mono (e4.trans e5).mo _ _ rj) rz ?_
      have s5 := s4.mono e5.mo
      cases q5 : setIx x j z L5 with
      | ok u L6 => rw [q5] at h5; exact fun f' H' e r => AftS.nx (AftS.ext h5 e) r (s5.mono e.mo)
      | exc u L6 =>
        exfalso
        unfold setIx at q5
        repeat' (split at q5)
        all_goals cases q5
      | bad => rw [q5] at h5; exact h5.elim
end
end PM

set_option Elab.async false
set_option linter.all false
set_option autoImplicit false
set_option maxHeartbeats 1000000
/-! # PMt: three names at once -/
namespace PM
open PySem PySem.Spec PyProof.Rows
open L2 hiding St
section
variable {X : Cx} {NM : List Str} {W : WX} {P : PM.Prog} {G : Gam} {adr : Nat → Nat → Addr} {k : Nat}
/-- x, y, z = three values: stored from the right -/
def tTri (i j l : Nat) (ta : TA) : TS := fun D σ H => ta σ H fun vs H1 => ∃ a b c, vs = [a, b, c] ∧ D.nx (((σ.set i (some a)).set j (some b)).set l (some c)) H1
theorem ps_tri {i j l : Nat} {x y z : Str} {ea eb ec : Expr} {ta : TA} {px py pz pt : Pos} {kt k2 pt2 pos} (hc : X.calm = true) (hN : X.N.Nodup) (hi : X.N[i]? = some x) (hj : X.N[j]? = some y) (hl : X.N[l]? = some z) (hij : i ≠ j) (hil : i ≠ l) (hjl : j ≠ l)
    (hx : X.env.scope.names.lookup x = some .local) (hy : X.env.scope.names.lookup y = some .local) (hz : X.env.scope.names.lookup z = some .local) (ha : PA X [ea, eb, ec] ta)
    (hw : swappedStores [.Tuple [.Name x px, .Name y py, .Name z pz] kt pt] (.Tuple [ea, eb, ec] k2 pt2) X.env = pure (some [x, y, z]))
    (hs : swapsWithSole [.Tuple [.Name x px, .Name y py, .Name z pz] kt pt] (.Tuple [ea, eb, ec] k2 pt2) pos.line X.env = pure false := by rfl) :
    PS X (.Assign [.Tuple [.Name x px, .Name y py, .Name z pz] kt pt] (.Tuple [ea, eb, ec] k2 pt2) pos) (tTri i j l ta) := by
  refine ⟨fun pins s σ H D I hD => ?_⟩
  rw [exec_Assign_arm]
  refine wpAny_bind (wpAny_standAt ?_)
  rw [hs]
  refine wpAny_bind (wpAny_pure ?_)
  rw [if_neg (by decide)]
  refine wpAny_bind (Tuple_ (thn (ha.run _ pins s σ H _ I hD) fun us t1 ⟨vs, H1, I1, rr, a, b, c, ev, qd⟩ => ?_))
  subst ev
  obtain ⟨u, v, w, rfl, ru, rv, rw3⟩ : ∃ u v w, us = [u, v, w] ∧ RelV a u ∧ RelV b v ∧ RelV c w := by
    cases rr with
    | cons r1 rr =>
      cases rr with
      | cons r2 rr =>
        cases rr with
        | cons r3 rr =>
          cases rr
          exact ⟨_, _, _, rfl, r1, r2, r3⟩
  refine wpAny_newObj_type ?_ (by show 3 ≤ sizeLine; decide)
  have J2 : Inv X pins σ H1 { t1 with heap := t1.heap.push { cls := .type "tuple", data := .seq [u, v, w].toArray } } := I1.kept (t' := t1.toks) fun q o e => Heap.get?_push_of_some _ e
  rw [hw]
  refine wpAny_bind (wpAny_pure ?_)
  show wpAny (model X.prog X.w) X.A (do rule "assign.swapped-stores"; let items ← unpackItems (.ref t1.heap.objs.size) 3 none; assignInOrder [fun d => bindName X.env z d, fun d => bindName X.env y d, fun d => bindName X.env x d] items.reverse; pure Flow.next) _ _ _
  refine wpAny_bind (wpAny_rule (wpAny_bind (unpackItems_tuple (items := #[u, v, w]) (I1.ok.hd hc) (IsTup.new t1.heap _) fun h' hk => ?_)))
  have J3 := J2.kept (h' := h') (t' := t1.toks) fun q o e => hk q o (Nat.ne_of_lt (Heap.lt_size e)) e
  show wpAny _ _ (assignInOrder [fun d => bindName X.env z d, fun d => bindName X.env y d, fun d => bindName X.env x d] [w, v, u] >>= fun _ => pure Flow.next) _ _ _
  refine wpAny_bind (assignInOrder_cons (wpAny_bindName (store_ok J3 hN hl (.inl hz) rw3 (fun t2 J4 => ?_) (.inr hz))))
  refine assignInOrder_cons (wpAny_bindName (store_ok J4 hN hj (.inl hy) rv (fun t3 J5 => ?_) (.inr hy)))
  refine assignInOrder_cons (wpAny_bindName (store_ok J5 hN hi (.inl hx) ru (fun t4 J6 => assignInOrder_nil (wpAny_pure ?_)) (.inr hx)))
  rw [List.set_comm _ _ hjl.symm, List.set_comm _ _ hil.symm, List.set_comm _ _ hij.symm] at J6
  exact ⟨_, H1, J6, qd⟩
/-- targets that are names, one after the other -/
def tms : List Nat → E
  | [] => .nil
  | i :: r => .cons (.tnm i) (tms r)
theorem gs_two {i : Nat} {r : List Nat} {v : LV} {vs : List LV} {l : LS} {L : LH} : (den P G (tms (i :: r))).gs (v :: vs) l L = noX ((if i < l.length then .ok (l.set i (some v)) L else .bad : R LS).bind fun σ1 H1 => (den P G (tms r)).gs vs σ1 H1) := rfl
theorem gs_not {l : LS} {L : LH} {f : LS → LH → R LS} {i : Nat} {v : LV} (h : ¬ i < l.length) : (noX ((if i < l.length then .ok (l.set i (some v)) L else .bad : R LS).bind f) : R LS) = .bad := by
  rw [if_neg h]
  rfl
theorem ss_par3 {i j l : Nat} {x y z : Str} {a b c : Expr} {ea eb ec : E} {px py pz pt : Pos} {kt k2 : Nat} {pt2 pos : Pos} (hc : X.calm = true) (hN : X.N.Nodup) (hi : X.N[i]? = some x) (hj : X.N[j]? = some y) (hl : X.N[l]? = some z) (hij : i ≠ j) (hil : i ≠ l) (hjl : j ≠ l)
    (hx : X.env.scope.names.lookup x = some .local) (hy : X.env.scope.names.lookup y = some .local) (hz : X.env.scope.names.lookup z = some .local) (ha : SA X NM W [a, b, c] (den P G (.cons ea (.cons eb (.cons ec .nil)))).es)
    (hw : swappedStores [.Tuple [.Name x px, .Name y py, .Name z pz] kt pt] (.Tuple [a, b, c] k2 pt2) X.env = pure (some [x, y, z])) :
    SS X NM W (.Assign [.Tuple [.Name x px, .Name y py, .Name z pz] kt pt] (.Tuple [a, b, c] k2 pt2) pos) (den P G (.asg (.ttp (.cons (.tnm i) (.cons (.tnm j) (.cons (.tnm l) .nil)))) (.tup (.cons ea (.cons eb (.cons ec .nil)))))).s := by
  refine ps_weak (ps_tri hc hN hi hj hl hij hil hjl hx hy hz ha hw) fun D σ H h => ?_
  obtain ⟨f, m, L, hR, hS, h⟩ := h
  have h : AftS X.K NM W f H (RS.ofR ((den P G (.cons ea (.cons eb (.cons ec .nil)))).es m L) m fun vs H1 => RS.ofR (if vs.length ≤ SL then .ok (.tup vs) H1 else .bad : R LV) m fun v H1 => RS.ofR ((den P G (.ttp (tms [i, j, l]))).g v m H1) m fun σ1 H2 => .ok (.nx σ1) H2) D := by
    have h : AftS X.K NM W f H (RS.ofR (((den P G (.cons ea (.cons eb (.cons ec .nil)))).es m L).bind fun vs H1 => if vs.length ≤ SL then .ok (.tup vs) H1 else .bad) m fun v H1 => RS.ofR ((den P G (.ttp (tms [i, j, l]))).g v m H1) m fun σ1 H2 => .ok (.nx σ1) H2) D := h
    cases q : (den P G (.cons ea (.cons eb (.cons ec .nil)))).es m L with
    | ok vs L1 => rw [q] at h; exact h
    | exc x L1 => rw [q] at h; exact h
    | bad => rw [q] at h; exact h
  refine tR_bindS hR hS h fun vs L1 f1 H1 ws e r s rb h1 => ?_
  split at h1
  · have h1 : AftS X.K NM W f1 H1 (RS.ofR ((den P G (tms [i, j, l])).gs vs m L1) m fun σ1 H2 => .ok (.nx σ1) H2) D := h1
    match vs, rb, h1 with
    | [], _, h1 => exact h1.elim
    | v1 :: vs, rb, h1 =>
      rw [gs_two] at h1
      by_cases c1 : i < m.length
      · rw [if_pos c1] at h1
        obtain ⟨w1, ws, rfl, q1, rb⟩ := rb
        match vs, rb, h1 with
        | [], _, h1 => exact h1.elim
        | v2 :: vs, rb, h1 =>
          have h1 : AftS X.K NM W f1 H1 (RS.ofR (noX ((den P G (tms [j, l])).gs (v2 :: vs) (m.set i (some v1)) L1)) m fun σ1 H2 => .ok (.nx σ1) H2) D := h1
          rw [gs_two] at h1
          by_cases c2 : j < (m.set i (some v1)).length
          · rw [if_pos c2] at h1
            obtain ⟨w2, ws, rfl, q2, rb⟩ := rb
            match vs, rb, h1 with
            | [], _, h1 => exact h1.elim
            | v3 :: vs, rb, h1 =>
              have h1 : AftS X.K NM W f1 H1 (RS.ofR (noX (noX ((den P G (tms [l])).gs (v3 :: vs) ((m.set i (some v1)).set j (some v2)) L1))) m fun σ1 H2 => .ok (.nx σ1) H2) D := h1
              rw [gs_two] at h1
              by_cases c3 : l < ((m.set i (some v1)).set j (some v2)).length
              · rw [if_pos c3] at h1
                obtain ⟨w3, ws, rfl, q3, rb⟩ := rb
                match vs, rb, h1 with
                | _ :: _, _, h1 => exact h1.elim
                | [], rb, h1 =>
                  obtain rfl : ws = [] := rb
                  exact ⟨w1, w2, w3, rfl, AftS.nx h1 r (((s.set q1).set q2).set q3)⟩
              · rw [gs_not c3] at h1; exact h1.elim
          · rw [gs_not c2] at h1; exact h1.elim
      · rw [gs_not c1] at h1; exact h1.elim
  · exact h1.elim
end
end PM

set_option Elab.async false
set_option linter.all false
set_option autoImplicit false
set_option maxHeartbeats 2000000
/-! # PM24: the translator's soundness: statements, the whole -/
namespace PM
open PySem PySem.Spec PyProof.Rows
open L2 hiding St
section
variable {X : Cx} {NM : List Str} {W : WX} {P : PM.Prog} {G : Gam} {adr : Nat → Nat → Addr} {k : Nat} {N : List Str} {sc : Scope} {t : Tr}
theorem trI_ok (T : TrOk P NM t) (F : Fc X NM W P G adr k) (hs : X.env.scope = sc) (hN : X.N = N) (tg it : Expr) : SI X NM W tg it (den P G (trI t N sc tg it)).i := by
  have he := fun e => (T.e X W G adr k N sc F hs hN e).1
  unfold trI
  split
  · rename_i x p args pos
    split
    · rename_i hc
      rw [Bool.and_eq_true] at hc
      have hg := glb_ok hs hc.1
      have hal := hc.2
      split
      · rename_i e1
        subst e1
        split
        · rename_i a
          have hn : notStar a = true := by rw [List.all_cons, Bool.and_eq_true] at hal; exact hal.1
          exact si_rng1 hg (mgn_at F 16 rfl) hn (sa_cons hn (he a) sa_nil)
        · rename_i a b
          have hn : notStar a = true ∧ notStar b = true := by simp only [List.all_cons, Bool.and_eq_true] at hal; exact ⟨hal.1, hal.2.1⟩
          exact si_rng2 hg (mgn_at F 16 rfl) hn.1 hn.2 (sa_cons hn.1 (he a) (sa_cons hn.2 (he b) sa_nil))
        · rename_i a b c
          have hn : notStar a = true ∧ notStar b = true ∧ notStar c = true := by simp only [List.all_cons, Bool.and_eq_true] at hal; exact ⟨hal.1, hal.2.1, hal.2.2.1⟩
          exact si_rng3 hg (mgn_at F 16 rfl) hn.1 hn.2.1 hn.2.2 (sa_cons hn.1 (he a) (sa_cons hn.2.1 (he b) (sa_cons hn.2.2 (he c) sa_nil)))
        · exact si_bad fun _ _ => rfl
      · split
        · rename_i e1
          subst e1
          split
          · rename_i a
            have hn : notStar a = true := by rw [List.all_cons, Bool.and_eq_true] at hal; exact hal.1
            exact si_rev hg (mgn_at F 19 rfl) hn (he a)
          · exact si_bad fun _ _ => rfl
        · split
          · rename_i e1
            subst e1
            split
            · rename_i a
              have hn : notStar a = true := by rw [List.all_cons, Bool.and_eq_true] at hal; exact hal.1
              exact si_enum hg (mgn_at F 17 rfl) hn (he a)
            · exact si_bad fun _ _ => rfl
          · split
            · rename_i e1
              subst e1
              split
              · rename_i a b
                have hn : notStar a = true ∧ notStar b = true := by simp only [List.all_cons, Bool.and_eq_true] at hal; exact ⟨hal.1, hal.2.1⟩
                exact si_zip hg (mgn_at F 18 rfl) hn.1 hn.2 (he a) (he b)
              · exact si_bad fun _ _ => rfl
            · exact si_val (he _)
    · exact si_val (he _)
  · exact si_val (he _)
theorem trG_ok (T : TrOk P NM t) (F : Fc X NM W P G adr k) (hs : X.env.scope = sc) (hN : X.N = N) (hf : ∀ x, X.fn x = true) (e : Expr) : SG X NM W e (den P G (trG t N sc e)).g := by
  have he := fun e => (T.e X W G adr k N sc F hs hN e).1
  unfold trG
  split
  · split
    · rename_i hl
      split
      · rename_i i hi
        exact sg_name F.xn (by rw [hN]; exact idx_ok hi) (by rw [hs]; exact loc_ok hl) (.inl (hf _))
      · exact sg_bad fun _ _ _ => rfl
    · exact sg_bad fun _ _ _ => rfl
  · split
    · rename_i hal
      exact sg_tup F.calm hal (T.gs X W G adr k N sc F hs hN hf _ hal) fun xs l L h => T.gsL G N sc _ xs l L h
    · exact sg_bad fun _ _ _ => rfl
  · split
    · rename_i hp
      exact sg_sub hp (he _) (he _)
    · exact sg_bad fun _ _ _ => rfl
  · exact sg_bad fun _ _ _ => rfl
theorem trGw_ok {scope : Scope} {vs : List Nat} (T : TrOk P NM t) (F : Fc X NM noW P G adr k) (hl : ∀ x, isLoc scope x = true → L2.Loc X.env.scope x ∧ (X.fn x = true ∨ X.env.scope.names.lookup x = some .local)) (hN : X.N = N) (e : Expr) : SGw X NM vs e (den P G (trGw t N scope vs e)).g := by
  unfold trGw
  split
  · split
    · rename_i hx
      split
      · rename_i i hi
        split
        · rename_i hv
          exact sgw_name (by simpa using hv) F.xn (by rw [hN]; exact idx_ok hi) (hl _ hx).1 (hl _ hx).2
        · exact sgw_bad fun _ _ _ => rfl
      · exact sgw_bad fun _ _ _ => rfl
    · exact sgw_bad fun _ _ _ => rfl
  · split
    · rename_i hal
      exact sgw_tup F.calm hal (T.gsw X G adr k N scope vs F hl hN _ hal) fun xs l L h => T.gswL G N scope vs _ xs l L h
    · exact sgw_bad fun _ _ _ => rfl
  · exact sgw_bad fun _ _ _ => rfl
theorem swap_ok {env : Env} {ts vs : List Expr} {r : Option (List Str)} {k1 k2 : Nat} {p1 p2 : Pos} (h : swapOf env.scope ts vs = some r) : swappedStores [.Tuple ts k1 p1] (.Tuple vs k2 p2) env = pure r := by
  have key : swappedStores [.Tuple ts k1 p1] (.Tuple vs k2 p2) env = if sw1 env.scope ts vs = true then pure none else if sw2 vs = true then pure none else if sw3 env.scope ts = true then pure none else if vs.all (foldedForSure 8) = true then pure none else
    if vs.all (constantsAlone 8) = true then (do
      let z ← unsupported (α := PUnit) "assign.tuple-of-constant-expressions:order-of-the-stores"
      pure (some (swN env.scope ts))) else pure (some (swN env.scope ts)) := rfl
  rw [key]
  unfold swapOf at h
  by_cases c1 : sw1 env.scope ts vs = true
  · rw [if_pos c1] at h ⊢; cases h; rfl
  · rw [if_neg c1] at h ⊢
    by_cases c2 : sw2 vs = true
    · rw [if_pos c2] at h ⊢; cases h; rfl
    · rw [if_neg c2] at h ⊢
      by_cases c3 : sw3 env.scope ts = true
      · rw [if_pos c3] at h ⊢; cases h; rfl
      · rw [if_neg c3] at h ⊢
        by_cases c4 : vs.all (foldedForSure 8) = true
        · rw [if_pos c4] at h ⊢; cases h; rfl
        · rw [if_neg c4] at h ⊢
          by_cases c5 : vs.all (constantsAlone 8) = true
          · rw [if_pos c5] at h; cases h
          · rw [if_neg c5] at h ⊢; cases h; rfl
theorem swapsub {e o i : Expr} {p : Pos} {n : Nat} {env : Env} : swapsWith e (some (.Subscript o i p)) n env = pure false := by cases e <;> rfl
theorem swapatt {e o : Expr} {f : Str} {p : Pos} {n : Nat} {env : Env} : swapsWith e (some (.Attribute o f p)) n env = pure false := by cases e <;> rfl
theorem swaptup {e : Expr} {es : List Expr} {kk : Nat} {p : Pos} {n : Nat} {env : Env} : swapsWith e (some (.Tuple es kk p)) n env = pure false := by cases e <;> rfl
theorem lcShort_ok {env : Env} {x : Str} {px : Pos} {elt : Expr} {gens : List Comprehension} {scope : Scope} {vpos : Pos} {n : Nat} : swapsWith (.ListComp elt gens scope vpos) (some (.Name x px)) n env = pure (lcShort env.scope x px scope vpos) := rfl
/-- a store of a value in another target -/
theorem ss_asgG {tg e : Expr} {et ea : E} {pos : Pos} (he : SE X NM W e (den P G ea).e) (hg : SG X NM W tg (den P G et).g) (hs : swapsWith e (some tg) pos.line X.env = pure false) (hw : swappedStores [tg] e X.env = pure none) (h1 : notStar tg = true) : SS X NM W (.Assign [tg] e pos) (den P G (.asg et ea)).s := by
  refine ps_weak (ps_asg he hg (hs := hs) (hw := hw) (h1 := assign_head h1)) fun D σ H h => ?_
  obtain ⟨f, l, L, hR, hS, h⟩ := h
  refine tR_bindS hR hS h fun v L1 f1 H1 w e r s rb h1 => ?_
  exact tG_bindS r s rb h1 fun l' L2 f2 H2 σ' e2 r2 s2 h2 => AftS.nx h2 r2 s2
theorem ss_setG {i : Nat} {x : Str} {e : Expr} {ea : E} {pos pos' : Pos} (hN : X.N.Nodup) (hi : X.N[i]? = some x) (hx : L2.Loc X.env.scope x) (hf : X.fn x = true ∨ X.env.scope.names.lookup x = some .local) (hn : swapsWith e (some (.Name x pos')) pos.line X.env = pure false) (he : SE X NM W e (den P G ea).e) :
    SS X NM W (.Assign [.Name x pos'] e pos) (den P G (.asg (.tnm i) ea)).s := by
  refine ps_weak (ps_set hN hi hx he hn hf) fun D σ H h => ?_
  obtain ⟨f, l, L, hR, hS, h⟩ := h
  refine tR_bindS hR hS h fun v L1 f1 H1 w e r s rb h1 => ?_
  have h1 : AftS X.K NM W f1 H1 (RS.ofR (if i < l.length then .ok (l.set i (some v)) L1 else .bad : R LS) l fun σ1 H2 => .ok (.nx σ1) H2) D := h1
  split at h1
  · exact AftS.nx h1 r (s.set rb)
  · exact h1.elim
theorem ss_ite {m : Bool} {st : Stmt} {i : E} {a b : E} (h1 : SS X NM W st (den P G (.asg i a)).s) (h2 : SS X NM W st (den P G (.asg i b)).s) : SS X NM W st (den P G (.asg i (if m = true then a else b))).s := by
  cases m with
  | true => exact h1
  | false => exact h2
theorem trAsg_ok (T : TrOk P NM t) (F : Fc X NM W P G adr k) (hs : X.env.scope = sc) (hN : X.N = N) (hf : ∀ x, X.fn x = true) (tg v : Expr) (pos : Pos) : SS X NM W (.Assign [tg] v pos) (den P G (trAsg P NM t N sc tg v pos)).s := by
  have he := fun e => (T.e X W G adr k N sc F hs hN e).1
  unfold trAsg
  split
  · -- a name
    rename_i x px
    split
    · rename_i hl
      have hloc := loc_ok hl
      split
      · rename_i i hi
        have hi := idx_ok hi
        split
        · rename_i elt ltg iter ifs scope vpos
          split
          · rename_i hsh
            split
            · rename_i hpl
              unfold trLc
              dsimp only
              split
              · exact ss_bad fun _ _ => rfl
              · rename_i hc
                have hc : (blkP P N sc scope (ownOf N scope.names) && noSet iter) = true := by simpa using hc
                rw [Bool.and_eq_true] at hc
                obtain ⟨p1, p2, p3⟩ := lc_parts (elt := elt) (tg := ltg) (iter := iter) (G := G) (adr := adr) (k := k) T F hs hN hc.1
                have hi2 := T.i X W G adr k N sc F hs hN ltg iter
                have hsw : swapsWith (.ListComp elt [⟨ltg, iter, ifs, 0⟩] scope vpos) (some (.Name x px)) pos.line X.env = pure true := by rw [lcShort_ok, hs, hsh]
                split
                · exact ss_ite (ss_lcM F (by rw [hN]; exact hi) (by rw [hs]; exact plainLoc_ok hpl) hsw hi2 p1 p2 (fun s H C cl fp => pts_nil') (fun s H C cl fp => (p3 elt s H C cl fp).1) hc.2) (ss_lc F (by rw [hN]; exact hi) (by rw [hs]; exact plainLoc_ok hpl) hsw hi2 p1 p2 (fun s H C cl fp => pts_nil') (fun s H C cl fp => (p3 elt s H C cl fp).1) hc.2)
                · rename_i c
                  exact ss_ite (ss_lcM F (by rw [hN]; exact hi) (by rw [hs]; exact plainLoc_ok hpl) hsw hi2 p1 p2 (fun s H C cl fp => pts_one' (p3 c s H C cl fp).2) (fun s H C cl fp => (p3 elt s H C cl fp).1) hc.2) (ss_lc F (by rw [hN]; exact hi) (by rw [hs]; exact plainLoc_ok hpl) hsw hi2 p1 p2 (fun s H C cl fp => pts_one' (p3 c s H C cl fp).2) (fun s H C cl fp => (p3 elt s H C cl fp).1) hc.2)
                · exact ss_bad fun _ _ => rfl
            · exact ss_bad fun _ _ => rfl
          · rename_i hsh
            exact ss_setG F.xn (by rw [hN]; exact hi) (by rw [hs]; exact hloc) (.inl (hf _)) (by rw [lcShort_ok, hs, (Bool.not_eq_true _).mp hsh]) (he _)
        · split
          · rename_i hn
            exact ss_set F.xn (by rw [hN]; exact hi) (by rw [hs]; exact hloc) (.inl (hf _)) hn (he _)
          · exact ss_bad fun _ _ => rfl
      · exact ss_bad fun _ _ => rfl
    · exact ss_bad fun _ _ => rfl
  · -- a field
    split
    · rename_i i hi
      obtain ⟨e1, e2⟩ := idx_nm hi
      subst e1
      exact ss_fldG F (he _) (he _)
    · exact ss_bad fun _ _ => rfl
  · split
    · rename_i hp
      exact ss_asgG (he _) (sg_sub hp (he _) (he _)) swapsub (by cases v <;> rfl) rfl
    · exact ss_bad fun _ _ => rfl
  · -- several
    rename_i ts kk tp
    split
    · rename_i vs k2 p2
      split
      · rename_i hsw
        split
        · rename_i hal
          exact ss_asgG (he _) (sg_tup F.calm hal (T.gs X W G adr k N sc F hs hN hf _ hal) fun xs l L h => T.gsL G N sc _ xs l L h) swaptup (swap_ok (by rw [hs]; exact hsw)) rfl
        · exact ss_bad fun _ _ => rfl
      · rename_i names hsw
        split
        · rename_i x1 q1 x2 q2 a b
          split
          · rename_i i j hi hj
            split
            · rename_i hc
              obtain ⟨c1, c2, c3, c4, c5, c6⟩ := hc
              subst c4
              exact ss_par F.calm F.xn (by rw [hN]; exact idx_ok hi) (by rw [hN]; exact idx_ok hj) c1 (by rw [hs]; exact plainLoc_ok c2) (by rw [hs]; exact plainLoc_ok c3) (sa_cons c5 (he a) (sa_cons c6 (he b) sa_nil)) (swap_ok (by rw [hs]; exact hsw))
            · exact ss_bad fun _ _ => rfl
          · exact ss_bad fun _ _ => rfl
        · rename_i x1 q1 x2 q2 x3 q3 a b c
          split
          · rename_i i j l hi hj hl
            split
            · rename_i hc
              obtain ⟨⟨c1, c2, c3⟩, ⟨c4, c5, c6⟩, c7, c8, c9, c10⟩ := hc
              subst c7
              exact ss_par3 F.calm F.xn (by rw [hN]; exact idx_ok hi) (by rw [hN]; exact idx_ok hj) (by rw [hN]; exact idx_ok hl) c1 c2 c3 (by rw [hs]; exact plainLoc_ok c4) (by rw [hs]; exact plainLoc_ok c5) (by rw [hs]; exact plainLoc_ok c6) (sa_cons c8 (he a) (sa_cons c9 (he b) (sa_cons c10 (he c) sa_nil))) (swap_ok (by rw [hs]; exact hsw))
            · exact ss_bad fun _ _ => rfl
          · exact ss_bad fun _ _ => rfl
        · exact ss_bad fun _ _ => rfl
      · exact ss_bad fun _ _ => rfl
    · rename_i hno
      split
      · rename_i hal
        exact ss_asgG (he _) (sg_tup F.calm hal (T.gs X W G adr k N sc F hs hN hf _ hal) fun xs l L h => T.gsL G N sc _ xs l L h) swaptup (by cases v <;> first | rfl | exact absurd rfl (hno _ _ _)) rfl
      · exact ss_bad fun _ _ => rfl
  · exact ss_bad fun _ _ => rfl
theorem trS_ok (T : TrOk P NM t) (F : Fc X NM W P G adr k) (hs : X.env.scope = sc) (hN : X.N = N) (hf : ∀ x, X.fn x = true) (st : Stmt) : SS X NM W st (den P G (trS P NM t N sc st)).s := by
  have he := fun e => T.e X W G adr k N sc F hs hN e
  have hss := fun b => T.ss X W G adr k N sc F hs hN hf b
  unfold trS
  split
  · exact ss_pass
  · exact ss_brk
  · exact ss_cnt
  · exact ss_doc
  · split
    · rename_i hn
      exact ss_expr hn (he _).1
    · exact ss_bad fun _ _ => rfl
  · rename_i x q0 es q1 q2
    split
    · rename_i hc
      rw [Bool.and_eq_true] at hc
      have hgl := glb_ok hs hc.1
      have hd := badNm_ok (x := x) (by simpa using hc.2)
      split
      · rename_i g hi
        obtain ⟨e1, e2⟩ := idx_nm hi
        subst e1
        split
        · rename_i i he2
          split
          · rename_i ha
            exact ss_rse F he2 (T.es X W G adr k N sc F hs hN es).1 ha (fun e => by rw [e]; exact T.es0 N sc) hgl hd.1
          · exact ss_bad fun _ _ => rfl
        · exact ss_bad fun _ _ => rfl
      · exact ss_bad fun _ _ => rfl
    · exact ss_bad fun _ _ => rfl
  · exact ss_ret (he _).1
  · exact ss_retN
  · exact ss_if (he _).2 (hss _) (hss _)
  · exact ss_whl F (he _).2 (hss _)
  · split
    · rename_i hn
      exact ss_for F (T.i X W G adr k N sc F hs hN _ _) (T.g X W G adr k N sc F hs hN hf _) (hss _) hn
    · exact ss_bad fun _ _ => rfl
  · exact trAsg_ok T F hs hN hf _ _ _
  · split
    · rename_i o ho
      split
      · rename_i hl
        split
        · rename_i i hi
          exact ss_aug ho F.xn (by rw [hN]; exact idx_ok hi) (by rw [hs]; exact loc_ok hl) (.inl (hf _)) (he _).1
        · exact ss_bad fun _ _ => rfl
      · exact ss_bad fun _ _ => rfl
    · exact ss_bad fun _ _ => rfl
  · split
    · rename_i b hb
      split
      · rename_i hp
        exact ss_augx hb hp (he _).1 (he _).1 (he _).1
      · exact ss_bad fun _ _ => rfl
    · exact ss_bad fun _ _ => rfl
  · exact ss_bad fun _ _ => rfl
end
end PM

set_option Elab.async false
set_option linter.all false
set_option autoImplicit false
set_option maxHeartbeats 2000000
/-! # PM25: the translator is sound -/
namespace PM
open PySem PySem.Spec PyProof.Rows
open L2 hiding St
theorem noX_bad {α β : Type} (r : R α) : noX (r.bind fun _ _ => (.bad : R β)) = .bad := by cases r <;> rfl
theorem noX_bad' {α β : Type} {r : R α} {kk : α → LH → R β} (h : ∀ a L, kk a L = .bad) : noX (r.bind kk) = .bad := by
  cases r with
  | ok a L => show noX (kk a L) = _; rw [h]; rfl
  | exc _ _ => rfl
  | bad => rfl
theorem trS_step {P : PM.Prog} {NM : List Str} {n : Nat} (T : TrOk P NM (tr P NM n)) : TrOk P NM (tr P NM (n + 1)) where
  e := fun X W G adr k N sc F hs hN e => trE_ok T F hs hN e
  es := fun X W G adr k N sc F hs hN es => by
    cases es with
    | nil => exact ⟨sa_nil, fun pos => sw_and_nil, fun pos => sw_or_nil, fun pos => se_bad fun _ _ => rfl, fun pos => se_bad fun _ _ => rfl, sj_nil⟩
    | cons e es =>
      have h1 := T.e X W G adr k N sc F hs hN
      obtain ⟨r1, r2, r3, r4, r5, r6⟩ := T.es X W G adr k N sc F hs hN es
      by_cases hst : notStar e = true
      · have eq : (tr P NM (n + 1)).es N sc (e :: es) = .cons ((tr P NM n).e N sc e) ((tr P NM n).es N sc es) := by cases e <;> first | rfl | cases hst
        rw [eq]
        refine ⟨sa_cons hst (h1 e).1 r1, fun pos => sw_and_cons (h1 e).2 (r2 pos), fun pos => sw_or_cons (h1 e).2 (r3 pos), fun pos => ?_, fun pos => ?_, sj_cons (h1 e).1 r6⟩
        · cases es with
          | nil =>
            rw [T.es0]
            have : (den P G (.cons ((tr P NM n).e N sc e) .nil)).an = (den P G ((tr P NM n).e N sc e)).e := rfl
            rw [this]
            exact se_one (h1 e).1
          | cons b es => exact se_and (tru_all F) (T.esN G N sc (b :: es) (by simp)) (h1 e).1 (r4 pos)
        · cases es with
          | nil =>
            rw [T.es0]
            have : (den P G (.cons ((tr P NM n).e N sc e) .nil)).orr = (den P G ((tr P NM n).e N sc e)).e := rfl
            rw [this]
            exact se_one (h1 e).1
          | cons b es => exact se_or (tru_all F) (T.esN G N sc (b :: es) (by simp)) (h1 e).1 (r5 pos)
      · cases e <;> first | exact absurd rfl hst | skip
        rename_i v p
        exact ⟨sa_star (h1 v).1 r1, fun pos => sw_bad fun _ _ => rfl, fun pos => sw_bad fun _ _ => rfl, fun pos => se_bad fun _ _ => rfl, fun pos => se_bad fun _ _ => rfl, sj_bad (by simp) fun _ _ _ => rfl⟩
  esN := fun G N sc es h => by
    cases es with
    | nil => exact absurd rfl h
    | cons e es => cases e <;> rfl
  es0 := fun _ _ => rfl
  ks0 := fun _ _ => rfl
  esS := fun N sc e p => .inr ⟨(tr P NM n).e N sc e, by
    show E.star _ ((tr P NM n).es N sc []) = _
    rw [T.es0], fun X W G adr k F hs hN => (T.e X W G adr k N sc F hs hN e).1⟩
  ks := fun X W G adr k N sc F hs hN ks => by
    cases ks with
    | nil => exact sk_nil
    | cons q r =>
      obtain ⟨x, e, p⟩ := q
      exact sk_cons (T.e X W G adr k N sc F hs hN e).1 (T.ks X W G adr k N sc F hs hN r)
  i := fun X W G adr k N sc F hs hN tg e => trI_ok T F hs hN tg e
  gw := fun X G adr k N scope vs F hl hN e => trGw_ok T F hl hN e
  gsw := fun X G adr k N scope vs F hl hN es hal => by
    cases es with
    | nil => exact sgsw_nil
    | cons e es =>
      rw [List.all_cons, Bool.and_eq_true] at hal
      exact sgsw_cons hal.1 (T.gw X G adr k N scope vs F hl hN e) (T.gsw X G adr k N scope vs F hl hN es hal.2)
  gswL := fun G N scope vs es xs l L h => by
    cases es with
    | nil =>
      cases xs with
      | nil => exact absurd rfl h
      | cons x xs => rfl
    | cons e es =>
      cases xs with
      | nil => rfl
      | cons x xs => exact noX_bad' fun a L => T.gswL G N scope vs es xs a L (by simpa using h)
  g := fun X W G adr k N sc F hs hN hf e => trG_ok T F hs hN hf e
  gs := fun X W G adr k N sc F hs hN hf es hal => by
    cases es with
    | nil => exact sgs_nil
    | cons e es =>
      rw [List.all_cons, Bool.and_eq_true] at hal
      exact sgs_cons hal.1 (T.g X W G adr k N sc F hs hN hf e) (T.gs X W G adr k N sc F hs hN hf es hal.2)
  gsL := fun G N sc es xs l L h => by
    cases es with
    | nil =>
      cases xs with
      | nil => exact absurd rfl h
      | cons x xs => rfl
    | cons e es =>
      cases xs with
      | nil => rfl
      | cons x xs => exact noX_bad' fun a L => T.gsL G N sc es xs a L (by simpa using h)
  s := fun X W G adr k N sc F hs hN hf st => trS_ok T F hs hN hf st
  ss := fun X W G adr k N sc F hs hN hf st => by
    cases st with
    | nil => exact sss_nil
    | cons e es => exact sss_cons (T.s X W G adr k N sc F hs hN hf e) (T.ss X W G adr k N sc F hs hN hf es)
theorem tr_ok (P : PM.Prog) (NM : List Str) : ∀ n, TrOk P NM (tr P NM n)
  | 0 => tr0_ok P NM
  | n + 1 => trS_step (tr_ok P NM n)
/-- a def's body in E -/
theorem body_ok (P : PM.Prog) (NM : List Str) (n : Nat) (N : List Str) (scope : Scope) (body : List Stmt) : BodyOk NM P N scope body ((tr P NM n).ss N scope body) :=
  fun X W G adr k F hs hN hf => (tr_ok P NM n).ss X W G adr k N scope F hs hN hf body
end PM

set_option Elab.async false
set_option linter.all false
set_option autoImplicit false
set_option maxHeartbeats 2000000
/-! # PM26: the head: the classes' and functions' facts by a Bool, the law's end -/
namespace PM
open PySem PySem.Spec PyProof.Rows
open L2 hiding St
/-- a def as the text has it -/
structure DefP where
  key : Nat × Nat
  name : Str
  qual : Str
  params : Arguments
  body : List Stmt
  scope : Scope
  N : List Str
/-- an own error's __init__: its def, the base's id, self, the field and its parameter -/
structure ErrP where
  d : DefP
  b : Nat
  s : Str
  fl : Option (Str × Str)
/-- the def that catches, the def that reads the field -/
structure WhyP where
  w : DefP
  f : DefP
  a : Str
  en : Str
  e2 : Str
  c1 : Nat
  c2 : Nat
  c3 : Nat
/-- the program as tables -/
structure PL where
  fns : List ((Nat × Nat) × Fn)
  mems : List ((Nat × Nat) × MK)
  clss : List Nat
  mros : List (Nat × List Nat)
  glbs : List Nat
  cons : List (Nat × LV)
  loops : Nat
  fzcs : List Nat := []
  mus : List (Nat × Nat) := []
  errs : List (Nat × (List Nat × Option Nat)) := []
  errp : List ErrP := []
  whyp : List WhyP := []
  lams : List (Nat × List (Str × NameKind)) := []
def PL.xs (p : PL) : List DefP := p.errp.map (·.d) ++ p.whyp.flatMap (fun w => [w.w, w.f])
def find2 {α : Type} : List ((Nat × Nat) × α) → Nat → Nat → Option α
  | [], _, _ => none
  | ((a, b), x) :: r, c, m => if a = c ∧ b = m then some x else find2 r c m
def find1 {α : Type} : List (Nat × α) → Nat → Option α
  | [], _ => none
  | (a, x) :: r, c => if a = c then some x else find1 r c
def PL.prog (p : PL) : PM.Prog where
  fn := find2 p.fns
  mro := fun c => (find1 p.mros c).getD []
  mem := find2 p.mems
  isCls := fun c => p.clss.contains c
  glb := fun c => p.glbs.contains c
  isExc := fun _ => false
  con := find1 p.cons
  loops := p.loops
  fzc := fun c => p.fzcs.contains c
  mu := fun l c => p.mus.contains (l, c)
  err := find1 p.errs
  why := p.whyp.head?.map (·.w.key.2)
  lams := p.lams
theorem find2_mem {α : Type} : ∀ {l : List ((Nat × Nat) × α)} {c m : Nat} {x : α}, find2 l c m = some x → ((c, m), x) ∈ l
  | [], _, _, _, h => by cases h
  | ((a, b), y) :: r, c, m, x, h => by
    unfold find2 at h
    split at h
    · rename_i e
      cases h
      rw [e.1, e.2]
      exact List.mem_cons_self ..
    · exact List.mem_cons_of_mem _ (find2_mem h)
theorem find1_mem {α : Type} : ∀ {l : List (Nat × α)} {c : Nat} {x : α}, find1 l c = some x → (c, x) ∈ l
  | [], _, _, h => by cases h
  | (a, y) :: r, c, x, h => by
    unfold find1 at h
    split at h
    · rename_i e
      cases h
      rw [e]
      exact List.mem_cons_self ..
    · exact List.mem_cons_of_mem _ (find1_mem h)
/-! ### where the functions stand -/
theorem ba0 {a b : Bool} (h : (a && b) = true) : a = true ∧ b = true := Bool.and_eq_true_iff.mp h
def adrOf (K : PySem.W.Frag) (a : Addr) : Addr := match K.lookup a with
  | some ⟨_, _, .func _, _⟩ => a
  | _ => match PySem.W.recIn K a "property" with
    | some (.ref g :: _) => g
    | _ => 0
def adrT (K : PySem.W.Frag) (NM : List Str) (c m : Nat) : Addr := if c = 0 then gad K NM m else adrOf K (He.ma K (gad K NM c) (nm NM m))
def fnWa (K : PySem.W.Frag) (a : Addr) : He.FnW := match K.lookup a with
  | some ⟨_, _, .func fd, _⟩ => some (fd.name, fd.qualname, fd.params, fd.body, fd.scope, fd.globals, fd.closure, fd.builtins)
  | _ => none
/-- a default against what the text says -/
def etupB (K : PySem.W.Frag) (p : Addr) : Bool := match K.lookup p with
  | some ⟨.type c, _, .seq its _, _⟩ => decide (c = "tuple") && its.isEmpty
  | _ => false
theorem etupB_ok {K : PySem.W.Frag} {p : Addr} (h : etupB K p = true) (H : Hp) : SqT K H p [] := by
  unfold etupB at h
  split at h
  · rename_i q
    obtain ⟨h1, h2⟩ := ba0 h
    rw [of_decide_eq_true h1] at q
    have := Array.isEmpty_iff.mp h2
    subst this
    exact .inr ⟨_, _, _, q, rfl, rfl, by simp, .nil⟩
  · cases h
def dvB (K : PySem.W.Frag) : List LV → List V → Bool
  | [], [] => true
  | x :: xs, v :: vs => (match x, v with
    | .non, .non => true
    | .bl a, .bl b => decide (b = a)
    | .int i, .int j => decide (j = i)
    | .str s, .str z => decide (z = ⟨s.toArray⟩)
    | .tup [], .ref p => etupB K p
    | _, _ => false) && dvB K xs vs
  | _, _ => false
theorem dvB_ok {K : PySem.W.Frag} {NM : List Str} {f : Inj} {H : Hp} : ∀ {xs : List LV} {vs : List V}, dvB K xs vs = true → VRs K NM f H xs vs
  | [], [], _ => VRs.nil
  | [], _ :: _, h => by cases h
  | _ :: _, [], h => by cases h
  | x :: xs, v :: vs, h => by
    obtain ⟨h1, h2⟩ := ba0 h
    refine VRs.cons ?_ (dvB_ok h2)
    split at h1
    · rfl
    · rw [of_decide_eq_true h1]; rfl
    · rw [of_decide_eq_true h1]; rfl
    · rw [of_decide_eq_true h1]; rfl
    · exact ⟨_, [], rfl, etupB_ok h1 H, VRs.nil⟩
    · cases h1
/-- the defaults that stand there -/
def valV : Value → V
  | .bool b => .bl b
  | .int i _ => .int i
  | .str s _ => .str s
  | .ref p => .ref p
  | _ => .non
def dvsK (K : PySem.W.Frag) (a : Addr) : List V := match K.lookup a with
  | some ⟨_, _, .func fd, _⟩ => (match fd.defaults with
    | .ref T => (match K.lookup T with
      | some ⟨_, _, .seq its _, _⟩ => its.toList.map valV
      | _ => [])
    | _ => [])
  | _ => []
def DefP.val (d : DefP) : He.FnW := some (d.name, d.qual, d.params, .stmts d.body, d.scope, mainGlobals, [], builtinsNs)
def DefP.ok (K : PySem.W.Frag) (NM : List Str) (dvs : List V) (d : DefP) : Bool := PySem.W.keepIn K (.ref (adrT K NM d.key.1 d.key.2)) && (match K.lookup (adrT K NM d.key.1 d.key.2) with
  | some ⟨_, _, .func fd, _⟩ => PySem.W.codeIn K fd.code d.qual && He.dflB K fd.defaults dvs
  | _ => false)
theorem ba {a b : Bool} (h : (a && b) = true) : a = true ∧ b = true := Bool.and_eq_true_iff.mp h
theorem ba2 {a b c : Bool} (h : (a && b && c) = true) : a = true ∧ (b && c) = true := by
  obtain ⟨h1, h2⟩ := ba h
  obtain ⟨h3, h4⟩ := ba h1
  exact ⟨h3, by rw [h4, h2]; rfl⟩
theorem DefP.funD {K : PySem.W.Frag} {NM : List Str} {d : DefP} {dvs : List V} (e : fnWa K (adrT K NM d.key.1 d.key.2) = d.val) (c : d.ok K NM dvs = true) : ∃ fd, FunD K d.name d.qual d.params d.body d.scope dvs [] (adrT K NM d.key.1 d.key.2) fd := by
  obtain ⟨kp, c2⟩ := ba c
  unfold fnWa at e
  cases q : K.lookup (adrT K NM d.key.1 d.key.2) with
  | none =>
    rw [q] at c2
    cases c2
  | some o =>
    obtain ⟨oc, od, dt, osl⟩ := o
    rw [q] at c2 e
    cases dt with
    | func fd =>
      obtain ⟨n1, n2, n3, n4, n5, n6, n7, n8, n9, n10, n11, n12, n13, n14, n15⟩ := fd
      have e2 : (some (n1, n2, n3, n4, n5, n6, n7, n15) : He.FnW) = some (d.name, d.qual, d.params, .stmts d.body, d.scope, mainGlobals, [], builtinsNs) := e
      simp only [Option.some.injEq, Prod.mk.injEq] at e2
      obtain ⟨h1, h2, h3, h4, h5, h6, h7, h8⟩ := e2
      subst h1 h2 h3 h4 h5 h6 h7 h8
      have c3 : (PySem.W.codeIn K n13 d.qual && He.dflB K n8 dvs) = true := c2
      obtain ⟨k1, k3⟩ := ba c3
      exact ⟨_, ⟨oc, od, n8, n9, n10, n11, n12, n13, n14, osl, rfl, q, k1, He.dflB_ok k3, .inl rfl⟩, kp⟩
    | _ => cases c2
/-! ### the static part of a def -/
def scB (N ps : List Str) (sc : Scope) : Bool :=
  (match sc.kind with | .function => true | _ => false) && (!sc.isCoroutine && (!sc.isGenerator && (decide N.Nodup && (decide (N.take ps.length = ps) && (ps.all (fun x => isLoc sc x) && sc.names.all fun y => match y.2 with | .free => false | _ => true)))))
theorem scB_ok {N ps : List Str} {sc : Scope} (h : scB N ps sc = true) : FnScope N ps sc := by
  unfold scB at h
  obtain ⟨h1, h⟩ := ba h
  obtain ⟨h2, h⟩ := ba h
  obtain ⟨h3, h⟩ := ba h
  obtain ⟨h4, h⟩ := ba h
  obtain ⟨h5, h⟩ := ba h
  obtain ⟨h6, h7⟩ := ba h
  refine ⟨?_, by simpa using h2, by simpa using h3, of_decide_eq_true h4, of_decide_eq_true h5, fun x hx => ?_, fun y hy e => ?_⟩
  · split at h1
    · assumption
    · cases h1
  · exact loc_ok (List.all_eq_true.mp h6 x hx)
  · have := List.all_eq_true.mp h7 y hy
    rw [e] at this
    cases this
def lmB (NM : List Str) (ls : List (Nat × List (Str × NameKind))) (d : DefP) : Bool := ls.all fun e => if d.scope.names = e.2 then decide (d.key = (0, e.1)) && decide (d.qual = nm NM e.1) else true
def DefP.st (NM : List Str) (ls : List (Nat × List (Str × NameKind))) (f : Fn) (d : DefP) : Bool :=
  lmB NM ls d && scB d.N (if f.sig.star then f.sig.ps.map (nm NM) ++ [(d.params.vararg.map (·.arg)).getD Str.empty] else f.sig.ps.map (nm NM)) d.scope &&
  (d.params.posonlyargs.isEmpty && (d.params.kwonlyargs.isEmpty && (d.params.kwarg.isNone && (decide (d.params.vararg.isSome = f.sig.star) && (decide (d.params.args.map (·.arg) = f.sig.ps.map (nm NM)) && (f.sig.ps.all (fun i => decide (i < NM.length)) && decide (f.slots = d.N.length)))))))
theorem fnT_of {K : PySem.W.Frag} {NM : List Str} {P : PM.Prog} {d : DefP} {f : Fn} {dvs : List V} {n : Nat} (e : fnWa K (adrT K NM d.key.1 d.key.2) = d.val) (c : d.ok K NM dvs = true) (hs : d.st NM P.lams f = true) (hd : ∀ j H, VRs K NM j H f.sig.ds dvs) (hb : f.body = (tr P NM n).ss d.N d.scope d.body) :
    FnT K NM P (adrT K NM d.key.1 d.key.2) f d.N d.name d.qual d.params d.body d.scope dvs := by
  unfold DefP.st at hs
  obtain ⟨h0, hs⟩ := ba2 hs
  obtain ⟨h1, hs⟩ := ba hs
  obtain ⟨h2, hs⟩ := ba hs
  obtain ⟨h3, hs⟩ := ba hs
  obtain ⟨h4, hs⟩ := ba hs
  obtain ⟨h5, hs⟩ := ba hs
  obtain ⟨h6, hs⟩ := ba hs
  obtain ⟨h7, h8⟩ := ba hs
  exact ⟨DefP.funD e c, scB_ok h1, by simpa using h2, by simpa using h3, by simpa using h4, of_decide_eq_true h5, of_decide_eq_true h6, fun i hi => of_decide_eq_true (List.all_eq_true.mp h7 i hi), hd, of_decide_eq_true h8, by rw [hb]; exact body_ok P NM n d.N d.scope d.body, fun e he hsc => by
    have z := List.all_eq_true.mp h0 e he
    rw [if_pos hsc] at z
    obtain ⟨z1, z2⟩ := ba z
    have k := of_decide_eq_true z1
    refine ⟨of_decide_eq_true z2, ?_⟩
    rw [k]
    exact if_pos rfl⟩
/-! ### the own errors -/
def oexB (K : PySem.W.Frag) (C : Addr) : Bool := (match K.lookup C with
  | some ⟨.type ty, _, .cls cd, sl⟩ => (match cd.mro, sl.toList with
    | .ref D :: ms, [_, _, _, _, some (.builtin nw), _] => decide (ty = "type") && (decide (D = C) && (decide (nw = "ValueError.__new__") && (cd.hasDict && (!cd.hasDel && PySem.HandSPX.refsVE ms))))
    | _, _ => false)
  | _ => false) && (He.eqO (PySem.W.findIn K (.ref C) "__setattr__") (some (some (.builtin "object.__setattr__"))) && (decide (PySem.W.subIn K (.ref C) (.type "BaseException") = some true) && (decide (PySem.W.typeIn K (.ref C) = some (.type "type")) && PySem.W.keepIn K (.ref C))))
theorem oexB_ok {K : PySem.W.Frag} {C : Addr} (h : oexB K C = true) : OexC K C := by
  unfold oexB at h
  obtain ⟨h1, h⟩ := ba h
  obtain ⟨h2, h⟩ := ba h
  obtain ⟨h3, h⟩ := ba h
  obtain ⟨h4, h5⟩ := ba h
  refine ⟨?_, He.eqO_ok h2, of_decide_eq_true h3, of_decide_eq_true h4, h5⟩
  split at h1
  · rename_i ty od cd sl q
    split at h1
    · rename_i D ms w0 w1 w2 w3 nw w5 qm qs
      obtain ⟨z1, z⟩ := ba h1
      obtain ⟨z2, z⟩ := ba z
      obtain ⟨z3, z⟩ := ba z
      obtain ⟨z4, z⟩ := ba z
      obtain ⟨z5, z6⟩ := ba z
      obtain ⟨xn, xb, xm, xs, xq, xh, xo, xu, xa, xl, xd⟩ := cd
      have qm : xm = .ref D :: ms := qm
      have y4 : xh = true := z4
      have y5 : xd = false := by simpa using z5
      have y1 := of_decide_eq_true z1
      have y2 := of_decide_eq_true z2
      have y3 := of_decide_eq_true z3
      have qs : sl = #[w0, w1, w2, w3, some (.builtin nw), w5] := Array.ext' qs
      subst qm y4 y5 y1 y2 y3 qs
      exact ⟨xn, xq, xs, xb, ms, xo, xu, xa, xl, od, w0, w1, w2, w3, w5, q, z6⟩
    · cases h1
  · cases h1
def noDbg (y : Str) : Bool := !(y == ("__debug__" : Str)) && !(y == ("__classdict__" : Str))
theorem noDbg_ok {y : Str} (h : noDbg y = true) : (y == ("__debug__" : Str)) = false ∧ (y == ("__classdict__" : Str)) = false := by
  obtain ⟨h1, h2⟩ := ba h
  exact ⟨by simpa using h1, by simpa using h2⟩
/-- the plain parameters of a def -/
def parB (ps : List Str) (d : DefP) : Bool := scB d.N ps d.scope && (d.params.posonlyargs.isEmpty && (d.params.kwonlyargs.isEmpty && (d.params.kwarg.isNone && (d.params.vararg.isNone && decide (d.params.args.map (·.arg) = ps)))))
theorem parB_ok {ps : List Str} {d : DefP} (h : parB ps d = true) : FnScope d.N ps d.scope ∧ d.params.posonlyargs = [] ∧ d.params.kwonlyargs = [] ∧ d.params.kwarg = none ∧ d.params.vararg = none ∧ d.params.args.map (·.arg) = ps := by
  obtain ⟨h1, h⟩ := ba h
  obtain ⟨h2, h⟩ := ba h
  obtain ⟨h3, h⟩ := ba h
  obtain ⟨h4, h⟩ := ba h
  obtain ⟨h5, h6⟩ := ba h
  exact ⟨scB_ok h1, by simpa using h2, by simpa using h3, by simpa using h4, by simpa using h5, of_decide_eq_true h6⟩
def errSt (NM : List Str) (p : PL) (q : Nat × (List Nat × Option Nat)) (e : ErrP) : Bool :=
  decide (e.d.key = (q.1, kInit)) && (parB (e.s :: (e.fl.map (·.2)).toList) e.d && (decide (errShape e.d.body = some (nm NM e.b, e.s, ⟨q.2.1.toArray⟩, e.fl)) && (decide (e.fl.map (·.1) = q.2.2.map (nm NM)) && (p.glbs.contains e.b && (decide (e.d.scope.names.lookup (nm NM e.b) = some .globalImplicit) &&
  ((e.s :: (e.fl.map (·.2)).toList).all noDbg && (noDbg (nm NM e.b) && (decide (kCode < NM.length) && ((match q.2.2 with
    | none => true
    | some f => decide (f < NM.length) && decide (f ≠ kCode)) && p.glbs.contains q.1)))))))))
def cfB (x : Option PySem.W.CFound) : Bool := match x with
  | some (.val (.builtin s)) => decide (s = "ValueError.__init__")
  | _ => false
theorem cfB_ok {x : Option PySem.W.CFound} (h : cfB x = true) : x = some (.val (.builtin "ValueError.__init__")) := by
  unfold cfB at h
  split at h
  · rw [of_decide_eq_true h]
  · cases h
def errK (K : PySem.W.Frag) (NM : List Str) (q : Nat × (List Nat × Option Nat)) (e : ErrP) : Bool :=
  xfB K (gad K NM q.1) && (oexB K (gad K NM q.1) && (He.eqO (PySem.W.findIn K (.ref (gad K NM q.1)) (nm NM kCode)) (some none) && ((match q.2.2 with
    | none => true
    | some f => He.eqO (PySem.W.findIn K (.ref (gad K NM q.1)) (nm NM f)) (some none)) && (He.eqO (PySem.W.findIn K (.ref (gad K NM q.1)) "__init__") (some (some (.ref (adrT K NM q.1 kInit)))) && (decide (PySem.W.typeIn K (.ref (adrT K NM q.1 kInit)) = some (.type "function")) &&
  (PySem.W.readsIn K (gad K NM e.b) (.type "type") && (He.eqO (PySem.W.specialIn K (.ref (gad K NM e.b)) "__getattribute__") (some (some (.builtin "type.__getattribute__"))) && cfB (PySem.W.findCls K (.ref (gad K NM e.b)) (.type "type") "__init__"))))))))
theorem errF_of {K : PySem.W.Frag} {NM : List Str} {p : PL} {q : Nat × (List Nat × Option Nat)} {e : ErrP} (hf : fnWa K (adrT K NM e.d.key.1 e.d.key.2) = e.d.val) (c : e.d.ok K NM [] = true) (s : errSt NM p q e = true) (k : errK K NM q e = true) : ErrF K NM p.prog q.1 q.2 := by
  obtain ⟨fd, F⟩ := DefP.funD hf c
  unfold errSt at s
  obtain ⟨s1, s⟩ := ba s
  obtain ⟨s2, s⟩ := ba s
  obtain ⟨s3, s⟩ := ba s
  obtain ⟨s4, s⟩ := ba s
  obtain ⟨s5, s⟩ := ba s
  obtain ⟨s6, s⟩ := ba s
  obtain ⟨s7, s⟩ := ba s
  obtain ⟨s8, s⟩ := ba s
  obtain ⟨s9, s⟩ := ba s
  obtain ⟨s10, s11⟩ := ba s
  unfold errK at k
  obtain ⟨k1, k⟩ := ba k
  obtain ⟨k2, k⟩ := ba k
  obtain ⟨k3, k⟩ := ba k
  obtain ⟨k4, k⟩ := ba k
  obtain ⟨k5, k⟩ := ba k
  obtain ⟨k6, k⟩ := ba k
  obtain ⟨k7, k⟩ := ba k
  obtain ⟨k8, k9⟩ := ba k
  obtain ⟨p1, p2, p3, p4, p5, p6⟩ := parB_ok s2
  have ky := of_decide_eq_true s1
  rw [ky] at F
  refine ⟨xfB_ok k1, oexB_ok k2, ⟨He.eqO_ok k3, of_decide_eq_true s9⟩, fun f hf => ?_, ⟨_, He.eqO_ok k5, of_decide_eq_true k6, ⟨fd, e.d.name, e.d.qual, e.d.params, e.d.body, e.d.scope, e.d.N, e.b, e.s, e.fl, F, p1, p2, p3, p4, p5, p6, of_decide_eq_true s3, of_decide_eq_true s4, s5, of_decide_eq_true s6,
    fun y hy => noDbg_ok (List.all_eq_true.mp s7 y hy), (noDbg_ok s8).1, k7, He.eqO_ok k8, cfB_ok k9⟩⟩, s11⟩
  rw [hf] at s10 k4
  obtain ⟨a1, a2⟩ := ba s10
  exact ⟨He.eqO_ok k4, of_decide_eq_true a1, of_decide_eq_true a2⟩
/-! ### the def that catches -/
def whySt (NM : List Str) (p : PL) (y : WhyP) : Bool :=
  decide (y.w.key.1 = 0) && (decide (y.f.key.1 = 0) && (decide (y.w.name = nm NM y.w.key.2) && (decide (y.w.qual = nm NM y.w.key.2) && (decide (y.f.name = nm NM y.f.key.2) && (decide (y.f.qual = nm NM y.f.key.2) && (parB [y.a] y.w && (parB [y.e2] y.f &&
  (decide (whyShape y.w.body = some (y.a, nm NM y.c1, nm NM y.c2, nm NM y.c3, y.en, nm NM y.f.key.2)) && (decide (y.w.N[1]? = some y.en) && (decide (y.w.scope.names.lookup y.en = some .local) && ([y.a, y.en, y.e2, nm NM y.c1, nm NM y.c2, nm NM y.c3, nm NM y.f.key.2, nm NM y.w.key.2].all noDbg &&
  ([y.c1, y.c2, y.c3, y.f.key.2].all (fun g => p.glbs.contains g && decide (y.w.scope.names.lookup (nm NM g) = some .globalImplicit)) && (p.glbs.contains y.w.key.2 && p.errs.all fun q => decide (fieldOf y.e2 ⟨q.2.1.toArray⟩ y.f.body = some (q.2.2.map (nm NM))) && SeqAt.shaped (.str ⟨q.2.1.toArray⟩))))))))))))))
def whyK (K : PySem.W.Frag) (NM : List Str) (p : PL) (y : WhyP) : Bool := p.errs.all fun q => decide (PySem.W.exmAny K (.ref (gad K NM q.1)) [.ref (gad K NM y.c1), .ref (gad K NM y.c2), .ref (gad K NM y.c3)] = some true)
theorem whyF_of {K : PySem.W.Frag} {NM : List Str} {p : PL} {y : WhyP} (hw : fnWa K (adrT K NM y.w.key.1 y.w.key.2) = y.w.val) (cw : y.w.ok K NM [] = true) (hf : fnWa K (adrT K NM y.f.key.1 y.f.key.2) = y.f.val) (cf : y.f.ok K NM [] = true) (s : whySt NM p y = true) (k : whyK K NM p y = true) : WhyF K NM p.prog y.w.key.2 := by
  obtain ⟨fd, F⟩ := DefP.funD hw cw
  obtain ⟨fd2, F2⟩ := DefP.funD hf cf
  unfold whySt at s
  obtain ⟨s1, s⟩ := ba s
  obtain ⟨s2, s⟩ := ba s
  obtain ⟨s3, s⟩ := ba s
  obtain ⟨s4, s⟩ := ba s
  obtain ⟨s5, s⟩ := ba s
  obtain ⟨s6, s⟩ := ba s
  obtain ⟨s7, s⟩ := ba s
  obtain ⟨s8, s⟩ := ba s
  obtain ⟨s9, s⟩ := ba s
  obtain ⟨s10, s⟩ := ba s
  obtain ⟨s11, s⟩ := ba s
  obtain ⟨s12, s⟩ := ba s
  obtain ⟨s13, s⟩ := ba s
  obtain ⟨s14, s15⟩ := ba s
  obtain ⟨p1, p2, p3, p4, p5, p6⟩ := parB_ok s7
  obtain ⟨r1, r2, r3, r4, r5, r6⟩ := parB_ok s8
  have ew : adrT K NM y.w.key.1 y.w.key.2 = gad K NM y.w.key.2 := if_pos (of_decide_eq_true s1)
  have ef : adrT K NM y.f.key.1 y.f.key.2 = gad K NM y.f.key.2 := if_pos (of_decide_eq_true s2)
  rw [ew, of_decide_eq_true s3, of_decide_eq_true s4] at F
  rw [ef, of_decide_eq_true s5, of_decide_eq_true s6] at F2
  refine ⟨fd, fd2, y.w.params, y.f.params, y.w.body, y.f.body, y.w.scope, y.f.scope, y.w.N, y.f.N, y.a, y.en, y.e2, y.c1, y.c2, y.c3, y.f.key.2, F, p1, p2, p3, p4, p5, p6, of_decide_eq_true s9, of_decide_eq_true s10, of_decide_eq_true s11, fun z hz => noDbg_ok (List.all_eq_true.mp s12 z hz), fun g hg => ?_, s14, F2, r1, r2, r3, r4, r5, r6, fun c i e => ?_⟩
  · obtain ⟨a1, a2⟩ := ba (List.all_eq_true.mp s13 g hg)
    exact ⟨a1, of_decide_eq_true a2⟩
  · have m := find1_mem (show find1 p.errs c = some i from e)
    obtain ⟨a1, a2⟩ := ba (List.all_eq_true.mp s15 _ m)
    exact ⟨of_decide_eq_true (List.all_eq_true.mp k _ m), of_decide_eq_true a1, a2⟩
/-! ### the classes -/
def clsB (K : PySem.W.Frag) (C : Addr) : Bool := PySem.W.plainGet K C Str.empty && (PySem.W.hasDictIn K C && (PySem.W.plainOver K C && He.eqO (PySem.W.findIn K (.ref C) "__setattr__") (some (some (.builtin "object.__setattr__")))))
theorem clsB_ok {K : PySem.W.Frag} {C : Addr} (h : clsB K C = true) : Cls K C := by
  unfold clsB at h
  obtain ⟨h1, h⟩ := ba h
  obtain ⟨h2, h⟩ := ba h
  obtain ⟨h3, h4⟩ := ba h
  exact ⟨h1, h2, h3, He.eqO_ok h4⟩
/-- a number in a class -/
def numB (x : LV) (u : Value) : Bool := match x, u with
  | .int i, .int j _ => decide (j = i)
  | _, _ => false
theorem numB_ok {K : PySem.W.Frag} {NM : List Str} {x : LV} {u : Value} (h : numB x u = true) : ∃ w, RelV w u ∧ ∀ f H, VR K NM f H x w := by
  unfold numB at h
  split at h
  · rename_i i j t
    have := of_decide_eq_true h
    subst this
    exact ⟨.int _, ⟨_, rfl⟩, fun _ _ => rfl⟩
  · cases h
def conMB (K : PySem.W.Frag) (C : Addr) (f : Str) (x : LV) : Bool := (match PySem.W.findIn K (.ref C) f with
  | some (some u) => numB x u && He.eqO (PySem.W.specialIn K u "__get__") (some none)
  | _ => false) && (!(PySem.W.copiedNames.contains f) && (PySem.W.readsIn K C (.type "type") && (match PySem.W.findCls K (.ref C) (.type "type") f with
    | some (.val u) => numB x u
    | _ => false)))
theorem conMB_ok {K : PySem.W.Frag} {NM : List Str} {C : Addr} {f : Str} {x : LV} (h : conMB K C f x = true) : (∃ u w, Con K C f w u ∧ ∀ g H, VR K NM g H x w) ∧ ∃ u w, PySem.W.readsIn K C (.type "type") = true ∧ PySem.W.findCls K (.ref C) (.type "type") f = some (.val u) ∧ RelV w u ∧ ∀ g H, VR K NM g H x w := by
  unfold conMB at h
  obtain ⟨h1, h⟩ := ba0 h
  obtain ⟨h2, h⟩ := ba0 h
  obtain ⟨h3, h4⟩ := ba0 h
  constructor
  · split at h1
    · rename_i u e
      obtain ⟨a1, a2⟩ := ba0 h1
      obtain ⟨w, r, v⟩ := numB_ok (K := K) (NM := NM) a1
      exact ⟨u, w, ⟨e, r, He.eqO_ok a2, by simpa using h2⟩, v⟩
    · cases h1
  · split at h4
    · rename_i u e
      obtain ⟨w, r, v⟩ := numB_ok (K := K) (NM := NM) h4
      exact ⟨u, w, h3, e, r, v⟩
    · cases h4
section
variable (K : PySem.W.Frag) (NM : List Str) (p : PL)
def memB : (Nat × Nat) × MK → Bool
  | ((c, m), .meth d) => clsB K (gad K NM c) && (He.eqO (PySem.W.findIn K (.ref (gad K NM c)) (nm NM m)) (some (some (.ref (adrT K NM d m)))) && (PySem.W.isFn K (.ref (adrT K NM d m)) && (PySem.W.keepIn K (.ref (adrT K NM d m)) && (PySem.W.selfFirst K (gad K NM c) && decide (m < NM.length)))))
  | ((c, m), .prop d) => clsB K (gad K NM c) && (He.eqO (PySem.W.findIn K (.ref (gad K NM c)) (nm NM m)) (some (some (.ref (He.ma K (gad K NM c) (nm NM m))))) && (He.eqO (PySem.W.specialIn K (.ref (He.ma K (gad K NM c) (nm NM m))) "__get__") (some (some (.builtin "property.__get__"))) &&
      (decide (PySem.W.takesIn K (.ref (He.ma K (gad K NM c) (nm NM m))) = some true) && (match PySem.W.recIn K (He.ma K (gad K NM c) (nm NM m)) "property" with
        | some (.ref g :: _) => decide (g = adrT K NM d m)
        | _ => false))))
  | ((c, m), .fld) => clsB K (gad K NM c) && (He.eqO (PySem.W.findIn K (.ref (gad K NM c)) (nm NM m)) (some none) && decide (m < NM.length))
  | ((c, m), .const x) => clsB K (gad K NM c) && (conMB K (gad K NM c) (nm NM m) x && decide (m < NM.length))
  | _ => false
def nfB : (Nat × Nat) × MK → Bool
  | ((c, m), .meth _) => if m = kEq then p.clss.all (fun c' => PySem.W.notFirst K (gad K NM c) (.ref (gad K NM c'))) && (["NoneType", "bool", "int", "str", "tuple", "list"].all (fun t => PySem.W.notFirst K (gad K NM c) (.type t)) && (He.eqO (PySem.W.findIn K (.ref (gad K NM c)) "__ne__") (some (some (.builtin "object.__ne__"))) && decide (PySem.W.mroIn K (gad K NM c) (.type "object") = some true))) else true
  | _ => true
def mkB (c : Nat) : Bool := match find2 p.mems c kInit with
  | some (.meth d) => PySem.W.makesIn K (gad K NM c) && (He.eqO (PySem.W.findIn K (.ref (gad K NM c)) "__init__") (some (some (.ref (adrT K NM d kInit)))) && (PySem.W.isFn K (.ref (adrT K NM d kInit)) && PySem.W.keepIn K (.ref (gad K NM c))))
  | _ => true
def sisB (c : Nat) : Bool := clsB K (gad K NM c) && (PySem.W.keepIn K (.ref (gad K NM c)) && (He.eqO (PySem.W.findIn K (.ref (gad K NM c)) "__class__") (some (some (.builtin "object.__class__"))) && (He.eqO (PySem.W.specialIn K (.builtin "object.__class__") "__get__") (some (some (.builtin "getset_descriptor.__get__"))) &&
  (decide (PySem.W.takesIn K (.builtin "object.__class__") = some true) && decide (PySem.W.mroIn K (gad K NM c) (.type "object") = some true)))))
def kitB2 (c : Nat) : Bool := p.clss.all (fun d => decide (PySem.W.kitOne K (.ref (gad K NM c)) (.ref (gad K NM d)) = some (((find1 p.mros c).getD []).contains d))) && (tyNames.all (fun t => decide (PySem.W.kitOne K (.type t) (.ref (gad K NM c)) = some false)) && tyNames.all (fun t => decide (PySem.W.kitOne K (.ref (gad K NM c)) (.type t) = some false)))
def fnB : (Nat × Nat) × Fn → Bool
  | ((c, m), _) => if c = 0 then p.clss.contains m || PySem.W.keepIn K (.ref (gad K NM m)) else true
def sfB : Bool := decide NM.Nodup && (decide (NM.take stdN.length = stdN) && (p.mems.all (memB K NM) && (p.mems.all (nfB K NM p) && (p.clss.all (mkB K NM p) && (p.mems.all (fun q => if q.1.2 = kInit then p.clss.contains q.1.1 else true) && (p.clss.all (sisB K NM) && (p.clss.all (kitB2 K NM p) && p.fns.all (fnB K NM p))))))))
end
theorem sfB_ok {K : PySem.W.Frag} {NM : List Str} {p : PL} (h : sfB K NM p = true) (hE : ∀ c i, p.prog.err c = some i → ErrF K NM p.prog c i) (hW : ∀ w, p.prog.why = some w → WhyF K NM p.prog w) : Sf K NM p.prog (adrT K NM) := by
  unfold sfB at h
  obtain ⟨h1, h⟩ := ba h
  obtain ⟨h2, h⟩ := ba h
  obtain ⟨h3, h⟩ := ba h
  obtain ⟨h4, h⟩ := ba h
  obtain ⟨h5, h⟩ := ba h
  obtain ⟨h6, h⟩ := ba h
  obtain ⟨h7, h⟩ := ba h
  obtain ⟨h8, h9⟩ := ba h
  have h2 : NM.take stdN.length = stdN := of_decide_eq_true h2
  have pre : ∀ i, i < stdN.length → nm NM i = nm stdN i := fun i hi => by
    unfold nm
    have e : (NM.take stdN.length)[i]? = stdN[i]? := by rw [h2]
    rw [List.getElem?_take_of_lt hi] at e
    rw [List.getD_eq_getElem?_getD, List.getD_eq_getElem?_getD, e]
  have mem := fun c m x (e : find2 p.mems c m = some x) => List.all_eq_true.mp h3 _ (find2_mem e)
  have incl : ∀ {c : Nat}, p.prog.isCls c = true → c ∈ p.clss := fun {c} e => by
    have e : p.clss.contains c = true := e
    simpa using e
  refine ⟨of_decide_eq_true h1, pre, fun c m x e => ?_, fun c m d e => ?_, fun c m d e => ?_, fun c m e => ?_, fun c m x e => ?_, fun c c' d e hc => ?_, fun c d e => ?_, fun c d e t ht => ?_, fun c m x hc e => ?_, fun c d hc e => ?_, fun c hc => ?_, fun c x e => ?_, fun c hc => ?_, fun c d hc hd => ?_, fun t ht d hd => ?_, fun t ht c hc => ?_, hE, hW, fun g f hc e => ?_⟩
  · have z := mem c m x e
    cases x with
    | meth d => exact clsB_ok (ba z).1
    | prop d => exact clsB_ok (ba z).1
    | fld => exact clsB_ok (ba z).1
    | const y => exact clsB_ok (ba z).1
    | _ => cases z
  · have z := mem c m _ e
    obtain ⟨_, z⟩ := ba z
    obtain ⟨z1, z⟩ := ba z
    obtain ⟨z2, z⟩ := ba z
    obtain ⟨z3, z⟩ := ba z
    obtain ⟨z4, z5⟩ := ba z
    exact ⟨⟨He.eqO_ok z1, z2, z3⟩, z4, of_decide_eq_true z5⟩
  · have z := mem c m _ e
    obtain ⟨_, z⟩ := ba z
    obtain ⟨z1, z⟩ := ba z
    obtain ⟨z2, z⟩ := ba z
    obtain ⟨z3, z4⟩ := ba z
    refine ⟨_, He.eqO_ok z1, He.eqO_ok z2, of_decide_eq_true z3, ?_⟩
    split at z4
    · rename_i g r q
      have := of_decide_eq_true z4
      subst this
      exact ⟨r, q⟩
    · cases z4
  · have z := mem c m _ e
    obtain ⟨_, z⟩ := ba z
    obtain ⟨z1, z2⟩ := ba z
    exact ⟨He.eqO_ok z1, of_decide_eq_true z2⟩
  · obtain ⟨_, z⟩ := ba (mem c m _ e)
    obtain ⟨z1, z2⟩ := ba z
    obtain ⟨u, w, k1, k2⟩ := (conMB_ok (NM := NM) z1).1
    exact ⟨u, w, k1, k2, of_decide_eq_true z2⟩
  · have z := List.all_eq_true.mp h4 _ (find2_mem e)
    have z : (if kEq = kEq then p.clss.all (fun c' => PySem.W.notFirst K (gad K NM c) (.ref (gad K NM c'))) && (["NoneType", "bool", "int", "str", "tuple", "list"].all (fun t => PySem.W.notFirst K (gad K NM c) (.type t)) && (He.eqO (PySem.W.findIn K (.ref (gad K NM c)) "__ne__") (some (some (.builtin "object.__ne__"))) && decide (PySem.W.mroIn K (gad K NM c) (.type "object") = some true))) else true) = true := z
    rw [if_pos rfl] at z
    exact List.all_eq_true.mp (ba z).1 c' (incl hc)
  · have z := List.all_eq_true.mp h4 _ (find2_mem e)
    have z : (if kEq = kEq then p.clss.all (fun c' => PySem.W.notFirst K (gad K NM c) (.ref (gad K NM c'))) && (["NoneType", "bool", "int", "str", "tuple", "list"].all (fun t => PySem.W.notFirst K (gad K NM c) (.type t)) && (He.eqO (PySem.W.findIn K (.ref (gad K NM c)) "__ne__") (some (some (.builtin "object.__ne__"))) && decide (PySem.W.mroIn K (gad K NM c) (.type "object") = some true))) else true) = true := z
    rw [if_pos rfl] at z
    obtain ⟨z1, z2⟩ := ba (ba (ba z).2).2
    exact ⟨He.eqO_ok z1, of_decide_eq_true z2⟩
  · have z := List.all_eq_true.mp h4 _ (find2_mem e)
    have z : (if kEq = kEq then p.clss.all (fun c' => PySem.W.notFirst K (gad K NM c) (.ref (gad K NM c'))) && (["NoneType", "bool", "int", "str", "tuple", "list"].all (fun t => PySem.W.notFirst K (gad K NM c) (.type t)) && (He.eqO (PySem.W.findIn K (.ref (gad K NM c)) "__ne__") (some (some (.builtin "object.__ne__"))) && decide (PySem.W.mroIn K (gad K NM c) (.type "object") = some true))) else true) = true := z
    rw [if_pos rfl] at z
    exact List.all_eq_true.mp (ba (ba z).2).1 t ht
  · obtain ⟨_, z⟩ := ba (mem c m _ e)
    exact (conMB_ok (NM := NM) (ba z).1).2
  · have z := List.all_eq_true.mp h5 _ (incl hc)
    unfold mkB at z
    rw [show find2 p.mems c kInit = some (.meth d) from e] at z
    dsimp only at z
    obtain ⟨z1, z⟩ := ba z
    obtain ⟨z2, z⟩ := ba z
    obtain ⟨z3, z4⟩ := ba z
    exact ⟨z1, He.eqO_ok z2, z3, z4⟩
  · exact (ba (ba (List.all_eq_true.mp h7 _ (incl hc))).2).1
  · have z := List.all_eq_true.mp h6 _ (find2_mem e)
    have z : (if kInit = kInit then p.clss.contains c else true) = true := z
    rw [if_pos rfl] at z
    exact z
  · obtain ⟨z0, z⟩ := ba (List.all_eq_true.mp h7 _ (incl hc))
    obtain ⟨_, z⟩ := ba z
    obtain ⟨z1, z⟩ := ba z
    obtain ⟨z2, z⟩ := ba z
    obtain ⟨z3, z4⟩ := ba z
    exact ⟨clsB_ok z0, He.eqO_ok z1, He.eqO_ok z2, of_decide_eq_true z3, of_decide_eq_true z4⟩
  · obtain ⟨z1, _⟩ := ba (List.all_eq_true.mp h8 _ (incl hc))
    exact of_decide_eq_true (List.all_eq_true.mp z1 d (incl hd))
  · obtain ⟨_, z⟩ := ba (List.all_eq_true.mp h8 _ (incl hd))
    exact of_decide_eq_true (List.all_eq_true.mp (ba z).1 t ht)
  · obtain ⟨_, z⟩ := ba (List.all_eq_true.mp h8 _ (incl hc))
    exact of_decide_eq_true (List.all_eq_true.mp (ba z).2 t ht)
  · have z := List.all_eq_true.mp h9 _ (find2_mem e)
    have z : (if 0 = 0 then p.clss.contains g || PySem.W.keepIn K (.ref (gad K NM g)) else true) = true := z
    rw [if_pos rfl, Bool.or_eq_true] at z
    refine ⟨z.resolve_left ?_, rfl⟩
    have hc : p.clss.contains g = false := hc
    rw [hc]
    exact Bool.false_ne_true
end PM

set_option Elab.async false
set_option linter.all false
set_option autoImplicit false
set_option maxHeartbeats 2000000
/-! # PM27: the law's end over the tables -/
namespace PM
open PySem PySem.Spec PyProof.Rows
open L2 hiding St
/-- no places; all that changes by places is what nobody reads as it stands -/
def noI : Inj := ⟨fun _ => none, fun _ => False, fun _ _ h => nomatch h⟩
def emptyH : Hp := fun _ => none
theorem sc_of {K : PySem.W.Frag} {H : Hp} {a : Addr} {vs : List V} (hS : SqL K H a vs) : ScL K noI H a vs := by
  rcases hS with (h | h) | h
  · exact .inl ⟨h, fun z => z⟩
  · exact .inr (.inl h)
  · exact .inr (.inr h)
/-! ### the hook -/
def dvsOf (K : PySem.W.Frag) (NM : List Str) (p : PL) (d : DefP) : List V := match find2 p.fns d.key.1 d.key.2 with
  | some _ => dvsK K (adrT K NM d.key.1 d.key.2)
  | none => []
def dsB (K : PySem.W.Frag) (NM : List Str) (p : PL) (d : DefP) : Bool := match find2 p.fns d.key.1 d.key.2 with
  | some f => dvB K f.sig.ds (dvsK K (adrT K NM d.key.1 d.key.2))
  | none => true
def conB (K : PySem.W.Frag) (NM : List Str) (q : Nat × LV) : Bool := match q.2 with
  | .int i => (He.Fa.int (nm NM q.1) i).ok K
  | .str s => (He.Fa.str (nm NM q.1) ⟨s.toArray⟩).ok K
  | _ => false
def okP (p : PL) (NM : List Str) (ds : List DefP) (K : PySem.W.Frag) : Bool :=
  sfB K NM p && (ds.all (fun d => d.ok K NM (dvsOf K NM p d) && dsB K NM p d) && (bltNames.all (fun x => (He.Fa.free x).ok K) && (p.glbs.all (fun g => (He.Fa.glo (nm NM g)).ok K) && (p.cons.all (conB K NM) && ((p.errs.zip p.errp).all (fun q => errK K NM q.1 q.2) && p.whyp.all (whyK K NM p))))))
/-- the tables of the defs that make lambdas: known by their code objects, empty -/
def cTab (K : PySem.W.Frag) (x : Str) : Addr × Addr := (codeOf K (He.ga K x), tabOf K (codeOf K (He.ga K x)))
def tbB (g : Addr → Option Obj) (K : PySem.W.Frag) (NM : List Str) : Bool := (lamNames NM).all fun x => PySem.W.codeHdIn K (cTab K x).1 (cTab K x).2 && ((match g (cTab K x).2 with
  | some o => He.emptyTab o
  | none => false) && (LT K NM).all fun q => if q.1 = (cTab K x).2 then decide (q.2 = lamQ x) else true)
structure TbsK (K : PySem.W.Frag) (NM : List Str) (h : Heap) : Prop where
  hd : ∀ x ∈ lamNames NM, PySem.W.codeHdIn K (cTab K x).1 (cTab K x).2 = true
  out : ∀ x ∈ lamNames NM, K.lookup (cTab K x).2 = none
  empty : ∀ x ∈ lamNames NM, h.get? (cTab K x).2 = some { cls := .none, data := .fields #[] }
  un : ∀ x ∈ lamNames NM, ∀ q ∈ LT K NM, q.1 = (cTab K x).2 → q.2 = lamQ x
theorem tbsK_of {as : List Addr} {h : Heap} {NM : List Str} (e : tbB h.get? (He.frT h.get? as) NM = true) : TbsK (He.frT h.get? as) NM h := by
  have key := fun x hx => ba (List.all_eq_true.mp e x hx)
  have tab : ∀ x ∈ lamNames NM, ∃ o, h.get? (cTab (He.frT h.get? as) x).2 = some o ∧ He.emptyTab o = true := fun x hx => by
    have z := (ba (key x hx).2).1
    split at z
    · exact ⟨_, ‹_›, z⟩
    · cases z
  refine ⟨fun x hx => (key x hx).1, fun x hx => ?_, fun x hx => ?_, fun x hx q hq eq => ?_⟩
  · obtain ⟨o, h1, h2⟩ := tab x hx
    exact He.frT_none h1 h2
  · obtain ⟨o, h1, h2⟩ := tab x hx
    rw [h1, He.emptyTab_eq h2]
  · have z := List.all_eq_true.mp (ba (key x hx).2).2 q hq
    rw [if_pos eq] at z
    exact of_decide_eq_true z
/-- what is looked at: behind the names, and the interpreter's own statics -/
def ats (g : Addr → Option Obj) (n : Nat) : List Addr := He.asD g n ++ [cStatics]
def obsP (p : PL) (NM : List Str) (ds : List DefP) (K : PySem.W.Frag) (tb : Bool) : He.AlD := (okP p NM ds K && tb, ds.map fun d => fnWa K (adrT K NM d.key.1 d.key.2))
def valP (ds : List DefP) : He.AlD := (true, ds.map DefP.val)
structure SaysP (p : PL) (NM : List Str) (ds : List DefP) (K : PySem.W.Frag) (h : Heap) : Prop where
  ok : okP p NM ds K = true
  fn : (ds.map fun d => fnWa K (adrT K NM d.key.1 d.key.2)) = ds.map DefP.val
  tb : TbsK K NM h
def obsPK (p : PL) (NM : List Str) (ds : List DefP) (g : Addr → Option Obj) (K : PySem.W.Frag) : He.AlD := obsP p NM ds K (tbB g K NM)
def obsPG (n : Nat) (p : PL) (NM : List Str) (ds : List DefP) (g : Addr → Option Obj) : He.AlD := obsPK p NM ds g (He.frT g (ats g n))
theorem saysP_of {n : Nat} {p : PL} {NM : List Str} {ds : List DefP} {h : Heap} (e : obsPG n p NM ds h.get? = valP ds) : SaysP p NM ds (He.frT h.get? (ats h.get? n)) h := by
  have e1 : (okP p NM ds (He.frT h.get? (ats h.get? n)) && tbB h.get? (He.frT h.get? (ats h.get? n)) NM) = true := congrArg (fun z : He.AlD => z.1) e
  have e2 : (ds.map fun d => fnWa (He.frT h.get? (ats h.get? n)) (adrT (He.frT h.get? (ats h.get? n)) NM d.key.1 d.key.2)) = ds.map DefP.val := congrArg (fun z : He.AlD => z.2) e
  obtain ⟨a1, a2⟩ := ba e1
  exact ⟨a1, e2, tbsK_of a2⟩
def hookP (n : Nat) (p : PL) (NM : List Str) (ds : List DefP) : PySem.W.Hook where
  α := He.AlD
  obs := fun s => obsPG n p NM ds s.heap.get?
  val := fun _ => valP ds
  says := fun _ h => ∃ K : PySem.W.Frag, K.In h ∧ SaysP p NM ds K h
  of := fun _ _ e => ⟨_, He.frT_in, saysP_of e⟩
  keeps := fun _ _ _ ⟨K, hK, c⟩ k => ⟨K, PySem.W.Frag.In.keeps hK k, ⟨c.ok, c.fn, ⟨c.tb.hd, c.tb.out, fun x hx => k _ _ (c.tb.empty x hx), c.tb.un⟩⟩⟩
theorem obsPG_eq {n : Nat} {p : PL} {NM : List Str} {ds : List DefP} {g : Addr → Option Obj} {s : Shared} (h : ∀ a, g a = s.heap.get? a) : obsPG n p NM ds g = (hookP n p NM ds).obs s := by
  have e : g = s.heap.get? := funext h
  rw [e] <;> rfl
/-! ### the defs against the tables -/
def goodD (p : PL) (NM : List Str) (n : Nat) (q : (Nat × Nat) × Fn) (d : DefP) : Prop :=
  d.key = q.1 ∧ find2 p.fns d.key.1 d.key.2 = some q.2 ∧ d.st NM p.lams q.2 = true ∧ q.2.body = (tr p.prog NM n).ss d.N d.scope d.body
def goodL (p : PL) (NM : List Str) (n : Nat) : List ((Nat × Nat) × Fn) → List DefP → Prop
  | [], [] => True
  | q :: qs, d :: ds => goodD p NM n q d ∧ goodL p NM n qs ds
  | _, _ => False
theorem goodL_mem {p : PL} {NM : List Str} {n : Nat} : ∀ {qs : List ((Nat × Nat) × Fn)} {ds : List DefP}, goodL p NM n qs ds → ∀ q ∈ qs, ∃ d ∈ ds, goodD p NM n q d
  | [], [], _, q, h => by cases h
  | [], _ :: _, h, _, _ => h.elim
  | _ :: _, [], h, _, _ => h.elim
  | q :: qs, d :: ds, ⟨h1, h2⟩, q', h => by
    cases h with
    | head => exact ⟨d, List.mem_cons_self .., h1⟩
    | tail _ h => obtain ⟨d', m, g⟩ := goodL_mem h2 q' h; exact ⟨d', List.mem_cons_of_mem _ m, g⟩
/-- the errors' defs, the defs that catch: what the text alone says -/
def errL (NM : List Str) (p : PL) : List (Nat × (List Nat × Option Nat)) → List ErrP → Bool
  | [], [] => true
  | q :: qs, e :: es => errSt NM p q e && errL NM p qs es
  | _, _ => false
theorem errL_mem {NM : List Str} {p : PL} : ∀ {qs : List (Nat × (List Nat × Option Nat))} {es : List ErrP}, errL NM p qs es = true → ∀ q ∈ qs, ∃ e ∈ es, (q, e) ∈ qs.zip es ∧ errSt NM p q e = true
  | [], [], _, q, h => by cases h
  | [], _ :: _, h, _, _ => by cases h
  | _ :: _, [], h, _, _ => by cases h
  | q :: qs, e :: es, h, q', hq => by
    obtain ⟨h1, h2⟩ := ba h
    cases hq with
    | head => exact ⟨e, List.mem_cons_self .., List.mem_cons_self .., h1⟩
    | tail _ hq => obtain ⟨e', m1, m2, g⟩ := errL_mem h2 q' hq; exact ⟨e', List.mem_cons_of_mem _ m1, List.mem_cons_of_mem _ m2, g⟩
def xsB (NM : List Str) (p : PL) : Bool := errL NM p p.errs p.errp && (p.whyp.all (whySt NM p) && (p.lams.all (fun e => (lamNames NM).contains (nm NM e.1)) && p.xs.all (fun d => (find2 p.fns d.key.1 d.key.2).isNone)))
/-! ### the law's def -/
section
variable {Pr : Program} {w : World} {K : PySem.W.Frag} {mg : Str → Option Value} {base : Heap} {NM : List Str} {P : PM.Prog} {adr : Nat → Nat → Addr} {G : Gam} {k : Nat}
/-- what the entry asks -/
def lawSp (K : PySem.W.Frag) (NM : List Str) (P : PM.Prog) (G : Gam) (f : Fn) (x : Nat) : Sp := fun vs H Q E => vs.length = ([x].map (nm NM)).length ∧ ∃ j L us, RelH K NM j L H ∧ VRs K NM j H us vs ∧ us.length ≤ f.slots ∧ Aft K NM j H (match (den P G f.body).s (us.map some ++ List.replicate (f.slots - us.length) none) L with
      | .ok (.nx _) H1 => .ok .non H1
      | .ok (.rt v) H1 => .ok v H1
      | .exc x _ H1 => .exc x H1
      | _ => .bad : R LV) (fun a f' H' => ∀ v, VR K NM f' H' a v → Q v H') (fun x f' H' => ∀ cls d, XR K NM f' H' x cls d → E cls d H')
theorem law_fn {fa : Addr} {f : Fn} {N : List Str} {x qual : Str} {params : Arguments} {body : List Stmt} {scope : Scope} {dvs : List V} {fd : FuncData} {sx : Nat} (T : FnT K NM P fa f N x qual params body scope dvs) (hst : f.sig.star = false) (hps : f.sig.ps = [sx]) (FD : FunD K x qual params body scope dvs [] fa fd)
    (sf : Sf K NM P adr) (gs : ∀ c m, FnS Pr w K mg base NM k (adr c m) (G c m)) (mgn : ∀ x ∈ bltNames, mg x = none) (mgc : ∀ g v, P.con g = some v → ∃ w u, mg (nm NM g) = some u ∧ RelV w u ∧ ∀ f H, VR K NM f H v w) (mgs : ∀ g, P.glb g = true → mg (nm NM g) = some (.ref (gad K NM g))) (tbs : TabsH K mg base NM P) :
    FnOk Pr w K mg base (L2.CX Pr w) (k + 5) fa fd [nm NM sx] (lawSp K NM P G f sx) := by
  have sc := T.sc
  rw [hst, if_neg Bool.false_ne_true, hps] at sc
  exact FD.okC sc (fun _ _ _ _ h => h.1) fun cdv hcv A outer s H vs Q E hr ⟨_, j, L, us, h1, h2, h3, h4⟩ => body_run sf gs T.bd sc.nd T.sl mgn mgc mgs tbs T.lm hcv hr h1 h2 h3 h4
theorem law_sp {f : Fn} {sx : Nat} {H : Hp} {a : Addr} {ns : List Int} {L' : LH} (hT : LamX.Tabs (LT K NM) H) (hS : SqL K H a (ns.map V.int)) (hsl : 1 ≤ f.slots)
    (h : (match (den P G f.body).s ([some (.scr (ns.map .int))] ++ List.replicate (f.slots - 1) none) [] with
      | .ok (.nx _) H1 => .ok .non H1
      | .ok (.rt v) H1 => .ok v H1
      | .exc x _ H1 => .exc x H1
      | _ => .bad : R LV) = .ok (.bl true) L') : lawSp K NM P G f sx [.ref a] H (fun v _ => v = .bl true) fun _ _ _ => False := by
  have hv : ∀ ns : List Int, VRs K NM noI.off H (ns.map LV.int) (ns.map V.int) := fun ns => by
    induction ns with
    | nil => exact VRs.nil
    | cons n ns ih => exact VRs.cons rfl ih
  refine ⟨rfl, noI, [], [.scr (ns.map .int)], ⟨fun a b p h => (by cases h), fun a p h => (by cases h), fun a o h => (by simp at h), fun _ h => h.elim, hT⟩, VRs.cons ⟨a, _, rfl, sc_of hS, hv ns⟩ VRs.nil, hsl, ?_⟩
  show Aft K NM noI H (match (den P G f.body).s ([some (.scr (ns.map .int))] ++ List.replicate (f.slots - 1) none) [] with
      | .ok (.nx _) H1 => .ok .non H1
      | .ok (.rt v) H1 => .ok v H1
      | .exc x _ H1 => .exc x H1
      | _ => .bad : R LV) _ _
  rw [h]
  exact fun f' H' _ _ v hv => hv
end
theorem bind_one (sx : Nat) (v : LV) : Sig.bind ⟨[sx], [], false, []⟩ [v] [] = some [v] := by
  unfold Sig.bind
  simp [kwGood, fillL, allGet, fget]
theorem run_gam {P : PM.Prog} {n c m : Nat} {f : Fn} {v : LV} {r : R LV} {sx : Nat} (e : P.fn c m = some f) (hs : f.sig = ⟨[sx], [], false, []⟩) (hz : f.fz = false) (hsl : 1 ≤ f.slots) (h : gam P (n + 1) c m [v] [] [] = r) :
    (match (den P (gam P n) f.body).s ([some v] ++ List.replicate (f.slots - 1) none) [] with
      | .ok (.nx _) H1 => .ok .non H1
      | .ok (.rt v) H1 => .ok v H1
      | .exc x _ H1 => .exc x H1
      | _ => .bad : R LV) = r := by
  rw [← h, gam_succ, e]
  show _ = if f.fz = true then _ else _
  rw [hz]
  show _ = runFn P (gam P n) f [v] [] []
  unfold runFn
  rw [hs, bind_one]
  show _ = if [v].length ≤ f.slots then _ else _
  rw [if_pos (show [v].length ≤ f.slots from hsl)]
  rfl
/-! ### the law's end -/
theorem walkP {l : PySem.W.OpenLaw} {q : Program} {loose : List Str} {XP : (Str → Option Value) → Heap → Prop} {d : DefRec} {p : PL} {NM : List Str} {ds : List DefP} {n nt nc sx lawId : Nat} {f : Fn} {d0 : DefP}
    (hn : l.most = some 63) (hdf : d.params.defaults = []) (hname : d.name = nm NM lawId) (hr : Room (5 * nc + 5) callerA) (hx : xsB NM p = true)
    (hg : goodL p NM nt p.fns ds) (hd : goodD p NM nt ((0, lawId), f) d0) (hd0 : d0 ∈ ds) (hs : f.sig = ⟨[sx], [], false, []⟩) (hz : f.fz = false) (hgl : p.glbs.contains lawId = true)
    (hbind : ∀ (kV doc pm : Value) (an : Option Addr) (cdv ct : Value) (us : List Value), us.length = [nm NM sx].length → bindArgs (PySem.W.fnOf d0.name d0.qual d0.params d0.body d0.scope .none kV doc pm an cdv ct) ⟨us, []⟩ = pure ([nm NM sx].zip us))
    (law : ∀ ns : List Int, ns.length ≤ 63 → ∃ L', gam p.prog (nc + 1) 0 lawId [.scr (ns.map .int)] [] [] = .ok (.bl true) L') :
    PySem.W.WalkO q loose XP (hookP n p NM (ds ++ p.xs)).says l.row.toRowW d [] (fun f vs => PySem.call f vs) := by
  refine Att.attach_callB hn hdf fun w s₀ s₁ mg mb fa o pm cd doc a vs ns G Y ho hd' hcd hmg hobj hints hlen hbits hg' => ?_
  obtain ⟨K, KX, c⟩ := Y
  have NS := G.T.g
  have c1 := c.ok
  have c2 := c.fn
  obtain ⟨b1, b⟩ := ba c1
  obtain ⟨b2, b⟩ := ba b
  obtain ⟨b3, b⟩ := ba b
  obtain ⟨b4, b⟩ := ba b
  obtain ⟨b5, b⟩ := ba b
  obtain ⟨b6, b7⟩ := ba b
  obtain ⟨x1, x⟩ := ba hx
  obtain ⟨x2, x⟩ := ba x
  obtain ⟨x3, x4⟩ := ba x
  have fnOf : ∀ d ∈ ds ++ p.xs, fnWa K (adrT K NM d.key.1 d.key.2) = d.val := fun d hm => by
    obtain ⟨i, hi, rfl⟩ := List.getElem_of_mem hm
    have e2 : ((ds ++ p.xs).map fun d => fnWa K (adrT K NM d.key.1 d.key.2))[i]? = ((ds ++ p.xs).map DefP.val)[i]? := by rw [c2]
    rw [List.getElem?_map, List.getElem?_map, List.getElem?_eq_getElem hi] at e2
    exact Option.some.inj e2
  have xOk : ∀ d ∈ p.xs, d.ok K NM [] = true := fun d hm => by
    have z := (ba (List.all_eq_true.mp b2 d (List.mem_append_right _ hm))).1
    have z2 : (find2 p.fns d.key.1 d.key.2).isNone = true := List.all_eq_true.mp x4 d hm
    have e4 : dvsOf K NM p d = [] := by
      unfold dvsOf
      cases q : find2 p.fns d.key.1 d.key.2 with
      | none => rfl
      | some f => rw [q] at z2; cases z2
    rw [e4] at z
    exact z
  have hE : ∀ c i, p.prog.err c = some i → ErrF K NM p.prog c i := fun c i e => by
    obtain ⟨y, m1, m2, st⟩ := errL_mem x1 _ (find1_mem (show find1 p.errs c = some i from e))
    have mx : y.d ∈ p.xs := List.mem_append_left _ (List.mem_map.mpr ⟨y, m1, rfl⟩)
    exact errF_of (fnOf _ (List.mem_append_right _ mx)) (xOk _ mx) st (List.all_eq_true.mp b6 _ m2)
  have hW : ∀ w, p.prog.why = some w → WhyF K NM p.prog w := fun w e => by
    have e : p.whyp.head?.map (·.w.key.2) = some w := e
    obtain ⟨y, ey, rfl⟩ := Option.map_eq_some_iff.mp e
    have my : y ∈ p.whyp := List.mem_of_mem_head? ey
    have m1 : y.w ∈ p.xs := List.mem_append_right _ (List.mem_flatMap.mpr ⟨y, my, by simp⟩)
    have m2 : y.f ∈ p.xs := List.mem_append_right _ (List.mem_flatMap.mpr ⟨y, my, by simp⟩)
    exact whyF_of (fnOf _ (List.mem_append_right _ m1)) (xOk _ m1) (fnOf _ (List.mem_append_right _ m2)) (xOk _ m2) (List.all_eq_true.mp x2 y my) (List.all_eq_true.mp b7 y my)
  have sf := sfB_ok b1 hE hW
  have mgn : ∀ x ∈ bltNames, mg x = none := fun x hx => He.free_ok KX NS (List.all_eq_true.mp b3 x hx)
  have mgs : ∀ g, p.prog.glb g = true → mg (nm NM g) = some (.ref (gad K NM g)) := fun g hg => He.glo_ok KX NS (List.all_eq_true.mp b4 g (by simpa using (show p.glbs.contains g = true from hg)))
  have mgc : ∀ g v, p.prog.con g = some v → ∃ w u, mg (nm NM g) = some u ∧ RelV w u ∧ ∀ f H, VR K NM f H v w := fun g v e => by
    have z := List.all_eq_true.mp b5 _ (find1_mem e)
    cases v with
    | int i =>
      obtain ⟨t, e1⟩ := He.int_ok KX NS (x := nm NM g) (i := i) z
      exact ⟨.int i, _, e1, ⟨t, rfl⟩, fun _ _ => rfl⟩
    | str s =>
      obtain ⟨t, e1⟩ := He.str_ok KX NS (x := nm NM g) (z := ⟨s.toArray⟩) z
      exact ⟨strV s, _, e1, ⟨t, rfl⟩, fun _ _ => rfl⟩
    | _ => cases z
  have dT : ∀ (q : (Nat × Nat) × Fn) (d : DefP), d ∈ ds → goodD p NM nt q d → ∃ dvs, FnT K NM p.prog (adrT K NM q.1.1 q.1.2) q.2 d.N d.name d.qual d.params d.body d.scope dvs ∧ ∀ j H, VRs K NM j H q.2.sig.ds dvs := fun q d hm ⟨g1, g2, g3, g5⟩ => by
    have e1 : fnWa K (adrT K NM d.key.1 d.key.2) = d.val := fnOf d (List.mem_append_left _ hm)
    obtain ⟨z, z2⟩ := ba (List.all_eq_true.mp b2 d (List.mem_append_left _ hm))
    have e4 : dvsOf K NM p d = dvsK K (adrT K NM d.key.1 d.key.2) := by unfold dvsOf; rw [g2]
    have e5 : dvB K q.2.sig.ds (dvsK K (adrT K NM d.key.1 d.key.2)) = true := by
      unfold dsB at z2
      rw [g2] at z2
      exact z2
    rw [e4] at z
    rw [← g1]
    exact ⟨_, fnT_of e1 z g3 (fun j H => dvB_ok e5) g5, fun j H => dvB_ok e5⟩
  have hT : ∀ c m f, p.prog.fn c m = some f → ∃ N x qual params body scope dvs, FnT K NM p.prog (adrT K NM c m) f N x qual params body scope dvs := fun c m f e => by
    obtain ⟨d, hm, hgd⟩ := goodL_mem hg _ (find2_mem e)
    obtain ⟨dvs, T, _⟩ := dT _ d hm hgd
    exact ⟨_, _, _, _, _, _, _, T⟩
  obtain ⟨dvs, T, hdv⟩ := dT _ d0 hd0 hd
  have hdv : VRs K NM noI emptyH f.sig.ds dvs := hdv _ _
  rw [hs] at hdv
  obtain rfl : dvs = [] := hdv
  obtain ⟨fd, FD⟩ := T.fd
  have efa : fa = adrT K NM 0 lawId := by
    have z := mgs lawId hgl
    rw [hname] at hmg
    have := hmg.symm.trans z
    cases this
    rfl
  rw [efa]
  have hf : p.prog.fn 0 lawId = some f := by
    have := hd.2.1
    rw [hd.1] at this
    exact this
  have hsl : 1 ≤ f.slots := by
    have h1 := T.sl
    have h2 := T.sc.pre
    rw [hs] at h2
    have h3 : (d0.N.take 1) = [nm NM sx] := h2
    rw [T.sl]
    cases q : d0.N with
    | nil => rw [q] at h3; cases h3
    | cons y ys => simp
  have hb := FunD.bindsA (ps := [nm NM sx]) FD hbind
  have memT : ∀ q ∈ (lamNames NM).map (cTab K), ∃ x ∈ lamNames NM, cTab K x = q := fun q hq => List.mem_map.mp hq
  exact LamX.law_callTs (CX := L2.CX l.prog w) (k := 5 * nc + 5) (cs := (lamNames NM).map (cTab K)) (sp := lawSp K NM p.prog (gam p.prog nc) f sx) KX G.T.g G.T.b G.T.builtins G.T.nolimit hg'
    (fun q hq => by obtain ⟨x, hx, rfl⟩ := memT q hq; exact c.tb.empty x hx) (fun q hq => by obtain ⟨x, hx, rfl⟩ := memT q hq; exact c.tb.out x hx)
    (fun q hq => by obtain ⟨x, hx, rfl⟩ := memT q hq; exact PySem.W.codeHd_of_K KX (c.tb.hd x hx)) G.T.bmain hobj hints (Nat.le_trans hlen (by decide)) hr
    (fun base kb nb TB => by
      have tbs : TabsH K mg base NM p.prog := ⟨fun e he => by simpa using List.all_eq_true.mp x3 e he, fun x hx => TB _ (List.mem_map.mpr ⟨x, hx, rfl⟩), fun x hx => c.tb.un x hx⟩
      exact law_fn T (by rw [hs]) (by rw [hs]) FD sf (fun c m => fns_all sf mgn mgc mgs tbs hT nc c m) mgn mgc mgs tbs)
    (fun s u => hb s [u] rfl)
    (fun H hH hS => by
      obtain ⟨L', hL⟩ := law ns hlen
      have tabs : LamX.Tabs (LT K NM) H := fun q hq => by
        obtain ⟨x, hx, rfl⟩ := List.mem_map.mp hq
        exact LamX.TabS.nil (hH _ (List.mem_map.mpr ⟨x, hx, rfl⟩))
      exact law_sp tabs hS hsl (run_gam hf hs hz hsl hL))
    (fun H e s' ⟨_, _, _, _, _, _, _, _, _, _, _, _, h⟩ => h)
end PM

set_option Elab.async false
set_option linter.all false
set_option autoImplicit false
set_option maxRecDepth 100000
set_option maxHeartbeats 0
/-! # GL: the tables of k03 (printed by gen.py) -/
namespace GL
open PySem PySem.Spec PyProof.Rows PM
open L2 hiding St
def noS : Stmt := .Pass ⟨0, 0, 0, 0⟩
def top (i : Nat) : Stmt := PySem.Challenge.pw_untoldmean_k03_ratios_with_signs.main.body.getD i noS
def cmb (i j : Nat) : Stmt := match top i with
  | .ClassDef _ _ _ b _ _ _ _ _ _ _ => b.getD j noS
  | _ => noS

def NM : List Str := (["", "append", "extend", "pop", "insert", "code", "clear", "reverse", "get", "split", "join", "partition", "index", "count", "__init__", "__eq__", "__add__", "__sub__", "__mul__", "__neg__", "__bool__", "__len__", "__str__", "__repr__", "__or__", "__contains__"] : List Str) ++ (["law", "|", "Ratio", "MeanError", "Missing", "InvalidRatio", "NothingLeft", "_law_field", "_law_why", "given", "is_number", "divisor_of", "number_in", "_law_bag", "_law_draw", "_law_of", "_law_same", "_law_divisor", "_law_frac", "_law_plus", "_law_times", "_law_minus", "_law_less", "_law_ratio", "_law_pair", "_law_any_frac"] : List Str) ++ (["FIGURES", "MOST_FIGURES", "own_top", "own_bottom", "top", "bottom", "side", "written", "over", "is_less", "value", "one", "other", "text", "_law_script", "_law_bag_here", "_law_many", "_law_items_z", "_law_found", "_law_due", "_law_a", "_law_b", "_law_top_z", "_law_bottom_z", "_law_ratio_z", "_law_most"] : List Str) ++ (["self"] : List Str)
/-- slots: value -/
def b_is_number : E := (.seq (.ret (.and (.cons (.isi (.var 0) [.int]) (.cons (.not (.isi (.var 0) [.bool])) .nil)))) .skip)
/-- slots: one other -/
def b_divisor_of : E := (.seq (.asg (.ttp (.cons (.tnm 0) (.cons (.tnm 1) .nil))) (.tup (.cons (.blt .abs (.cons (.var 0) .nil)) (.cons (.blt .abs (.cons (.var 1) .nil)) .nil)))) (.seq (.whl (.cmp .ne (.var 1) (.int 0)) (.seq (.asg (.ttp (.cons (.tnm 0) (.cons (.tnm 1) .nil))) (.tup (.cons (.var 1) (.cons (.bin .mod (.var 0) (.var 1)) .nil)))) .skip)) (.seq (.ret (.var 0)) .skip)))
/-- slots: text figures sign -/
def b_number_in : E := (.seq (.asg (.tnm 1) (.ife (.cmp .eq (.slc (.var 0) .nil (.cons (.int 1) .nil)) (.str [45])) (.slc (.var 0) (.cons (.int 1) .nil) .nil) (.var 0))) (.seq (.iff (.or (.cons (.not (.chain .le .le (.int 1) (.blt .len (.cons (.var 1) .nil)) (.con 53))) (.cons (.not (.blt .all (.cons (.lc (.cmp .isin (.var 2) (.con 52)) (.tnm 2) (.itv (.var 1)) .nil [2]) .nil))) .nil))) (.seq (.ret .non) .skip) .skip) (.seq (.iff (.and (.cons (.cmp .eq (.ix (.var 1) (.int 0)) (.str [48])) (.cons (.cmp .ne (.var 0) (.str [48])) .nil))) (.seq (.ret .non) .skip) .skip) (.seq (.ret (.ife (.cmp .eq (.slc (.var 0) .nil (.cons (.int 1) .nil)) (.str [45])) (.neg (.blt .int (.cons (.var 1) .nil))) (.blt .int (.cons (.var 1) .nil)))) .skip))))
/-- slots: _law_script _law_cells_z _law_mark _law_cell -/
def b_law_bag : E := (.seq (.asg (.tnm 1) (.lc (.blt .int (.cons (.var 3) .nil)) (.tnm 3) (.itv (.slc (.var 0) .nil (.cons (.int 63) .nil))) .nil [3])) (.seq (.asg (.tnm 2) (.bin .add (.int 10007) (.bin .mul (.int 131) (.blt .len (.cons (.var 1) .nil))))) (.seq (.for (.tnm 3) (.itv (.var 1)) (.seq (.asg (.tnm 2) (.bin .mod (.blt .int (.cons (.bin .add (.bin .mul (.var 2) (.int 5051)) (.var 3)) .nil)) (.int 2147483629))) .skip)) (.seq (.ret (.lstM (.cons (.var 1) (.cons (.int 0) (.cons (.int 0) (.cons (.var 2) .nil)))))) .skip))))
/-- slots: _law_bag_here _law_many _law_drawn _law_cell _law_early _law_late -/
def b_law_draw : E := (.seq (.iff (.cmp .lt (.ix (.var 0) (.int 2)) (.int 2)) (.seq (.asg (.tix (.var 0) (.int 1)) (.bin .add (.ix (.var 0) (.int 1)) (.int 1))) (.seq (.asg (.tnm 3) (.bin .add (.ix (.var 0) (.int 3)) (.bin .mul (.ix (.var 0) (.int 1)) (.int 7919)))) (.seq (.iff (.cmp .le (.ix (.var 0) (.int 1)) (.blt .len (.cons (.ix (.var 0) (.int 0)) .nil))) (.seq (.asg (.tnm 3) (.ix (.ix (.var 0) (.int 0)) (.bin .sub (.ix (.var 0) (.int 1)) (.int 1)))) .skip) .skip) (.seq (.iff (.or (.cons (.cmp .gt (.ix (.var 0) (.int 1)) (.blt .len (.cons (.ix (.var 0) (.int 0)) .nil))) (.cons (.cmp .lt (.var 3) (.bin .pow (.int 10) (.int 18))) .nil))) (.seq (.asg (.tnm 4) (.bin .mod (.blt .int (.cons (.bin .add (.bin .add (.bin .mul (.var 3) (.int 69621)) (.bin .mul (.ix (.var 0) (.int 1)) (.int 40503))) (.ix (.var 0) (.int 3))) .nil)) (.int 2147483647))) (.seq (.asg (.tnm 5) (.bin .mod (.blt .int (.cons (.bin .add (.bin .mul (.var 4) (.var 4)) (.bin .mul (.ix (.var 0) (.int 1)) (.int 30011))) .nil)) (.int 998244353))) (.seq (.ret (.bin .mod (.bin .fdiv (.bin .mod (.blt .int (.cons (.bin .add (.bin .mul (.var 5) (.int 31337)) (.var 4)) .nil)) (.int 2147483563)) (.int 17)) (.var 1))) .skip))) .skip) (.seq (.asg (.tix (.var 0) (.int 2)) (.var 3)) .skip))))) .skip) (.seq (.asg (.tnm 2) (.bin .mod (.blt .int (.cons (.ix (.var 0) (.int 2)) .nil)) (.var 1))) (.seq (.asg (.tix (.var 0) (.int 2)) (.bin .fdiv (.blt .int (.cons (.ix (.var 0) (.int 2)) .nil)) (.var 1))) (.seq (.ret (.var 2)) .skip))))
/-- slots: _law_bag_here _law_items_z -/
def b_law_of : E := (.seq (.ret (.ix (.var 1) (.call 40 (.cons (.var 0) (.cons (.blt .len (.cons (.var 1) .nil)) .nil)) [] .nil))) .skip)
/-- slots: _law_found _law_due _law_a _law_b -/
def b_law_same : E := (.seq (.iff (.or (.cons (.isN (.var 1)) (.cons (.isN (.var 0)) .nil))) (.seq (.ret (.and (.cons (.isN (.var 0)) (.cons (.isN (.var 1)) .nil)))) .skip) .skip) (.seq (.iff (.or (.cons (.isi (.var 1) [.bool]) (.cons (.isi (.var 0) [.bool]) .nil))) (.seq (.ret (.and (.cons (.isi (.var 1) [.bool]) (.cons (.isi (.var 0) [.bool]) (.cons (.cmp .eq (.var 0) (.var 1)) .nil))))) .skip) .skip) (.seq (.iff (.isi (.var 1) [.int, .str]) (.seq (.ret (.and (.cons (.isi (.var 0) [.int, .str]) (.cons (.cmp .eq (.isi (.var 0) [.int]) (.isi (.var 1) [.int])) (.cons (.cmp .eq (.var 0) (.var 1)) .nil))))) .skip) .skip) (.seq (.iff (.or (.cons (.cmp .ne (.isi (.var 1) [.list]) (.isi (.var 0) [.list])) (.cons (.cmp .ne (.isi (.var 1) [.tuple]) (.isi (.var 0) [.tuple])) .nil))) (.seq (.ret (.bl false)) .skip) .skip) (.seq (.iff (.not (.isi (.var 1) [.list, .tuple])) (.seq (.ret (.cmp .eq (.var 0) (.var 1))) .skip) .skip) (.seq (.ret (.and (.cons (.cmp .eq (.blt .len (.cons (.var 0) .nil)) (.blt .len (.cons (.var 1) .nil))) (.cons (.blt .all (.cons (.lc (.call 42 (.cons (.var 2) (.cons (.var 3) .nil)) [] .nil) (.ttp (.cons (.tnm 2) (.cons (.tnm 3) .nil))) (.itz (.var 0) (.var 1)) .nil [2, 3]) .nil)) .nil)))) .skip))))))
/-- slots: _law_a _law_b -/
def b_law_divisor : E := (.seq (.asg (.ttp (.cons (.tnm 0) (.cons (.tnm 1) .nil))) (.tup (.cons (.blt .abs (.cons (.var 0) .nil)) (.cons (.blt .abs (.cons (.var 1) .nil)) .nil)))) (.seq (.whl (.cmp .ne (.var 1) (.int 0)) (.seq (.asg (.ttp (.cons (.tnm 0) (.cons (.tnm 1) .nil))) (.tup (.cons (.var 1) (.cons (.bin .mod (.blt .int (.cons (.var 0) .nil)) (.var 1)) .nil)))) .skip)) (.seq (.ret (.var 0)) .skip)))
/-- slots: _law_top_z _law_bottom_z _law_by -/
def b_law_frac : E := (.seq (.asg (.tnm 2) (.call 43 (.cons (.var 0) (.cons (.var 1) .nil)) [] .nil)) (.seq (.iff (.cmp .lt (.var 1) (.int 0)) (.seq (.asg (.tnm 2) (.bin .sub (.int 0) (.var 2))) .skip) .skip) (.seq (.ret (.tup (.cons (.bin .fdiv (.var 0) (.var 2)) (.cons (.bin .fdiv (.var 1) (.var 2)) .nil)))) .skip)))
/-- slots: _law_a _law_b -/
def b_law_plus : E := (.seq (.ret (.call 44 (.cons (.bin .add (.bin .mul (.ix (.var 0) (.int 0)) (.ix (.var 1) (.int 1))) (.bin .mul (.ix (.var 1) (.int 0)) (.ix (.var 0) (.int 1)))) (.cons (.bin .mul (.ix (.var 0) (.int 1)) (.ix (.var 1) (.int 1))) .nil)) [] .nil)) .skip)
/-- slots: _law_a _law_b -/
def b_law_times : E := (.seq (.ret (.call 44 (.cons (.bin .mul (.ix (.var 0) (.int 0)) (.ix (.var 1) (.int 0))) (.cons (.bin .mul (.ix (.var 0) (.int 1)) (.ix (.var 1) (.int 1))) .nil)) [] .nil)) .skip)
/-- slots: _law_a _law_b -/
def b_law_minus : E := (.seq (.ret (.call 45 (.cons (.var 0) (.cons (.tup (.cons (.bin .sub (.int 0) (.ix (.var 1) (.int 0))) (.cons (.ix (.var 1) (.int 1)) .nil))) .nil)) [] .nil)) .skip)
/-- slots: _law_a _law_b -/
def b_law_less : E := (.seq (.ret (.cmp .lt (.bin .mul (.ix (.var 0) (.int 0)) (.ix (.var 1) (.int 1))) (.bin .mul (.ix (.var 1) (.int 0)) (.ix (.var 0) (.int 1))))) .skip)
/-- slots: _law_a -/
def b_law_ratio : E := (.seq (.ret (.call 28 (.cons (.ix (.var 0) (.int 0)) (.cons (.ix (.var 0) (.int 1)) .nil)) [] .nil)) .skip)
/-- slots: _law_ratio_z -/
def b_law_pair : E := (.seq (.ret (.tup (.cons (.fld 56 (.var 0)) (.cons (.fld 57 (.var 0)) .nil)))) .skip)
/-- slots: _law_bag_here _law_most -/
def b_law_any_frac : E := (.seq (.ret (.call 44 (.cons (.bin .sub (.call 40 (.cons (.var 0) (.cons (.bin .add (.bin .mul (.int 2) (.var 1)) (.int 1)) .nil)) [] .nil) (.var 1)) (.cons (.bin .add (.int 1) (.call 40 (.cons (.var 0) (.cons (.var 1) .nil)) [] .nil)) .nil)) [] .nil)) .skip)
/-- slots: _law_script _law_bag_here _law_turn _law_most _law_a _law_b _law_told _law_due _law_found _law_one_z _law_two -/
def b_law : E := (.seq (.asg (.tnm 1) (.call 39 (.cons (.var 0) .nil) [] .nil)) (.seq (.for (.tnm 2) (.itr (.cons (.int 12) .nil)) (.seq (.asg (.tnm 3) (.call 41 (.cons (.var 1) (.cons (.lst (.cons (.int 4) (.cons (.int 30) (.cons (.bin .pow (.int 10) (.int 12)) .nil)))) .nil)) [] .nil)) (.seq (.asg (.tnm 4) (.call 51 (.cons (.var 1) (.cons (.var 3) .nil)) [] .nil)) (.seq (.asg (.tnm 5) (.ife (.cmp .eq (.call 40 (.cons (.var 1) (.cons (.int 5) .nil)) [] .nil) (.int 0)) (.var 4) (.call 51 (.cons (.var 1) (.cons (.var 3) .nil)) [] .nil))) (.seq (.asg (.ttp (.cons (.tnm 9) (.cons (.tnm 10) .nil))) (.tup (.cons (.call 49 (.cons (.var 4) .nil) [] .nil) (.cons (.call 49 (.cons (.var 5) .nil) [] .nil) .nil)))) (.seq (.asg (.tnm 6) (.lst (.cons (.call 50 (.cons (.bin .add (.var 9) (.var 10)) .nil) [] .nil) (.cons (.call 50 (.cons (.bin .sub (.var 9) (.var 10)) .nil) [] .nil) (.cons (.call 50 (.cons (.bin .mul (.var 9) (.var 10)) .nil) [] .nil) (.cons (.call 50 (.cons (.neg (.var 9)) .nil) [] .nil) .nil)))))) (.seq (.asg (.tnm 7) (.lst (.cons (.call 45 (.cons (.var 4) (.cons (.var 5) .nil)) [] .nil) (.cons (.call 47 (.cons (.var 4) (.cons (.var 5) .nil)) [] .nil) (.cons (.call 46 (.cons (.var 4) (.cons (.var 5) .nil)) [] .nil) (.cons (.tup (.cons (.bin .sub (.int 0) (.ix (.var 4) (.int 0))) (.cons (.ix (.var 4) (.int 1)) .nil))) .nil)))))) (.seq (.iff (.not (.call 42 (.cons (.var 6) (.cons (.var 7) .nil)) [] .nil)) (.seq (.ret (.bl false)) .skip) .skip) (.seq (.iff (.not (.call 42 (.cons (.lst (.cons (.met 61 (.var 9) (.cons (.var 10) .nil) [] .nil) (.cons (.met 61 (.var 10) (.cons (.var 9) .nil) [] .nil) (.cons (.met 61 (.var 9) (.cons (.var 9) .nil) [] .nil) .nil)))) (.cons (.lst (.cons (.call 48 (.cons (.var 4) (.cons (.var 5) .nil)) [] .nil) (.cons (.call 48 (.cons (.var 5) (.cons (.var 4) .nil)) [] .nil) (.cons (.bl false) .nil)))) .nil)) [] .nil)) (.seq (.ret (.bl false)) .skip) .skip) (.seq (.iff (.cmp .ne (.ix (.var 5) (.int 0)) (.int 0)) (.seq (.iff (.cmp .ne (.call 50 (.cons (.met 60 (.var 9) (.cons (.var 10) .nil) [] .nil) .nil) [] .nil) (.call 44 (.cons (.bin .mul (.ix (.var 4) (.int 0)) (.ix (.var 5) (.int 1))) (.cons (.bin .mul (.ix (.var 4) (.int 1)) (.ix (.var 5) (.int 0))) .nil)) [] .nil)) (.seq (.ret (.bl false)) .skip) .skip) .skip) .skip) (.seq (.asg (.tnm 8) (.why (.met 60 (.var 9) (.cons (.bin .sub (.var 10) (.var 10)) .nil) [] .nil))) (.seq (.iff (.or (.cons (.cmp .ne (.ix (.var 8) (.int 0)) (.str [73, 110, 118, 97, 108, 105, 100, 82, 97, 116, 105, 111])) (.cons (.cmp .ne (.call 50 (.cons (.ix (.ix (.var 8) (.int 1)) (.int 0)) .nil) [] .nil) (.tup (.cons (.int 0) (.cons (.int 1) .nil)))) .nil))) (.seq (.ret (.bl false)) .skip) .skip) (.seq (.iff (.not (.call 42 (.cons (.lst (.cons (.call 50 (.cons (.var 9) .nil) [] .nil) (.cons (.call 50 (.cons (.var 10) .nil) [] .nil) .nil))) (.cons (.lst (.cons (.var 4) (.cons (.var 5) .nil))) .nil)) [] .nil)) (.seq (.ret (.bl false)) .skip) .skip) .skip))))))))))))) (.seq (.ret (.bl true)) .skip)))
/-- slots: self top bottom by -/
def b_Ratio_initD : E := (.seq (.iff (.or (.cons (.not (.call 36 (.cons (.var 1) .nil) [] .nil)) (.cons (.not (.call 36 (.cons (.var 2) .nil) [] .nil)) (.cons (.cmp .eq (.var 2) (.int 0)) .nil)))) (.seq (.rse 31 (.cons (.tup (.cons (.var 1) (.cons (.var 2) .nil))) .nil)) .skip) .skip) (.seq (.asg (.tnm 3) (.bin .mul (.call 37 (.cons (.var 1) (.cons (.var 2) .nil)) [] .nil) (.ife (.cmp .gt (.var 2) (.int 0)) (.int 1) (.neg (.int 1))))) (.seq (.asg (.tfl 54 (.var 0)) (.bin .fdiv (.var 1) (.var 3))) (.seq (.asg (.tfl 55 (.var 0)) (.bin .fdiv (.var 2) (.var 3))) .skip))))
/-- slots: self -/
def b_Ratio_top : E := (.seq (.ret (.fld 54 (.var 0))) .skip)
/-- slots: self -/
def b_Ratio_bottom : E := (.seq (.ret (.fld 55 (.var 0))) .skip)
/-- slots: self -/
def b_Ratio_side : E := (.seq (.ex .wall) .skip)
/-- slots: self -/
def b_Ratio_written : E := (.seq (.ret (.ife (.cmp .eq (.fld 55 (.var 0)) (.int 1)) (.blt .str (.cons (.fld 54 (.var 0)) .nil)) (.fst (.cons (.fmt (.fld 54 (.var 0))) (.cons (.str [47]) (.cons (.fmt (.fld 55 (.var 0))) .nil)))))) .skip)
/-- slots: self other -/
def b_Ratio_over : E := (.seq (.iff (.cmp .eq (.fld 56 (.var 1)) (.int 0)) (.seq (.rse 31 (.cons (.var 1) .nil)) .skip) .skip) (.seq (.ret (.call 28 (.cons (.bin .mul (.fld 54 (.var 0)) (.fld 57 (.var 1))) (.cons (.bin .mul (.fld 55 (.var 0)) (.fld 56 (.var 1))) .nil)) [] .nil)) .skip))
/-- slots: self other -/
def b_Ratio_addD : E := (.seq (.ret (.call 28 (.cons (.bin .add (.bin .mul (.fld 54 (.var 0)) (.fld 57 (.var 1))) (.bin .mul (.fld 56 (.var 1)) (.fld 55 (.var 0)))) (.cons (.bin .mul (.fld 55 (.var 0)) (.fld 57 (.var 1))) .nil)) [] .nil)) .skip)
/-- slots: self other -/
def b_Ratio_subD : E := (.seq (.ret (.call 28 (.cons (.bin .sub (.bin .mul (.fld 54 (.var 0)) (.fld 57 (.var 1))) (.bin .mul (.fld 56 (.var 1)) (.fld 55 (.var 0)))) (.cons (.bin .mul (.fld 55 (.var 0)) (.fld 57 (.var 1))) .nil)) [] .nil)) .skip)
/-- slots: self other -/
def b_Ratio_mulD : E := (.seq (.ret (.call 28 (.cons (.bin .mul (.fld 54 (.var 0)) (.fld 56 (.var 1))) (.cons (.bin .mul (.fld 55 (.var 0)) (.fld 57 (.var 1))) .nil)) [] .nil)) .skip)
/-- slots: self -/
def b_Ratio_negD : E := (.seq (.ret (.call 28 (.cons (.neg (.fld 54 (.var 0))) (.cons (.fld 55 (.var 0)) .nil)) [] .nil)) .skip)
/-- slots: self other -/
def b_Ratio_eqD : E := (.seq (.ret (.and (.cons (.isi (.var 1) [.own 28]) (.cons (.cmp .eq (.fld 54 (.var 0)) (.fld 56 (.var 1))) (.cons (.cmp .eq (.fld 55 (.var 0)) (.fld 57 (.var 1))) .nil))))) .skip)
/-- slots: self other -/
def b_Ratio_is_less : E := (.seq (.ret (.cmp .lt (.bin .mul (.fld 54 (.var 0)) (.fld 57 (.var 1))) (.bin .mul (.fld 56 (.var 1)) (.fld 55 (.var 0))))) .skip)
/-- slots: self -/
def b_Ratio_boolD : E := (.seq (.ret (.blt .bool (.cons (.fld 54 (.var 0)) .nil))) .skip)
/-- slots: self -/
def b_Ratio_strD : E := (.seq (.ret (.blt .str (.cons (.met 59 (.var 0) .nil [] .nil) .nil))) .skip)
/-- slots: self -/
def b_Ratio_reprD : E := (.seq (.ret (.fst (.cons (.str [82, 97, 116, 105, 111, 40]) (.cons (.fmt (.met 59 (.var 0) .nil [] .nil)) (.cons (.str [41]) .nil))))) .skip)
def f_is_number : Fn := ⟨⟨[62], [], false, []⟩, 1, b_is_number, true⟩
def d_is_number : DefP := ⟨(0, 36), "is_number", "is_number", defArgs (top 9), defBody (top 9), defScope (top 9), ["value"]⟩
def f_divisor_of : Fn := ⟨⟨[63, 64], [], false, []⟩, 2, b_divisor_of, true⟩
def d_divisor_of : DefP := ⟨(0, 37), "divisor_of", "divisor_of", defArgs (top 10), defBody (top 10), defScope (top 10), ["one", "other"]⟩
def f_number_in : Fn := ⟨⟨[65], [], false, []⟩, 3, b_number_in, true⟩
def d_number_in : DefP := ⟨(0, 38), "number_in", "number_in", defArgs (top 11), defBody (top 11), defScope (top 11), ["text", "figures", "sign"]⟩
def f_law_bag : Fn := ⟨⟨[66], [], false, []⟩, 4, b_law_bag, false⟩
def d_law_bag : DefP := ⟨(0, 39), "_law_bag", "_law_bag", defArgs (top 14), defBody (top 14), defScope (top 14), ["_law_script", "_law_cells_z", "_law_mark", "_law_cell"]⟩
def f_law_draw : Fn := ⟨⟨[67, 68], [], false, []⟩, 6, b_law_draw, true⟩
def d_law_draw : DefP := ⟨(0, 40), "_law_draw", "_law_draw", defArgs (top 15), defBody (top 15), defScope (top 15), ["_law_bag_here", "_law_many", "_law_drawn", "_law_cell", "_law_early", "_law_late"]⟩
def f_law_of : Fn := ⟨⟨[67, 69], [], false, []⟩, 2, b_law_of, true⟩
def d_law_of : DefP := ⟨(0, 41), "_law_of", "_law_of", defArgs (top 16), defBody (top 16), defScope (top 16), ["_law_bag_here", "_law_items_z"]⟩
def f_law_same : Fn := ⟨⟨[70, 71], [], false, []⟩, 4, b_law_same, true⟩
def d_law_same : DefP := ⟨(0, 42), "_law_same", "_law_same", defArgs (top 17), defBody (top 17), defScope (top 17), ["_law_found", "_law_due", "_law_a", "_law_b"]⟩
def f_law_divisor : Fn := ⟨⟨[72, 73], [], false, []⟩, 2, b_law_divisor, true⟩
def d_law_divisor : DefP := ⟨(0, 43), "_law_divisor", "_law_divisor", defArgs (top 20), defBody (top 20), defScope (top 20), ["_law_a", "_law_b"]⟩
def f_law_frac : Fn := ⟨⟨[74, 75], [], false, []⟩, 3, b_law_frac, true⟩
def d_law_frac : DefP := ⟨(0, 44), "_law_frac", "_law_frac", defArgs (top 21), defBody (top 21), defScope (top 21), ["_law_top_z", "_law_bottom_z", "_law_by"]⟩
def f_law_plus : Fn := ⟨⟨[72, 73], [], false, []⟩, 2, b_law_plus, true⟩
def d_law_plus : DefP := ⟨(0, 45), "_law_plus", "_law_plus", defArgs (top 22), defBody (top 22), defScope (top 22), ["_law_a", "_law_b"]⟩
def f_law_times : Fn := ⟨⟨[72, 73], [], false, []⟩, 2, b_law_times, true⟩
def d_law_times : DefP := ⟨(0, 46), "_law_times", "_law_times", defArgs (top 23), defBody (top 23), defScope (top 23), ["_law_a", "_law_b"]⟩
def f_law_minus : Fn := ⟨⟨[72, 73], [], false, []⟩, 2, b_law_minus, true⟩
def d_law_minus : DefP := ⟨(0, 47), "_law_minus", "_law_minus", defArgs (top 24), defBody (top 24), defScope (top 24), ["_law_a", "_law_b"]⟩
def f_law_less : Fn := ⟨⟨[72, 73], [], false, []⟩, 2, b_law_less, true⟩
def d_law_less : DefP := ⟨(0, 48), "_law_less", "_law_less", defArgs (top 25), defBody (top 25), defScope (top 25), ["_law_a", "_law_b"]⟩
def f_law_ratio : Fn := ⟨⟨[72], [], false, []⟩, 1, b_law_ratio, true⟩
def d_law_ratio : DefP := ⟨(0, 49), "_law_ratio", "_law_ratio", defArgs (top 26), defBody (top 26), defScope (top 26), ["_law_a"]⟩
def f_law_pair : Fn := ⟨⟨[76], [], false, []⟩, 1, b_law_pair, true⟩
def d_law_pair : DefP := ⟨(0, 50), "_law_pair", "_law_pair", defArgs (top 27), defBody (top 27), defScope (top 27), ["_law_ratio_z"]⟩
def f_law_any_frac : Fn := ⟨⟨[67, 77], [], false, []⟩, 2, b_law_any_frac, true⟩
def d_law_any_frac : DefP := ⟨(0, 51), "_law_any_frac", "_law_any_frac", defArgs (top 28), defBody (top 28), defScope (top 28), ["_law_bag_here", "_law_most"]⟩
def f_law : Fn := ⟨⟨[66], [], false, []⟩, 11, b_law, false⟩
def d_law : DefP := ⟨(0, 26), "law", "law", defArgs (top 29), defBody (top 29), defScope (top 29), ["_law_script", "_law_bag_here", "_law_turn", "_law_most", "_law_a", "_law_b", "_law_told", "_law_due", "_law_found", "_law_one_z", "_law_two"]⟩
def f_Ratio_initD : Fn := ⟨⟨[78, 56, 57], [.int (1)], false, []⟩, 4, b_Ratio_initD, false⟩
def d_Ratio_initD : DefP := ⟨(28, 14), "__init__", "Ratio.__init__", defArgs (cmb 12 0), defBody (cmb 12 0), defScope (cmb 12 0), ["self", "top", "bottom", "by"]⟩
def f_Ratio_top : Fn := ⟨⟨[78], [], false, []⟩, 1, b_Ratio_top, true⟩
def d_Ratio_top : DefP := ⟨(28, 56), "top", "Ratio.top", defArgs (cmb 12 2), defBody (cmb 12 2), defScope (cmb 12 2), ["self"]⟩
def f_Ratio_bottom : Fn := ⟨⟨[78], [], false, []⟩, 1, b_Ratio_bottom, true⟩
def d_Ratio_bottom : DefP := ⟨(28, 57), "bottom", "Ratio.bottom", defArgs (cmb 12 3), defBody (cmb 12 3), defScope (cmb 12 3), ["self"]⟩
def f_Ratio_side : Fn := ⟨⟨[78], [], false, []⟩, 1, b_Ratio_side, true⟩
def d_Ratio_side : DefP := ⟨(28, 58), "side", "Ratio.side", defArgs (cmb 12 4), defBody (cmb 12 4), defScope (cmb 12 4), ["self"]⟩
def f_Ratio_written : Fn := ⟨⟨[78], [], false, []⟩, 1, b_Ratio_written, true⟩
def d_Ratio_written : DefP := ⟨(28, 59), "written", "Ratio.written", defArgs (cmb 12 5), defBody (cmb 12 5), defScope (cmb 12 5), ["self"]⟩
def f_Ratio_over : Fn := ⟨⟨[78, 64], [], false, []⟩, 2, b_Ratio_over, true⟩
def d_Ratio_over : DefP := ⟨(28, 60), "over", "Ratio.over", defArgs (cmb 12 6), defBody (cmb 12 6), defScope (cmb 12 6), ["self", "other"]⟩
def f_Ratio_addD : Fn := ⟨⟨[78, 64], [], false, []⟩, 2, b_Ratio_addD, true⟩
def d_Ratio_addD : DefP := ⟨(28, 16), "__add__", "Ratio.__add__", defArgs (cmb 12 7), defBody (cmb 12 7), defScope (cmb 12 7), ["self", "other"]⟩
def f_Ratio_subD : Fn := ⟨⟨[78, 64], [], false, []⟩, 2, b_Ratio_subD, true⟩
def d_Ratio_subD : DefP := ⟨(28, 17), "__sub__", "Ratio.__sub__", defArgs (cmb 12 8), defBody (cmb 12 8), defScope (cmb 12 8), ["self", "other"]⟩
def f_Ratio_mulD : Fn := ⟨⟨[78, 64], [], false, []⟩, 2, b_Ratio_mulD, true⟩
def d_Ratio_mulD : DefP := ⟨(28, 18), "__mul__", "Ratio.__mul__", defArgs (cmb 12 9), defBody (cmb 12 9), defScope (cmb 12 9), ["self", "other"]⟩
def f_Ratio_negD : Fn := ⟨⟨[78], [], false, []⟩, 1, b_Ratio_negD, true⟩
def d_Ratio_negD : DefP := ⟨(28, 19), "__neg__", "Ratio.__neg__", defArgs (cmb 12 10), defBody (cmb 12 10), defScope (cmb 12 10), ["self"]⟩
def f_Ratio_eqD : Fn := ⟨⟨[78, 64], [], false, []⟩, 2, b_Ratio_eqD, true⟩
def d_Ratio_eqD : DefP := ⟨(28, 15), "__eq__", "Ratio.__eq__", defArgs (cmb 12 11), defBody (cmb 12 11), defScope (cmb 12 11), ["self", "other"]⟩
def f_Ratio_is_less : Fn := ⟨⟨[78, 64], [], false, []⟩, 2, b_Ratio_is_less, true⟩
def d_Ratio_is_less : DefP := ⟨(28, 61), "is_less", "Ratio.is_less", defArgs (cmb 12 12), defBody (cmb 12 12), defScope (cmb 12 12), ["self", "other"]⟩
def f_Ratio_boolD : Fn := ⟨⟨[78], [], false, []⟩, 1, b_Ratio_boolD, true⟩
def d_Ratio_boolD : DefP := ⟨(28, 20), "__bool__", "Ratio.__bool__", defArgs (cmb 12 13), defBody (cmb 12 13), defScope (cmb 12 13), ["self"]⟩
def f_Ratio_strD : Fn := ⟨⟨[78], [], false, []⟩, 1, b_Ratio_strD, true⟩
def d_Ratio_strD : DefP := ⟨(28, 22), "__str__", "Ratio.__str__", defArgs (cmb 12 14), defBody (cmb 12 14), defScope (cmb 12 14), ["self"]⟩
def f_Ratio_reprD : Fn := ⟨⟨[78], [], false, []⟩, 1, b_Ratio_reprD, true⟩
def d_Ratio_reprD : DefP := ⟨(28, 23), "__repr__", "Ratio.__repr__", defArgs (cmb 12 15), defBody (cmb 12 15), defScope (cmb 12 15), ["self"]⟩
def x_InvalidRatio : ErrP := ⟨⟨(31, 14), "__init__", "InvalidRatio.__init__", defArgs (cmb 4 0), defBody (cmb 4 0), defScope (cmb 4 0), ["self", "given"]⟩, 29, "self", some ("given", "given")⟩
def wy : WhyP := ⟨⟨(0, 34), "_law_why", "_law_why", defArgs (top 19), defBody (top 19), defScope (top 19), ["_law_ask", "_law_e"]⟩, ⟨(0, 33), "_law_field", "_law_field", defArgs (top 18), defBody (top 18), defScope (top 18), ["_law_e"]⟩, "_law_ask", "_law_e", "_law_e", 29, 30, 32⟩
def p : PL where
  fns := [((0, 36), f_is_number), ((0, 37), f_divisor_of), ((0, 38), f_number_in), ((0, 39), f_law_bag), ((0, 40), f_law_draw), ((0, 41), f_law_of), ((0, 42), f_law_same), ((0, 43), f_law_divisor), ((0, 44), f_law_frac), ((0, 45), f_law_plus), ((0, 46), f_law_times), ((0, 47), f_law_minus), ((0, 48), f_law_less), ((0, 49), f_law_ratio), ((0, 50), f_law_pair), ((0, 51), f_law_any_frac), ((0, 26), f_law), ((28, 14), f_Ratio_initD), ((28, 56), f_Ratio_top), ((28, 57), f_Ratio_bottom), ((28, 58), f_Ratio_side), ((28, 59), f_Ratio_written), ((28, 60), f_Ratio_over), ((28, 16), f_Ratio_addD), ((28, 17), f_Ratio_subD), ((28, 18), f_Ratio_mulD), ((28, 19), f_Ratio_negD), ((28, 15), f_Ratio_eqD), ((28, 61), f_Ratio_is_less), ((28, 20), f_Ratio_boolD), ((28, 22), f_Ratio_strD), ((28, 23), f_Ratio_reprD)]
  mems := [((28, 14), .meth 28), ((28, 54), .fld), ((28, 55), .fld), ((28, 56), .prop 28), ((28, 57), .prop 28), ((28, 58), .prop 28), ((28, 59), .meth 28), ((28, 60), .meth 28), ((28, 16), .meth 28), ((28, 17), .meth 28), ((28, 18), .meth 28), ((28, 19), .meth 28), ((28, 15), .meth 28), ((28, 61), .meth 28), ((28, 20), .meth 28), ((28, 22), .meth 28), ((28, 23), .meth 28)]
  clss := [28]
  mros := [(28, [28])]
  glbs := [28, 29, 30, 31, 32, 33, 34, 36, 37, 38, 39, 40, 41, 42, 43, 44, 45, 46, 47, 48, 49, 50, 51, 26]
  cons := [(52, .str [48, 49, 50, 51, 52, 53, 54, 55, 56, 57]), (53, .int (30))]
  loops := 1000000000
  fzcs := [28]
  errs := [(31, ([73, 110, 118, 97, 108, 105, 100, 82, 97, 116, 105, 111], some 35))]
  errp := [x_InvalidRatio]
  whyp := [wy]
  lams := [(26, (d_law).scope.names)]
  mus := [(111, 11)]
def ds : List DefP := [d_is_number, d_divisor_of, d_number_in, d_law_bag, d_law_draw, d_law_of, d_law_same, d_law_divisor, d_law_frac, d_law_plus, d_law_times, d_law_minus, d_law_less, d_law_ratio, d_law_pair, d_law_any_frac, d_law, d_Ratio_initD, d_Ratio_top, d_Ratio_bottom, d_Ratio_side, d_Ratio_written, d_Ratio_over, d_Ratio_addD, d_Ratio_subD, d_Ratio_mulD, d_Ratio_negD, d_Ratio_eqD, d_Ratio_is_less, d_Ratio_boolD, d_Ratio_strD, d_Ratio_reprD]
theorem g_is_number : goodD p NM 100 ((0, 36), f_is_number) d_is_number := ⟨rfl, by kernel_rfl, by kernel_rfl, by kernel_rfl⟩
theorem g_divisor_of : goodD p NM 100 ((0, 37), f_divisor_of) d_divisor_of := ⟨rfl, by kernel_rfl, by kernel_rfl, by kernel_rfl⟩
theorem g_number_in : goodD p NM 100 ((0, 38), f_number_in) d_number_in := ⟨rfl, by kernel_rfl, by kernel_rfl, by kernel_rfl⟩
theorem g_law_bag : goodD p NM 100 ((0, 39), f_law_bag) d_law_bag := ⟨rfl, by kernel_rfl, by kernel_rfl, by kernel_rfl⟩
theorem g_law_draw : goodD p NM 100 ((0, 40), f_law_draw) d_law_draw := ⟨rfl, by kernel_rfl, by kernel_rfl, by kernel_rfl⟩
theorem g_law_of : goodD p NM 100 ((0, 41), f_law_of) d_law_of := ⟨rfl, by kernel_rfl, by kernel_rfl, by kernel_rfl⟩
theorem g_law_same : goodD p NM 100 ((0, 42), f_law_same) d_law_same := ⟨rfl, by kernel_rfl, by kernel_rfl, by kernel_rfl⟩
theorem g_law_divisor : goodD p NM 100 ((0, 43), f_law_divisor) d_law_divisor := ⟨rfl, by kernel_rfl, by kernel_rfl, by kernel_rfl⟩
theorem g_law_frac : goodD p NM 100 ((0, 44), f_law_frac) d_law_frac := ⟨rfl, by kernel_rfl, by kernel_rfl, by kernel_rfl⟩
theorem g_law_plus : goodD p NM 100 ((0, 45), f_law_plus) d_law_plus := ⟨rfl, by kernel_rfl, by kernel_rfl, by kernel_rfl⟩
theorem g_law_times : goodD p NM 100 ((0, 46), f_law_times) d_law_times := ⟨rfl, by kernel_rfl, by kernel_rfl, by kernel_rfl⟩
theorem g_law_minus : goodD p NM 100 ((0, 47), f_law_minus) d_law_minus := ⟨rfl, by kernel_rfl, by kernel_rfl, by kernel_rfl⟩
theorem g_law_less : goodD p NM 100 ((0, 48), f_law_less) d_law_less := ⟨rfl, by kernel_rfl, by kernel_rfl, by kernel_rfl⟩
theorem g_law_ratio : goodD p NM 100 ((0, 49), f_law_ratio) d_law_ratio := ⟨rfl, by kernel_rfl, by kernel_rfl, by kernel_rfl⟩
theorem g_law_pair : goodD p NM 100 ((0, 50), f_law_pair) d_law_pair := ⟨rfl, by kernel_rfl, by kernel_rfl, by kernel_rfl⟩
theorem g_law_any_frac : goodD p NM 100 ((0, 51), f_law_any_frac) d_law_any_frac := ⟨rfl, by kernel_rfl, by kernel_rfl, by kernel_rfl⟩
theorem g_law : goodD p NM 100 ((0, 26), f_law) d_law := ⟨rfl, by kernel_rfl, by kernel_rfl, by kernel_rfl⟩
theorem g_Ratio_initD : goodD p NM 100 ((28, 14), f_Ratio_initD) d_Ratio_initD := ⟨rfl, by kernel_rfl, by kernel_rfl, by kernel_rfl⟩
theorem g_Ratio_top : goodD p NM 100 ((28, 56), f_Ratio_top) d_Ratio_top := ⟨rfl, by kernel_rfl, by kernel_rfl, by kernel_rfl⟩
theorem g_Ratio_bottom : goodD p NM 100 ((28, 57), f_Ratio_bottom) d_Ratio_bottom := ⟨rfl, by kernel_rfl, by kernel_rfl, by kernel_rfl⟩
theorem g_Ratio_side : goodD p NM 100 ((28, 58), f_Ratio_side) d_Ratio_side := ⟨rfl, by kernel_rfl, by kernel_rfl, by kernel_rfl⟩
theorem g_Ratio_written : goodD p NM 100 ((28, 59), f_Ratio_written) d_Ratio_written := ⟨rfl, by kernel_rfl, by kernel_rfl, by kernel_rfl⟩
theorem g_Ratio_over : goodD p NM 100 ((28, 60), f_Ratio_over) d_Ratio_over := ⟨rfl, by kernel_rfl, by kernel_rfl, by kernel_rfl⟩
theorem g_Ratio_addD : goodD p NM 100 ((28, 16), f_Ratio_addD) d_Ratio_addD := ⟨rfl, by kernel_rfl, by kernel_rfl, by kernel_rfl⟩
theorem g_Ratio_subD : goodD p NM 100 ((28, 17), f_Ratio_subD) d_Ratio_subD := ⟨rfl, by kernel_rfl, by kernel_rfl, by kernel_rfl⟩
theorem g_Ratio_mulD : goodD p NM 100 ((28, 18), f_Ratio_mulD) d_Ratio_mulD := ⟨rfl, by kernel_rfl, by kernel_rfl, by kernel_rfl⟩
theorem g_Ratio_negD : goodD p NM 100 ((28, 19), f_Ratio_negD) d_Ratio_negD := ⟨rfl, by kernel_rfl, by kernel_rfl, by kernel_rfl⟩
theorem g_Ratio_eqD : goodD p NM 100 ((28, 15), f_Ratio_eqD) d_Ratio_eqD := ⟨rfl, by kernel_rfl, by kernel_rfl, by kernel_rfl⟩
theorem g_Ratio_is_less : goodD p NM 100 ((28, 61), f_Ratio_is_less) d_Ratio_is_less := ⟨rfl, by kernel_rfl, by kernel_rfl, by kernel_rfl⟩
theorem g_Ratio_boolD : goodD p NM 100 ((28, 20), f_Ratio_boolD) d_Ratio_boolD := ⟨rfl, by kernel_rfl, by kernel_rfl, by kernel_rfl⟩
theorem g_Ratio_strD : goodD p NM 100 ((28, 22), f_Ratio_strD) d_Ratio_strD := ⟨rfl, by kernel_rfl, by kernel_rfl, by kernel_rfl⟩
theorem g_Ratio_reprD : goodD p NM 100 ((28, 23), f_Ratio_reprD) d_Ratio_reprD := ⟨rfl, by kernel_rfl, by kernel_rfl, by kernel_rfl⟩
theorem cg_is_number (G : Gam) (vs : List LV) (kws : List (Nat × LV)) (H : LH) : callG p.prog G 36 vs kws H = G 0 36 vs kws H := rfl
theorem cg_divisor_of (G : Gam) (vs : List LV) (kws : List (Nat × LV)) (H : LH) : callG p.prog G 37 vs kws H = G 0 37 vs kws H := rfl
theorem cg_number_in (G : Gam) (vs : List LV) (kws : List (Nat × LV)) (H : LH) : callG p.prog G 38 vs kws H = G 0 38 vs kws H := rfl
theorem cg_law_bag (G : Gam) (vs : List LV) (kws : List (Nat × LV)) (H : LH) : callG p.prog G 39 vs kws H = G 0 39 vs kws H := rfl
theorem cg_law_draw (G : Gam) (vs : List LV) (kws : List (Nat × LV)) (H : LH) : callG p.prog G 40 vs kws H = G 0 40 vs kws H := rfl
theorem cg_law_of (G : Gam) (vs : List LV) (kws : List (Nat × LV)) (H : LH) : callG p.prog G 41 vs kws H = G 0 41 vs kws H := rfl
theorem cg_law_same (G : Gam) (vs : List LV) (kws : List (Nat × LV)) (H : LH) : callG p.prog G 42 vs kws H = G 0 42 vs kws H := rfl
theorem cg_law_divisor (G : Gam) (vs : List LV) (kws : List (Nat × LV)) (H : LH) : callG p.prog G 43 vs kws H = G 0 43 vs kws H := rfl
theorem cg_law_frac (G : Gam) (vs : List LV) (kws : List (Nat × LV)) (H : LH) : callG p.prog G 44 vs kws H = G 0 44 vs kws H := rfl
theorem cg_law_plus (G : Gam) (vs : List LV) (kws : List (Nat × LV)) (H : LH) : callG p.prog G 45 vs kws H = G 0 45 vs kws H := rfl
theorem cg_law_times (G : Gam) (vs : List LV) (kws : List (Nat × LV)) (H : LH) : callG p.prog G 46 vs kws H = G 0 46 vs kws H := rfl
theorem cg_law_minus (G : Gam) (vs : List LV) (kws : List (Nat × LV)) (H : LH) : callG p.prog G 47 vs kws H = G 0 47 vs kws H := rfl
theorem cg_law_less (G : Gam) (vs : List LV) (kws : List (Nat × LV)) (H : LH) : callG p.prog G 48 vs kws H = G 0 48 vs kws H := rfl
theorem cg_law_ratio (G : Gam) (vs : List LV) (kws : List (Nat × LV)) (H : LH) : callG p.prog G 49 vs kws H = G 0 49 vs kws H := rfl
theorem cg_law_pair (G : Gam) (vs : List LV) (kws : List (Nat × LV)) (H : LH) : callG p.prog G 50 vs kws H = G 0 50 vs kws H := rfl
theorem cg_law_any_frac (G : Gam) (vs : List LV) (kws : List (Nat × LV)) (H : LH) : callG p.prog G 51 vs kws H = G 0 51 vs kws H := rfl
theorem cg_law (G : Gam) (vs : List LV) (kws : List (Nat × LV)) (H : LH) : callG p.prog G 26 vs kws H = G 0 26 vs kws H := rfl
theorem cg_Ratio (G : Gam) (vs : List LV) (kws : List (Nat × LV)) (H : LH) : callG p.prog G 28 vs kws H = make p.prog G 28 vs kws H := rfl
theorem good : goodL p NM 100 p.fns ds := ⟨g_is_number, g_divisor_of, g_number_in, g_law_bag, g_law_draw, g_law_of, g_law_same, g_law_divisor, g_law_frac, g_law_plus, g_law_times, g_law_minus, g_law_less, g_law_ratio, g_law_pair, g_law_any_frac, g_law, g_Ratio_initD, g_Ratio_top, g_Ratio_bottom, g_Ratio_side, g_Ratio_written, g_Ratio_over, g_Ratio_addD, g_Ratio_subD, g_Ratio_mulD, g_Ratio_negD, g_Ratio_eqD, g_Ratio_is_less, g_Ratio_boolD, g_Ratio_strD, g_Ratio_reprD, trivial⟩
theorem xs : xsB NM p = true := by kernel_rfl
end GL

set_option Elab.async false
set_option linter.all false
set_option autoImplicit false
set_option maxHeartbeats 2000000
/-! # M0: reasoning about the small interpreter: what a result must keep -/
namespace PM
def W0 {α : Type} (r : R α) (Q : α → LH → Prop) (E : LX → LH → Prop) : Prop := match r with
  | .ok a H => Q a H
  | .exc x H => E x H
  | .bad => False
def WS0 (r : RS) (Q : Fl → LH → Prop) (E : LX → LS → LH → Prop) : Prop := match r with
  | .ok f H => Q f H
  | .exc x σ H => E x σ H
  | .bad => False
/-- it ends by a value that keeps Q, or by an exception that keeps E -/
structure W {α : Type} (r : R α) (Q : α → LH → Prop) (E : LX → LH → Prop) : Prop where
  h : W0 r Q E
structure WS (r : RS) (Q : Fl → LH → Prop) (E : LX → LS → LH → Prop) : Prop where
  h : WS0 r Q E
def noE : LX → LH → Prop := fun _ _ => False
def noES : LX → LS → LH → Prop := fun _ _ _ => False
theorem W_def {α : Type} (r : R α) (Q : α → LH → Prop) (E : LX → LH → Prop) : W r Q E = W0 r Q E := propext ⟨fun h => h.h, fun h => ⟨h⟩⟩
theorem WS_def (r : RS) (Q : Fl → LH → Prop) (E : LX → LS → LH → Prop) : WS r Q E = WS0 r Q E := propext ⟨fun h => h.h, fun h => ⟨h⟩⟩
theorem W_ok {α : Type} (a : α) (H : LH) (Q : α → LH → Prop) (E : LX → LH → Prop) : W (.ok a H) Q E = Q a H := (W_def _ _ _).trans rfl
theorem W_exc {α : Type} (x : LX) (H : LH) (Q : α → LH → Prop) (E : LX → LH → Prop) : W (.exc x H) Q E = E x H := (W_def _ _ _).trans rfl
theorem W_bad {α : Type} (Q : α → LH → Prop) (E : LX → LH → Prop) : W (.bad : R α) Q E = False := (W_def _ _ _).trans rfl
theorem WS_ok (a : Fl) (H : LH) (Q : Fl → LH → Prop) (E : LX → LS → LH → Prop) : WS (.ok a H) Q E = Q a H := (WS_def _ _ _).trans rfl
theorem WS_exc (x : LX) (σ : LS) (H : LH) (Q : Fl → LH → Prop) (E : LX → LS → LH → Prop) : WS (.exc x σ H) Q E = E x σ H := (WS_def _ _ _).trans rfl
theorem WS_bad (Q : Fl → LH → Prop) (E : LX → LS → LH → Prop) : WS .bad Q E = False := (WS_def _ _ _).trans rfl
theorem W.mono {α : Type} {r : R α} {Q Q' : α → LH → Prop} {E : LX → LH → Prop} (h : W r Q E) (m : ∀ a H, Q a H → Q' a H) : W r Q' E := by
  cases r with
  | ok a H => rw [W_ok] at h ⊢; exact m _ _ h
  | exc x H => rw [W_exc] at h ⊢; exact h
  | bad => rw [W_bad] at h; exact h.elim
theorem WS.mono {r : RS} {Q Q' : Fl → LH → Prop} {E : LX → LS → LH → Prop} (h : WS r Q E) (m : ∀ a H, Q a H → Q' a H) : WS r Q' E := by
  cases r with
  | ok a H => rw [WS_ok] at h ⊢; exact m _ _ h
  | exc x σ H => rw [WS_exc] at h ⊢; exact h
  | bad => rw [WS_bad] at h; exact h.elim
theorem W_bind {α β : Type} (r : R α) (k : α → LH → R β) (Q : β → LH → Prop) (E : LX → LH → Prop) : W (r.bind k) Q E = W r (fun a H => W (k a H) Q E) E := by
  cases r with
  | ok a H => rw [W_ok]; rfl
  | exc x H => rw [W_exc]; show W (.exc x H) Q E = _; rw [W_exc]
  | bad => rw [W_bad]; show W .bad Q E = _; rw [W_bad]
theorem W_noX {α : Type} (r : R α) (Q : α → LH → Prop) (E : LX → LH → Prop) : W (noX r) Q E = W r Q noE := by
  cases r with
  | ok a H => show W (.ok a H) Q E = _; rw [W_ok, W_ok]
  | exc x H => show W .bad Q E = _; rw [W_bad, W_exc]; rfl
  | bad => show W .bad Q E = _; rw [W_bad, W_bad]
theorem WS_ofR {α : Type} (r : R α) (σ : LS) (k : α → LH → RS) (Q : Fl → LH → Prop) (E : LX → LS → LH → Prop) : WS (RS.ofR r σ k) Q E = W r (fun a H => WS (k a H) Q E) (fun x H => E x σ H) := by
  cases r with
  | ok a H => rw [W_ok]; rfl
  | exc x H => rw [W_exc]; show WS (.exc x σ H) Q E = _; rw [WS_exc]
  | bad => rw [W_bad]; show WS .bad Q E = _; rw [WS_bad]
def seqQ (P : Prog) (G : Gam) (b : E) (Q : Fl → LH → Prop) (X : LX → LS → LH → Prop) (f : Fl) (H1 : LH) : Prop := match f with
    | .nx σ1 => WS ((den P G b).s σ1 H1) Q X
    | f => Q f H1
theorem WS_seq {P : Prog} {G : Gam} (a b : E) (σ : LS) (H : LH) (Q : Fl → LH → Prop) (X : LX → LS → LH → Prop) : WS ((den P G (.seq a b)).s σ H) Q X = WS ((den P G a).s σ H) (seqQ P G b Q X) X := by
  show WS (match (den P G a).s σ H with
    | .ok (.nx σ1) H1 => (den P G b).s σ1 H1
    | r => r) Q X = _
  cases (den P G a).s σ H with
  | ok f H1 =>
    rw [WS_ok]
    cases f with
    | nx σ1 => rfl
    | rt v => show WS (.ok (.rt v) H1) Q X = _; rw [WS_ok]; rfl
    | bk v => show WS (.ok (.bk v) H1) Q X = _; rw [WS_ok]; rfl
    | ct v => show WS (.ok (.ct v) H1) Q X = _; rw [WS_ok]; rfl
  | exc x σ1 H1 => show WS (.exc x σ1 H1) Q X = _; rw [WS_exc, WS_exc]
  | bad => show WS .bad Q X = _; rw [WS_bad, WS_bad]
theorem seqQ_nx (P : Prog) (G : Gam) (b : E) (Q : Fl → LH → Prop) (X : LX → LS → LH → Prop) (σ : LS) (H : LH) : seqQ P G b Q X (.nx σ) H = WS ((den P G b).s σ H) Q X := Eq.trans rfl rfl
theorem seqQ_rt (P : Prog) (G : Gam) (b : E) (Q : Fl → LH → Prop) (X : LX → LS → LH → Prop) (v : LV) (H : LH) : seqQ P G b Q X (.rt v) H = Q (.rt v) H := Eq.trans rfl rfl
theorem seqQ_bk (P : Prog) (G : Gam) (b : E) (Q : Fl → LH → Prop) (X : LX → LS → LH → Prop) (σ : LS) (H : LH) : seqQ P G b Q X (.bk σ) H = Q (.bk σ) H := Eq.trans rfl rfl
theorem seqQ_ct (P : Prog) (G : Gam) (b : E) (Q : Fl → LH → Prop) (X : LX → LS → LH → Prop) (σ : LS) (H : LH) : seqQ P G b Q X (.ct σ) H = Q (.ct σ) H := Eq.trans rfl rfl
theorem lt_of_get {α : Type} {H : List α} {a : Nat} {o : α} (h : H[a]? = some o) : a < H.length := (List.getElem?_eq_some_iff.mp h).1
/-! ### calls -/
theorem argRefs_pure : ∀ {vs : List LV} {rs : List Nat}, noRefs vs = true → argRefs rs vs = some (vs, rs)
  | [], _, _ => rfl
  | v :: vs, rs, h => by
    unfold noRefs at h
    rw [Bool.and_eq_true] at h
    have e : argRef rs v = some (v, rs) := by
      cases v <;> first | rfl | (have := h.1; unfold noRef at this; cases this; done) | exact (if_pos h.1 : (if noRef _ = true then some (_, rs) else none) = some (_, rs))
    unfold argRefs
    rw [e]
    dsimp only
    rw [argRefs_pure h.2]
theorem zip_fst_snd : ∀ kws : List (Nat × LV), (kws.map (·.1)).zip (kws.map (·.2)) = kws := zip_fs
/-- a call without places -/
theorem bnd_pure {run : List LV → List (Nat × LV) → LH → R LV} {vs : List LV} {kws : List (Nat × LV)} {H : LH} {v' : LV} (h1 : noRefs vs = true) (h2 : noRefs (kws.map (·.2)) = true) (h : W (run vs kws []) (fun v L1 => frO L1 [] 60 v = some v') noE) : bnd run vs kws H = .ok v' H := by
  unfold bnd
  rw [argRefs_pure h1]
  dsimp only
  rw [argRefs_pure h2]
  dsimp only
  rw [zip_fst_snd]
  show (match run vs kws [] with
        | .ok v L1 => match frO L1 [] 60 v, some H with
          | some v', some H' => .ok v' H'
          | _, _ => .bad
        | .exc x L1 => match frX L1 0 x, some H with
          | some x', some H' => .exc x' H'
          | _, _ => .bad
        | .bad => .bad : R LV) = _
  cases q : run vs kws [] with
  | ok v L1 =>
    rw [q, W_ok] at h
    dsimp only
    rw [h]
  | exc x L1 => rw [q, W_exc] at h; exact h.elim
  | bad => rw [q, W_bad] at h; exact h.elim
theorem bnd_pureX {run : List LV → List (Nat × LV) → LH → R LV} {vs : List LV} {kws : List (Nat × LV)} {H : LH} {x' : LX} (h1 : noRefs vs = true) (h2 : noRefs (kws.map (·.2)) = true) (h : W (run vs kws []) (fun _ _ => False) (fun x L1 => frX L1 0 x = some x')) : bnd run vs kws H = .exc x' H := by
  unfold bnd
  rw [argRefs_pure h1]
  dsimp only
  rw [argRefs_pure h2]
  dsimp only
  rw [zip_fst_snd]
  show (match run vs kws [] with
        | .ok v L1 => match frO L1 [] 60 v, some H with
          | some v', some H' => .ok v' H'
          | _, _ => .bad
        | .exc x L1 => match frX L1 0 x, some H with
          | some x', some H' => .exc x' H'
          | _, _ => .bad
        | .bad => .bad : R LV) = _
  cases q : run vs kws [] with
  | ok v L1 => rw [q, W_ok] at h; exact h.elim
  | exc x L1 =>
    rw [q, W_exc] at h
    dsimp only
    rw [h]
  | bad => rw [q, W_bad] at h; exact h.elim
/-- a call with one place, its first argument -/
theorem bnd_one {run : List LV → List (Nat × LV) → LH → R LV} {a : Nat} {vs : List LV} {H H' : LH} {o o' : LO} {v' : LV} (h1 : noRefs vs = true) (ha : H[a]? = some o) (ho : objOk o = true) (h : W (run (.ref 0 :: vs) [] [o]) (fun v L1 => frO L1 [a] 60 v = some v' ∧ ∃ t, L1 = o' :: t ∧ objOk o' = true) noE) (hH : H.set a o' = H') : bnd run (.ref a :: vs) [] H = .ok v' H' := by
  subst hH
  unfold bnd
  have e : argRefs [] (.ref a :: vs) = some (.ref 0 :: vs, [a]) := by
    unfold argRefs
    show (match (some (LV.ref 0, [a]) : Option (LV × List Nat)) with
      | some (v', rs') => match argRefs rs' vs with
        | some (vs', rs'') => some (v' :: vs', rs'')
        | none => none
      | none => none) = _
    dsimp only
    rw [argRefs_pure h1]
  rw [e]
  have e2 : objs H [a] = some [o] := by
    unfold objs optAll
    rw [ha]
    dsimp only
    rw [if_pos ho]
    rfl
  show (match (some ([], [a]) : Option (List LV × List Nat)) with
    | none => .bad
    | some (ws', rs') => match objs H rs' with
      | none => .bad
      | some L0 => match run (.ref 0 :: vs) ((([] : List (Nat × LV)).map (·.1)).zip ws') L0 with
        | .ok v L1 => match frO L1 rs' 60 v, wb H rs' L1 with
          | some v', some H' => .ok v' H'
          | _, _ => .bad
        | .exc x L1 => match frX L1 rs'.length x, wb H rs' L1 with
          | some x', some H' => .exc x' H'
          | _, _ => .bad
        | .bad => .bad : R LV) = _
  dsimp only
  rw [e2]
  show (match run (.ref 0 :: vs) [] [o] with
        | .ok v L1 => match frO L1 [a] 60 v, wb H [a] L1 with
          | some v', some H' => .ok v' H'
          | _, _ => .bad
        | .exc x L1 => match frX L1 1 x, wb H [a] L1 with
          | some x', some H' => .exc x' H'
          | _, _ => .bad
        | .bad => .bad : R LV) = _
  cases q : run (.ref 0 :: vs) [] [o] with
  | ok v L1 =>
    rw [q, W_ok] at h
    obtain ⟨h, t, rfl, ho'⟩ := h
    dsimp only
    rw [h]
    have e3 : wb H [a] (o' :: t) = some (H.set a o') := by
      unfold wb
      rw [if_pos ho']
      unfold wb
      rfl
    rw [e3]
  | exc x L1 => rw [q, W_exc] at h; exact h.elim
  | bad => rw [q, W_bad] at h; exact h.elim
/-- a def's run -/
theorem W_run {P : Prog} {G : Gam} {f : Fn} {vs us : List LV} {kws : List (Nat × LV)} {H : LH} {Q : LV → LH → Prop} {X : LX → LH → Prop} (hb : f.sig.bind vs kws = some us) (hl : us.length ≤ f.slots)
    (h : WS ((den P G f.body).s (us.map some ++ List.replicate (f.slots - us.length) none) H) (fun fl H1 => match fl with
      | .nx _ => Q .non H1
      | .rt v => Q v H1
      | _ => False) (fun x _ H1 => X x H1)) : W (runFn P G f vs kws H) Q X := by
  unfold runFn
  rw [hb]
  show W (if us.length ≤ f.slots then _ else _) Q X
  rw [if_pos hl]
  revert h
  cases (den P G f.body).s (us.map some ++ List.replicate (f.slots - us.length) none) H with
  | ok fl H1 =>
    rw [WS_ok]
    cases fl with
    | nx σ => intro h; show W (.ok _ _) _ _; rw [W_ok]; exact h
    | rt v => intro h; show W (.ok _ _) _ _; rw [W_ok]; exact h
    | bk σ => exact fun h => h.elim
    | ct σ => exact fun h => h.elim
  | exc x σ1 H1 => rw [WS_exc]; intro h; show W (.exc _ _) _ _; rw [W_exc]; exact h
  | bad => rw [WS_bad]; exact fun h => h.elim
def retQ (Q : LV → LH → Prop) (fl : Fl) (H1 : LH) : Prop := match fl with
      | .nx _ => Q .non H1
      | .rt v => Q v H1
      | _ => False
theorem retQ_nx (Q : LV → LH → Prop) (σ : LS) (H : LH) : retQ Q (.nx σ) H = Q .non H := Eq.trans rfl rfl
theorem retQ_rt (Q : LV → LH → Prop) (v : LV) (H : LH) : retQ Q (.rt v) H = Q v H := Eq.trans rfl rfl
/-- a call that sees nothing: what it gives -/
theorem gam_fz {P : Prog} {n c m : Nat} {f : Fn} {vs us : List LV} {H : LH} {v' : LV} (e : P.fn c m = some f) (hz : f.fz = true) (hv : noRefs vs = true) (hb : f.sig.bind vs [] = some us) (hl : us.length ≤ f.slots)
    (h : WS ((den P (gam P n) f.body).s (us.map some ++ List.replicate (f.slots - us.length) none) []) (retQ fun v L1 => frO L1 [] 60 v = some v') noES) : gam P (n + 1) c m vs [] H = .ok v' H := by
  rw [gam_succ, e]
  show (if f.fz = true then _ else _) = _
  rw [if_pos hz]
  exact bnd_pure hv rfl (W_run hb hl h)
theorem gam_fzX {P : Prog} {n c m : Nat} {f : Fn} {vs us : List LV} {H : LH} {x' : LX} (e : P.fn c m = some f) (hz : f.fz = true) (hv : noRefs vs = true) (hb : f.sig.bind vs [] = some us) (hl : us.length ≤ f.slots)
    (h : WS ((den P (gam P n) f.body).s (us.map some ++ List.replicate (f.slots - us.length) none) []) (retQ fun _ _ => False) (fun x _ L1 => frX L1 0 x = some x')) : gam P (n + 1) c m vs [] H = .exc x' H := by
  rw [gam_succ, e]
  show (if f.fz = true then _ else _) = _
  rw [if_pos hz]
  exact bnd_pureX hv rfl (W_run hb hl h)
/-- .. with names -/
theorem gam_fzk {P : Prog} {n c m : Nat} {f : Fn} {vs us : List LV} {kws : List (Nat × LV)} {H : LH} {v' : LV} (e : P.fn c m = some f) (hz : f.fz = true) (hv : noRefs vs = true) (hk : noRefs (kws.map (·.2)) = true) (hb : f.sig.bind vs kws = some us) (hl : us.length ≤ f.slots)
    (h : WS ((den P (gam P n) f.body).s (us.map some ++ List.replicate (f.slots - us.length) none) []) (retQ fun v L1 => frO L1 [] 60 v = some v') noES) : gam P (n + 1) c m vs kws H = .ok v' H := by
  rw [gam_succ, e]
  show (if f.fz = true then _ else _) = _
  rw [if_pos hz]
  exact bnd_pure hv hk (W_run hb hl h)
/-- .. with one place -/
theorem gam_one {P : Prog} {n c m a : Nat} {f : Fn} {vs us : List LV} {H H' : LH} {o o' : LO} {v' : LV} (e : P.fn c m = some f) (hz : f.fz = true) (hv : noRefs vs = true) (ha : H[a]? = some o) (ho : objOk o = true) (hH : H.set a o' = H') (hb : f.sig.bind (.ref 0 :: vs) [] = some us) (hl : us.length ≤ f.slots)
    (h : WS ((den P (gam P n) f.body).s (us.map some ++ List.replicate (f.slots - us.length) none) [o]) (retQ fun v L1 => frO L1 [a] 60 v = some v' ∧ ∃ t, L1 = o' :: t ∧ objOk o' = true) noES) : gam P (n + 1) c m (.ref a :: vs) [] H = .ok v' H' := by
  rw [gam_succ, e]
  show (if f.fz = true then _ else _) = _
  rw [if_pos hz]
  exact bnd_one hv ha ho (W_run hb hl h) hH
/-- a call that sees all -/
theorem W_gam {P : Prog} {n c m : Nat} {f : Fn} {vs us : List LV} {kws : List (Nat × LV)} {H : LH} {Q : LV → LH → Prop} {X : LX → LH → Prop} (e : P.fn c m = some f) (hz : f.fz = false) (hb : f.sig.bind vs kws = some us) (hl : us.length ≤ f.slots)
    (h : WS ((den P (gam P n) f.body).s (us.map some ++ List.replicate (f.slots - us.length) none) H) (retQ Q) (fun x _ H1 => X x H1)) : W (gam P (n + 1) c m vs kws H) Q X := by
  rw [gam_succ, e]
  show W (if f.fz = true then _ else _) Q X
  rw [hz]
  exact W_run hb hl h
/-- a new instance that is only read -/
theorem make_fz {P : Prog} {n c d : Nat} {f : Fn} {vs us : List LV} {kws : List (Nat × LV)} {H : LH} {v' : LV} (hm : P.mem c kInit = some (.meth d)) (e : P.fn d kInit = some f) (hz : f.fz = false) (hc : P.fzc c = true) (hv : noRefs vs = true) (hk : noRefs (kws.map (·.2)) = true) (hb : f.sig.bind (.ref 0 :: vs) kws = some us) (hl : us.length ≤ f.slots)
    (h : WS ((den P (gam P n) f.body).s (us.map some ++ List.replicate (f.slots - us.length) none) [.ins c []]) (retQ fun v L1 => v = .non ∧ frO L1 [] 60 (.ref 0) = some v') noES) : make P (gam P (n + 1)) c vs kws H = .ok v' H := by
  unfold make
  rw [if_pos hc]
  refine bnd_pure hv hk ?_
  unfold make0
  rw [hm]
  dsimp only
  show W ((gam P (n + 1) d kInit (.ref 0 :: vs) kws [.ins c []]).bind _) _ _
  rw [W_bind]
  refine (W_gam (Q := fun v L1 => v = .non ∧ frO L1 [] 60 (.ref 0) = some v') (X := noE) e hz hb hl h).mono fun a H1 q => ?_
  obtain ⟨rfl, q⟩ := q
  show W (.ok _ _) _ _
  rw [W_ok]
  exact q
theorem make_fzX {P : Prog} {n c d : Nat} {f : Fn} {vs us : List LV} {kws : List (Nat × LV)} {H : LH} {x' : LX} (hm : P.mem c kInit = some (.meth d)) (e : P.fn d kInit = some f) (hz : f.fz = false) (hc : P.fzc c = true) (hv : noRefs vs = true) (hk : noRefs (kws.map (·.2)) = true) (hb : f.sig.bind (.ref 0 :: vs) kws = some us) (hl : us.length ≤ f.slots)
    (h : WS ((den P (gam P n) f.body).s (us.map some ++ List.replicate (f.slots - us.length) none) [.ins c []]) (retQ fun _ _ => False) (fun x _ L1 => frX L1 0 x = some x')) : make P (gam P (n + 1)) c vs kws H = .exc x' H := by
  unfold make
  rw [if_pos hc]
  refine bnd_pureX hv hk ?_
  unfold make0
  rw [hm]
  dsimp only
  show W ((gam P (n + 1) d kInit (.ref 0 :: vs) kws [.ins c []]).bind _) _ _
  rw [W_bind]
  exact (W_gam (Q := fun _ _ => False) (X := fun x L1 => frX L1 0 x = some x') e hz hb hl h).mono fun a H1 q => q.elim
/-! ### loops -/
/-- for: an invariant by the turns made -/
theorem W_for {nx : Nat → LH → Option (Option LV)} {asg : LV → LS → LH → R LS} {body : LS → LH → RS} {Q : Fl → LH → Prop} {X : LX → LS → LH → Prop} (I : Nat → LS → LH → Prop) (N : Nat)
    (step : ∀ i σ H, i < N → I i σ H → ∃ v, nx i H = some (some v) ∧ W (asg v σ H) (fun σ1 H1 => WS (body σ1 H1) (fun f H2 => match f with
      | .nx σ2 => I (i + 1) σ2 H2
      | .ct σ2 => I (i + 1) σ2 H2
      | .bk σ2 => Q (.nx σ2) H2
      | .rt v => Q (.rt v) H2) X) (fun x H1 => X x σ H1))
    (stop : ∀ σ H, I N σ H → nx N H = some none ∧ Q (.nx σ) H) : ∀ (n i : Nat) (σ : LS) (H : LH), i ≤ N → N < n + i → I i σ H → WS (forL nx asg body n i σ H) Q X
  | 0, i, σ, H, h1, h2, h => by omega
  | n + 1, i, σ, H, h1, h2, h => by
    unfold forL
    by_cases e : i = N
    · subst e
      obtain ⟨s1, s2⟩ := stop σ H h
      rw [s1]
      show WS (.ok _ _) _ _
      rw [WS_ok]
      exact s2
    · obtain ⟨v, e1, e2⟩ := step i σ H (by omega) h
      rw [e1]
      show WS (RS.ofR (asg v σ H) σ _) Q X
      rw [WS_ofR]
      refine e2.mono fun σ1 H1 e3 => ?_
      revert e3
      cases body σ1 H1 with
      | ok f H2 =>
        rw [WS_ok]
        cases f with
        | nx σ2 => exact fun e3 => W_for I N step stop n (i + 1) σ2 H2 (by omega) (by omega) e3
        | ct σ2 => exact fun e3 => W_for I N step stop n (i + 1) σ2 H2 (by omega) (by omega) e3
        | bk σ2 => intro e3; show WS (.ok _ _) _ _; rw [WS_ok]; exact e3
        | rt v => intro e3; show WS (.ok _ _) _ _; rw [WS_ok]; exact e3
      | exc x σ2 H2 => rw [WS_exc]; intro e3; show WS (.exc _ _ _) _ _; rw [WS_exc]; exact e3
      | bad => rw [WS_bad]; exact fun h => h.elim
/-- while: an invariant and a measure -/
theorem W_whl {c : LS → LH → R Bool} {body : LS → LH → RS} {Q : Fl → LH → Prop} {X : LX → LS → LH → Prop} (I : Nat → LS → LH → Prop)
    (step : ∀ k σ H, I k σ H → W (c σ H) (fun b H1 => if b = true then WS (body σ H1) (fun f H2 => match f with
      | .nx σ2 => ∃ j, j < k ∧ I j σ2 H2
      | .ct σ2 => ∃ j, j < k ∧ I j σ2 H2
      | .bk σ2 => Q (.nx σ2) H2
      | .rt v => Q (.rt v) H2) X else Q (.nx σ) H1) (fun x H1 => X x σ H1)) : ∀ (n k : Nat) (σ : LS) (H : LH), k < n → I k σ H → WS (whlL c body n σ H) Q X
  | 0, k, σ, H, h1, h => by omega
  | n + 1, k, σ, H, h1, h => by
    unfold whlL
    rw [WS_ofR]
    refine (step k σ H h).mono fun b H1 e3 => ?_
    cases b with
    | false => rw [if_neg Bool.false_ne_true] at e3 ⊢; rw [WS_ok]; exact e3
    | true =>
      rw [if_pos rfl] at e3 ⊢
      revert e3
      cases body σ H1 with
      | ok f H2 =>
        rw [WS_ok]
        cases f with
        | nx σ2 => exact fun ⟨j, hj, e3⟩ => W_whl I step n j σ2 H2 (by omega) e3
        | ct σ2 => exact fun ⟨j, hj, e3⟩ => W_whl I step n j σ2 H2 (by omega) e3
        | bk σ2 => intro e3; show WS (.ok _ _) _ _; rw [WS_ok]; exact e3
        | rt v => intro e3; show WS (.ok _ _) _ _; rw [WS_ok]; exact e3
      | exc x σ2 H2 => rw [WS_exc]; intro e3; show WS (.exc _ _ _) _ _; rw [WS_exc]; exact e3
      | bad => rw [WS_bad]; exact fun h => h.elim
/-- a comprehension: an invariant by the turns made, the items gathered -/
theorem W_lc {nx : Nat → LH → Option (Option LV)} {asg : LV → LS → LH → R LS} {cond : LS → LH → R Bool} {elt : LS → LH → R LV} {σ : LS} {Q : List LV → LH → Prop} {X : LX → LH → Prop} (I : Nat → List LV → LH → Prop) (N : Nat)
    (step : ∀ i acc H, i < N → I i acc H → acc.length ≤ i → ∃ v, nx i H = some (some v) ∧ W (asg v σ H) (fun σ1 H1 => W (cond σ1 H1) (fun b H2 => if b = true then W (elt σ1 H2) (fun y H3 => I (i + 1) (acc ++ [y]) H3) X else I (i + 1) acc H2) X) X)
    (stop : ∀ acc H, I N acc H → nx N H = some none ∧ Q acc H) (hN : N ≤ SL) : ∀ (n i : Nat) (acc : List LV) (H : LH), i ≤ N → N < n + i → acc.length ≤ i → I i acc H → W (lcL nx asg cond elt σ n i acc H) Q X
  | 0, i, acc, H, h1, h2, _, h => by omega
  | n + 1, i, acc, H, h1, h2, ha, h => by
    unfold lcL
    by_cases e : i = N
    · subst e
      obtain ⟨s1, s2⟩ := stop acc H h
      rw [s1]
      show W (.ok _ _) _ _
      rw [W_ok]
      exact s2
    · obtain ⟨v, e1, e2⟩ := step i acc H (by omega) h ha
      rw [e1]
      show W ((asg v σ H).bind _) Q X
      rw [W_bind]
      refine e2.mono fun σ1 H1 e3 => ?_
      rw [W_bind]
      refine e3.mono fun b H2 e4 => ?_
      cases b with
      | false =>
        rw [if_neg Bool.false_ne_true] at e4 ⊢
        exact W_lc I N step stop hN n (i + 1) acc H2 (by omega) (by omega) (by omega) e4
      | true =>
        rw [if_pos rfl] at e4 ⊢
        rw [W_bind]
        refine e4.mono fun y H3 e5 => ?_
        rw [if_pos (by omega)]
        exact W_lc I N step stop hN n (i + 1) (acc ++ [y]) H3 (by omega) (by omega) (by rw [List.length_append]; simp; omega) e5
/-- items made one by one, the heap going on by states -/
def mapS {S α β : Type} (f : S → α → β × S) : S → List α → List β × S
  | s, [] => ([], s)
  | s, x :: xs => ((f s x).1 :: (mapS f (f s x).2 xs).1, (mapS f (f s x).2 xs).2)
/-- a comprehension without a test over known items -/
theorem lc_st {S : Type} {nx : Nat → LH → Option (Option LV)} {asg : LV → LS → LH → R LS} {cond : LS → LH → R Bool} {elt : LS → LH → R LV} {σ : LS} (h : S → LH) (f : S → LV → LV × S) :
    ∀ (xs : List LV) (n i : Nat) (acc : List LV) (s : S), (∀ j H, nx (i + j) H = some xs[j]?) → (∀ x ∈ xs, ∀ s, W (asg x σ (h s)) (fun σ1 H1 => W (cond σ1 H1) (fun b H2 => b = true ∧ W (elt σ1 H2) (fun y H3 => y = (f s x).1 ∧ H3 = h (f s x).2) noE) noE) noE) → xs.length < n → acc.length + xs.length ≤ SL →
      lcL nx asg cond elt σ n i acc (h s) = .ok (acc ++ (mapS f s xs).1) (h (mapS f s xs).2)
  | [], 0, _, _, _, _, _, hn, _ => by simp at hn
  | [], n + 1, i, acc, s, hx, _, _, _ => by
    unfold lcL
    have := hx 0 (h s)
    simp at this
    rw [this]
    simp [mapS]
  | x :: xs, 0, _, _, _, _, _, hn, _ => by simp at hn
  | x :: xs, n + 1, i, acc, s, hx, hs, hn, hl => by
    unfold lcL
    have e0 := hx 0 (h s)
    simp at e0
    rw [e0]
    have h1 := hs x (List.mem_cons_self ..) s
    show R.bind (asg x σ (h s)) _ = _
    cases q1 : asg x σ (h s) with
    | exc _ _ => rw [q1, W_exc] at h1; exact h1.elim
    | bad => rw [q1, W_bad] at h1; exact h1.elim
    | ok σ1 H1 =>
      rw [q1, W_ok] at h1
      show R.bind (cond σ1 H1) _ = _
      cases q2 : cond σ1 H1 with
      | exc _ _ => rw [q2, W_exc] at h1; exact h1.elim
      | bad => rw [q2, W_bad] at h1; exact h1.elim
      | ok b H2 =>
        rw [q2, W_ok] at h1
        obtain ⟨rfl, h1⟩ := h1
        show R.bind (elt σ1 H2) _ = _
        cases q3 : elt σ1 H2 with
        | exc _ _ => rw [q3, W_exc] at h1; exact h1.elim
        | bad => rw [q3, W_bad] at h1; exact h1.elim
        | ok y H3 =>
          rw [q3, W_ok] at h1
          obtain ⟨rfl, rfl⟩ := h1
          show (if acc.length < SL then _ else _) = _
          rw [List.length_cons] at hl hn
          rw [if_pos (by omega)]
          rw [lc_st h f xs n (i + 1) (acc ++ [(f s x).1]) (f s x).2 (fun j H => by have := hx (j + 1) H; simp at this; rw [show i + 1 + j = i + (j + 1) by omega]; exact this) (fun y hy => hs y (List.mem_cons_of_mem _ hy)) (by omega) (by rw [List.length_append]; simp; omega)]
          simp [mapS, List.append_assoc]
/-- .. the heap standing still -/
theorem lc_map {nx : Nat → LH → Option (Option LV)} {asg : LV → LS → LH → R LS} {cond : LS → LH → R Bool} {elt : LS → LH → R LV} {σ : LS} {H : LH} (f : LV → LV) :
    ∀ (xs : List LV) (n i : Nat) (acc : List LV), (∀ j, nx (i + j) H = some xs[j]?) → (∀ x ∈ xs, W (asg x σ H) (fun σ1 H1 => W (cond σ1 H1) (fun b H2 => b = true ∧ W (elt σ1 H2) (fun y H3 => y = f x ∧ H3 = H) noE) noE) noE) → xs.length < n → acc.length + xs.length ≤ SL →
      lcL nx asg cond elt σ n i acc H = .ok (acc ++ xs.map f) H
  | [], 0, _, _, _, _, hn, _ => by simp at hn
  | [], n + 1, i, acc, hx, _, _, _ => by
    unfold lcL
    have := hx 0
    simp at this
    rw [this]
    simp
  | x :: xs, 0, _, _, _, _, hn, _ => by simp at hn
  | x :: xs, n + 1, i, acc, hx, hs, hn, hl => by
    unfold lcL
    have e0 := hx 0
    simp at e0
    rw [e0]
    have h1 := hs x (List.mem_cons_self ..)
    show R.bind (asg x σ H) _ = _
    cases q1 : asg x σ H with
    | exc _ _ => rw [q1, W_exc] at h1; exact h1.elim
    | bad => rw [q1, W_bad] at h1; exact h1.elim
    | ok σ1 H1 =>
      rw [q1, W_ok] at h1
      show R.bind (cond σ1 H1) _ = _
      cases q2 : cond σ1 H1 with
      | exc _ _ => rw [q2, W_exc] at h1; exact h1.elim
      | bad => rw [q2, W_bad] at h1; exact h1.elim
      | ok b H2 =>
        rw [q2, W_ok] at h1
        obtain ⟨rfl, h1⟩ := h1
        show R.bind (elt σ1 H2) _ = _
        cases q3 : elt σ1 H2 with
        | exc _ _ => rw [q3, W_exc] at h1; exact h1.elim
        | bad => rw [q3, W_bad] at h1; exact h1.elim
        | ok y H3 =>
          rw [q3, W_ok] at h1
          obtain ⟨rfl, rfl⟩ := h1
          show (if acc.length < SL then _ else _) = _
          rw [List.length_cons] at hl hn
          rw [if_pos (by omega)]
          rw [lc_map f xs n (i + 1) (acc ++ [f x]) (fun j => by have := hx (j + 1); simp at this; rw [show i + 1 + j = i + (j + 1) by omega]; exact this) (fun y hy => hs y (List.mem_cons_of_mem _ hy)) (by omega) (by rw [List.length_append]; simp; omega)]
          simp [List.append_assoc]
/-! ### running a text: how each piece reads -/
section
variable {P : Prog} {G : Gam} {Q : LV → LH → Prop} {X : LX → LH → Prop}
def wr (r : Option (Option LV)) (H : LH) : R LV := match r with
  | some (some v) => .ok v H
  | _ => .bad
theorem wr_ok (v : LV) (H : LH) : wr (some (some v)) H = .ok v H := Eq.trans rfl rfl
theorem e_var (i : Nat) (σ : LS) (H : LH) : (den P G (.var i)).e σ H = wr σ[i]? H := Eq.trans rfl rfl
theorem binop_int (o : BOp) (i j : Int) (H : LH) : binop P G o (.int i) (.int j) H = arith o i j H := Eq.trans rfl rfl
theorem arith_add (i j : Int) (H : LH) : arith .add i j H = .ok (.int (i + j)) H := Eq.trans rfl rfl
theorem arith_sub (i j : Int) (H : LH) : arith .sub i j H = .ok (.int (i - j)) H := Eq.trans rfl rfl
theorem arith_mul {i j : Int} {H : LH} (h : mulOk i j = true) : arith .mul i j H = .ok (.int (i * j)) H := by
  show (if mulOk i j = true then _ else _) = _
  rw [if_pos h]
theorem arith_fdivN {i j : Int} {H : LH} (h : j < 0) (h2 : j.natAbs.log2 < 9000) : arith .fdiv i j H = .ok (.int (i.fdiv j)) H := by
  show (if 0 < j ∧ j.natAbs.log2 < 9000 then _ else if j < 0 ∧ j.natAbs.log2 < 9000 then _ else _) = _
  rw [if_neg (by omega), if_pos ⟨h, h2⟩]
theorem arith_mod {i j : Int} {H : LH} (h : 0 < j) : arith .mod i j H = .ok (.int (i % j)) H := by
  show (if 0 < j then _ else _) = _
  rw [if_pos h]
theorem arith_fdiv {i j : Int} {H : LH} (h : 0 < j) (h2 : j.natAbs.log2 < 9000) : arith .fdiv i j H = .ok (.int (i / j)) H := by
  show (if 0 < j ∧ j.natAbs.log2 < 9000 then _ else _) = _
  rw [if_pos ⟨h, h2⟩]
theorem cmp_int_ne (i j : Int) (H : LH) : cmpV P G .ne (.int i) (.int j) H = .ok (.bl (!decide (i = j))) H := Eq.trans rfl rfl
theorem cmp_int_eq (i j : Int) (H : LH) : cmpV P G .eq (.int i) (.int j) H = .ok (.bl (decide (i = j))) H := Eq.trans rfl rfl
theorem cmp_int_lt (i j : Int) (H : LH) : cmpV P G .lt (.int i) (.int j) H = .ok (.bl (decide (i < j))) H := Eq.trans rfl rfl
theorem cmp_int_le (i j : Int) (H : LH) : cmpV P G .le (.int i) (.int j) H = .ok (.bl (decide (i ≤ j))) H := Eq.trans rfl rfl
theorem cmp_int_gt (i j : Int) (H : LH) : cmpV P G .gt (.int i) (.int j) H = .ok (.bl (decide (j < i))) H := Eq.trans rfl rfl
theorem cmp_int_ge (i j : Int) (H : LH) : cmpV P G .ge (.int i) (.int j) H = .ok (.bl (decide (j ≤ i))) H := Eq.trans rfl rfl
theorem truth_bl (b : Bool) (H : LH) : truth P G (.bl b) H = .ok b H := Eq.trans rfl rfl
theorem truth_int (i : Int) (H : LH) : truth P G (.int i) H = .ok (i != 0) H := Eq.trans rfl rfl
theorem callB_abs (i : Int) (H : LH) : callB P G .abs [.int i] H = .ok (.int i.natAbs) H := by
  show R.ok (LV.int (if i < 0 then -i else i)) H = _
  congr 2
  split <;> omega
theorem callB_int (i : Int) (H : LH) : callB P G .int [.int i] H = .ok (.int i) H := Eq.trans rfl rfl
theorem callB_max (i j : Int) (H : LH) : callB P G .max2 [.int i, .int j] H = .ok (.int (if j > i then j else i)) H := Eq.trans rfl rfl
theorem callB_min (i j : Int) (H : LH) : callB P G .min2 [.int i, .int j] H = .ok (.int (if j < i then j else i)) H := Eq.trans rfl rfl
theorem g_nm (i : Nat) (v : LV) (σ : LS) (H : LH) : (den P G (.tnm i)).g v σ H = if i < σ.length then .ok (σ.set i (some v)) H else .bad := Eq.trans rfl rfl
theorem seqOf_tup (xs : List LV) (H : LH) : seqOf H (.tup xs) = some xs := Eq.trans rfl rfl
theorem sl2 (a b : LV) : ([a, b].length ≤ SL) = True := by simp [SL]
theorem sl1 (a : LV) : ([a].length ≤ SL) = True := by simp [SL]
theorem sl3 (a b c : LV) : ([a, b, c].length ≤ SL) = True := by simp [SL]
theorem e_int (i : Int) (σ : LS) (H : LH) : (den P G (.int i)).e σ H = .ok (.int i) H := Eq.trans rfl rfl
theorem e_bl (i : Bool) (σ : LS) (H : LH) : (den P G (.bl i)).e σ H = .ok (.bl i) H := Eq.trans rfl rfl
theorem e_non  (σ : LS) (H : LH) : (den P G .non).e σ H = .ok .non H := Eq.trans rfl rfl
theorem e_str (i : List Nat) (σ : LS) (H : LH) : (den P G (.str i)).e σ H = .ok (.str i) H := Eq.trans rfl rfl
theorem e_glo (i : Nat) (σ : LS) (H : LH) : (den P G (.glo i)).e σ H = .ok (.gl i) H := Eq.trans rfl rfl
theorem e_tup (es : E) (σ : LS) (H : LH) : (den P G (.tup es)).e σ H = ((den P G es).es σ H).bind fun vs H1 => if vs.length ≤ SL then .ok (.tup vs) H1 else .bad := Eq.trans rfl rfl
theorem e_lst (es : E) (σ : LS) (H : LH) : (den P G (.lst es)).e σ H = ((den P G es).es σ H).bind newF := Eq.trans rfl rfl
theorem e_lstM (es : E) (σ : LS) (H : LH) : (den P G (.lstM es)).e σ H = ((den P G es).es σ H).bind newL := Eq.trans rfl rfl
theorem e_bin (o : BOp) (a b : E) (σ : LS) (H : LH) : (den P G (.bin o a b)).e σ H = ((den P G a).e σ H).bind fun x H1 => ((den P G b).e σ H1).bind fun y H2 => binop P G o x y H2 := Eq.trans rfl rfl
theorem e_neg (a : E) (σ : LS) (H : LH) : (den P G (.neg a)).e σ H = ((den P G a).e σ H).bind (negOf P G) := Eq.trans rfl rfl
theorem e_not (a : E) (σ : LS) (H : LH) : (den P G (.not a)).e σ H = (((den P G a).e σ H).bind fun v H1 => truth P G v H1).bind fun b H1 => .ok (.bl (!b)) H1 := Eq.trans rfl rfl
theorem t_not (a : E) (σ : LS) (H : LH) : (den P G (.not a)).t σ H = ((den P G a).t σ H).bind fun b H1 => .ok (!b) H1 := Eq.trans rfl rfl
theorem e_cmp (o : COp) (a b : E) (σ : LS) (H : LH) : (den P G (.cmp o a b)).e σ H = ((den P G a).e σ H).bind fun x H1 => ((den P G b).e σ H1).bind fun y H2 => cmpV P G o x y H2 := Eq.trans rfl rfl
theorem e_isN (a : E) (σ : LS) (H : LH) : (den P G (.isN a)).e σ H = ((den P G a).e σ H).bind fun x H1 => .ok (.bl (isNone x)) H1 := Eq.trans rfl rfl
theorem e_notN (a : E) (σ : LS) (H : LH) : (den P G (.notN a)).e σ H = ((den P G a).e σ H).bind fun x H1 => .ok (.bl (!isNone x)) H1 := Eq.trans rfl rfl
theorem e_and (es : E) (σ : LS) (H : LH) : (den P G (.and es)).e σ H = (den P G es).an σ H := Eq.trans rfl rfl
theorem t_and (es : E) (σ : LS) (H : LH) : (den P G (.and es)).t σ H = (den P G es).ta σ H := Eq.trans rfl rfl
theorem e_or (es : E) (σ : LS) (H : LH) : (den P G (.or es)).e σ H = (den P G es).orr σ H := Eq.trans rfl rfl
theorem t_or (es : E) (σ : LS) (H : LH) : (den P G (.or es)).t σ H = (den P G es).to σ H := Eq.trans rfl rfl
theorem e_ife (c a b : E) (σ : LS) (H : LH) : (den P G (.ife c a b)).e σ H = ((den P G c).t σ H).bind fun k H1 => if k then (den P G a).e σ H1 else (den P G b).e σ H1 := Eq.trans rfl rfl
theorem t_ife (c a b : E) (σ : LS) (H : LH) : (den P G (.ife c a b)).t σ H = ((den P G c).t σ H).bind fun k H1 => if k then (den P G a).t σ H1 else (den P G b).t σ H1 := Eq.trans rfl rfl
theorem e_fld (f : Nat) (a : E) (σ : LS) (H : LH) : (den P G (.fld f a)).e σ H = ((den P G a).e σ H).bind fun x H1 => getFld P G f x H1 := Eq.trans rfl rfl
theorem e_ix (a i : E) (σ : LS) (H : LH) : (den P G (.ix a i)).e σ H = ((den P G a).e σ H).bind fun x H1 => ((den P G i).e σ H1).bind fun y H2 => getIx x y H2 := Eq.trans rfl rfl
theorem e_slc (a lo hi : E) (σ : LS) (H : LH) : (den P G (.slc a lo hi)).e σ H = ((den P G a).e σ H).bind fun x H1 => (((den P G lo).es σ H1).bind partR).bind fun l H2 => (((den P G hi).es σ H2).bind partR).bind fun h H3 => getSl x l h H3 := Eq.trans rfl rfl
theorem e_slcM (a lo hi : E) (σ : LS) (H : LH) : (den P G (.slcM a lo hi)).e σ H = ((den P G a).e σ H).bind fun x H1 => (((den P G lo).es σ H1).bind partR).bind fun l H2 => (((den P G hi).es σ H2).bind partR).bind fun h H3 => getSlM x l h H3 := Eq.trans rfl rfl
theorem e_rev (a : E) (σ : LS) (H : LH) : (den P G (.rev a)).e σ H = ((den P G a).e σ H).bind revOf := Eq.trans rfl rfl
theorem e_call (g : Nat) (es : E) (ks : List Nat) (kes : E) (σ : LS) (H : LH) : (den P G (.call g es ks kes)).e σ H = ((den P G es).es σ H).bind fun vs H1 => ((den P G kes).es σ H1).bind fun ws H2 => match zipK ks ws with
    | some kws => callG P G g vs kws H2
    | none => .bad := Eq.trans rfl rfl
theorem e_blt (b : Bl) (es : E) (σ : LS) (H : LH) : (den P G (.blt b es)).e σ H = ((den P G es).es σ H).bind fun vs H1 => callB P G b vs H1 := Eq.trans rfl rfl
theorem e_met (m : Nat) (o es : E) (ks : List Nat) (kes : E) (σ : LS) (H : LH) : (den P G (.met m o es ks kes)).e σ H = ((den P G o).e σ H).bind fun x H1 => if (recv P m x H1).ok then ((den P G es).es σ H1).bind fun vs H2 => ((den P G kes).es σ H2).bind fun ws H3 => (match zipK ks ws with
    | some kws => callM G m (recv P m x H1) x vs kws H3
    | none => .bad) else .bad := Eq.trans rfl rfl
theorem e_isi (a : E) (ts : List Ty) (σ : LS) (H : LH) : (den P G (.isi a ts)).e σ H = ((den P G a).e σ H).bind (isiOf P ts) := Eq.trans rfl rfl
theorem e_lc (elt tg it cond : E) (own : List Nat) (σ : LS) (H : LH) : (den P G (.lc elt tg it cond own)).e σ H = ((den P G it).i σ H).bind fun J H1 => (noX (lcL (fun i H => J.nx H i) (den P G tg).g (den P G cond).t (den P G elt).e (wipe σ own) P.loops 0 [] H1)).bind fun xs H2 => if noRefs xs then .ok (.fz xs) H2 else .bad := Eq.trans rfl rfl
theorem e_lcM (elt tg it cond : E) (own : List Nat) (σ : LS) (H : LH) : (den P G (.lcM elt tg it cond own)).e σ H = ((den P G it).i σ H).bind fun J H1 => (noX (lcL (fun i H => J.nx H i) (den P G tg).g (den P G cond).t (den P G elt).e (wipe σ own) P.loops 0 [] H1)).bind fun xs H2 => .ok (.ref H2.length) (H2 ++ [.lst xs]) := Eq.trans rfl rfl
theorem t_var (i : Nat) (σ : LS) (H : LH) : (den P G (.var i)).t σ H = ((den P G (.var i)).e σ H).bind fun v H1 => truth P G v H1 := Eq.trans rfl rfl
theorem t_int (i : Int) (σ : LS) (H : LH) : (den P G (.int i)).t σ H = ((den P G (.int i)).e σ H).bind fun v H1 => truth P G v H1 := Eq.trans rfl rfl
theorem t_bl (i : Bool) (σ : LS) (H : LH) : (den P G (.bl i)).t σ H = ((den P G (.bl i)).e σ H).bind fun v H1 => truth P G v H1 := Eq.trans rfl rfl
theorem t_bin (o : BOp) (a b : E) (σ : LS) (H : LH) : (den P G (.bin o a b)).t σ H = ((den P G (.bin o a b)).e σ H).bind fun v H1 => truth P G v H1 := Eq.trans rfl rfl
theorem t_cmp (o : COp) (a b : E) (σ : LS) (H : LH) : (den P G (.cmp o a b)).t σ H = ((den P G (.cmp o a b)).e σ H).bind fun v H1 => truth P G v H1 := Eq.trans rfl rfl
theorem t_isN (a : E) (σ : LS) (H : LH) : (den P G (.isN a)).t σ H = ((den P G (.isN a)).e σ H).bind fun v H1 => truth P G v H1 := Eq.trans rfl rfl
theorem t_notN (a : E) (σ : LS) (H : LH) : (den P G (.notN a)).t σ H = ((den P G (.notN a)).e σ H).bind fun v H1 => truth P G v H1 := Eq.trans rfl rfl
theorem t_fld (f : Nat) (a : E) (σ : LS) (H : LH) : (den P G (.fld f a)).t σ H = ((den P G (.fld f a)).e σ H).bind fun v H1 => truth P G v H1 := Eq.trans rfl rfl
theorem t_ix (a i : E) (σ : LS) (H : LH) : (den P G (.ix a i)).t σ H = ((den P G (.ix a i)).e σ H).bind fun v H1 => truth P G v H1 := Eq.trans rfl rfl
theorem t_call (g : Nat) (es : E) (ks : List Nat) (kes : E) (σ : LS) (H : LH) : (den P G (.call g es ks kes)).t σ H = ((den P G (.call g es ks kes)).e σ H).bind fun v H1 => truth P G v H1 := Eq.trans rfl rfl
theorem t_blt (b : Bl) (es : E) (σ : LS) (H : LH) : (den P G (.blt b es)).t σ H = ((den P G (.blt b es)).e σ H).bind fun v H1 => truth P G v H1 := Eq.trans rfl rfl
theorem t_met (m : Nat) (o es : E) (ks : List Nat) (kes : E) (σ : LS) (H : LH) : (den P G (.met m o es ks kes)).t σ H = ((den P G (.met m o es ks kes)).e σ H).bind fun v H1 => truth P G v H1 := Eq.trans rfl rfl
theorem t_isi (a : E) (ts : List Ty) (σ : LS) (H : LH) : (den P G (.isi a ts)).t σ H = ((den P G (.isi a ts)).e σ H).bind fun v H1 => truth P G v H1 := Eq.trans rfl rfl
theorem t_chain (o o2 : COp) (a b c : E) (σ : LS) (H : LH) : (den P G (.chain o o2 a b c)).t σ H = ((den P G (.chain o o2 a b c)).e σ H).bind fun v H1 => truth P G v H1 := Eq.trans rfl rfl
theorem e_chain (o o2 : COp) (a b c : E) (σ : LS) (H : LH) : (den P G (.chain o o2 a b c)).e σ H = ((den P G a).e σ H).bind fun x H1 => ((den P G b).e σ H1).bind fun y H2 => (cmpV P G o x y H2).bind fun r H3 =>
      chainK (fun σ H3 => ((den P G c).e σ H3).bind fun z H4 => cmpV P G o2 y z H4) σ r H3 := Eq.trans rfl rfl
theorem esn_nil  (σ : LS) (H : LH) : (den P G .nil).es σ H = .ok [] H := Eq.trans rfl rfl
theorem t_nil  (σ : LS) (H : LH) : (den P G .nil).t σ H = .ok true H := Eq.trans rfl rfl
theorem ta_nil  (σ : LS) (H : LH) : (den P G .nil).ta σ H = .ok true H := Eq.trans rfl rfl
theorem to_nil  (σ : LS) (H : LH) : (den P G .nil).to σ H = .ok false H := Eq.trans rfl rfl
theorem esn_cons (a r : E) (σ : LS) (H : LH) : (den P G (.cons a r)).es σ H = ((den P G a).e σ H).bind fun v H1 => ((den P G r).es σ H1).bind fun vs H2 => .ok (v :: vs) H2 := Eq.trans rfl rfl
theorem an_cons (a r : E) (σ : LS) (H : LH) : (den P G (.cons a r)).an σ H = if (den P G r).nil then (den P G a).e σ H else ((den P G a).e σ H).bind fun v H1 => (truth P G v H1).bind fun b H2 => if b then (den P G r).an σ H2 else .ok v H2 := Eq.trans rfl rfl
theorem orr_cons (a r : E) (σ : LS) (H : LH) : (den P G (.cons a r)).orr σ H = if (den P G r).nil then (den P G a).e σ H else ((den P G a).e σ H).bind fun v H1 => (truth P G v H1).bind fun b H2 => if b then .ok v H2 else (den P G r).orr σ H2 := Eq.trans rfl rfl
theorem ta_cons (a r : E) (σ : LS) (H : LH) : (den P G (.cons a r)).ta σ H = ((den P G a).t σ H).bind fun b H1 => if b then (den P G r).ta σ H1 else .ok false H1 := Eq.trans rfl rfl
theorem to_cons (a r : E) (σ : LS) (H : LH) : (den P G (.cons a r)).to σ H = ((den P G a).t σ H).bind fun b H1 => if b then .ok true H1 else (den P G r).to σ H1 := Eq.trans rfl rfl
theorem es_star (a r : E) (σ : LS) (H : LH) : (den P G (.star a r)).es σ H = ((den P G a).e σ H).bind fun v H1 => match seqOf H1 v with
      | some xs => ((den P G r).es σ H1).bind fun vs H2 => .ok (xs ++ vs) H2
      | none => .bad := Eq.trans rfl rfl
theorem i_itv (a : E) (σ : LS) (H : LH) : (den P G (.itv a)).i σ H = ((den P G a).e σ H).bind itvOf := Eq.trans rfl rfl
theorem i_itr (a : E) (σ : LS) (H : LH) : (den P G (.itr a)).i σ H = ((den P G a).es σ H).bind rngOf := Eq.trans rfl rfl
theorem i_ite (a : E) (σ : LS) (H : LH) : (den P G (.ite a)).i σ H = ((den P G a).e σ H).bind iteOf := Eq.trans rfl rfl
theorem i_itz (a b : E) (σ : LS) (H : LH) : (den P G (.itz a b)).i σ H = ((den P G a).e σ H).bind fun x H1 => ((den P G b).e σ H1).bind fun y H2 => itzOf x y H2 := Eq.trans rfl rfl
theorem i_itb (a : E) (σ : LS) (H : LH) : (den P G (.itb a)).i σ H = ((den P G a).e σ H).bind itbOf := Eq.trans rfl rfl
theorem g_ttp (ts : E) (v : LV) (σ : LS) (H : LH) : (den P G (.ttp ts)).g v σ H = match seqOf H v with
      | some xs => (den P G ts).gs xs σ H
      | none => .bad := Eq.trans rfl rfl
theorem gs_nil  (σ : LS) (H : LH) : (den P G .nil).gs [] σ H = .ok σ H := Eq.trans rfl rfl
theorem gs_cons (a r : E) (x : LV) (xs : List LV) (σ : LS) (H : LH) : (den P G (.cons a r)).gs (x :: xs) σ H = noX (((den P G a).g x σ H).bind fun σ1 H1 => (den P G r).gs xs σ1 H1) := Eq.trans rfl rfl
theorem g_tfl (f : Nat) (o : E) (v : LV) (σ : LS) (H : LH) : (den P G (.tfl f o)).g v σ H = ((den P G o).e σ H).bind fun x H1 => (setFld P f x v H1).bind fun _ H2 => .ok σ H2 := Eq.trans rfl rfl
theorem g_tix (o i : E) (v : LV) (σ : LS) (H : LH) : (den P G (.tix o i)).g v σ H = ((den P G o).e σ H).bind fun x H1 => ((den P G i).e σ H1).bind fun y H2 => (setIx x y v H2).bind fun _ H3 => .ok σ H3 := Eq.trans rfl rfl
theorem s_skip  (σ : LS) (H : LH) : (den P G .skip).s σ H = .ok (.nx σ) H := Eq.trans rfl rfl
theorem s_ex (a : E) (σ : LS) (H : LH) : (den P G (.ex a)).s σ H = RS.ofR ((den P G a).e σ H) σ fun _ H1 => .ok (.nx σ) H1 := Eq.trans rfl rfl
theorem s_asg (t a : E) (σ : LS) (H : LH) : (den P G (.asg t a)).s σ H = RS.ofR ((den P G a).e σ H) σ fun v H1 => RS.ofR ((den P G t).g v σ H1) σ fun σ1 H2 => .ok (.nx σ1) H2 := Eq.trans rfl rfl
theorem s_ret (a : E) (σ : LS) (H : LH) : (den P G (.ret a)).s σ H = RS.ofR ((den P G a).e σ H) σ fun v H1 => .ok (.rt v) H1 := Eq.trans rfl rfl
theorem s_iff (c a b : E) (σ : LS) (H : LH) : (den P G (.iff c a b)).s σ H = RS.ofR ((den P G c).t σ H) σ fun k H1 => if k then (den P G a).s σ H1 else (den P G b).s σ H1 := Eq.trans rfl rfl
theorem s_whl (c b : E) (σ : LS) (H : LH) : (den P G (.whl c b)).s σ H = whlL (den P G c).t (den P G b).s P.loops σ H := Eq.trans rfl rfl
theorem s_for (t it b : E) (σ : LS) (H : LH) : (den P G (.for t it b)).s σ H = RS.ofR ((den P G it).i σ H) σ fun J H1 => forL (fun i H => J.nx H i) (den P G t).g (den P G b).s P.loops 0 σ H1 := Eq.trans rfl rfl
theorem s_brk  (σ : LS) (H : LH) : (den P G .brk).s σ H = .ok (.bk σ) H := Eq.trans rfl rfl
theorem s_cnt  (σ : LS) (H : LH) : (den P G .cnt).s σ H = .ok (.ct σ) H := Eq.trans rfl rfl
theorem nil_nil : (den P G .nil).nil = true := Eq.trans rfl rfl
theorem nil_cons (a r : E) : (den P G (.cons a r)).nil = false := Eq.trans rfl rfl
theorem le_sl1 : (1 ≤ SL) = True := by simp [SL]
theorem le_sl2 : (2 ≤ SL) = True := by simp [SL]
theorem le_sl3 : (3 ≤ SL) = True := by simp [SL]
theorem le_sl4 : (4 ≤ SL) = True := by simp [SL]
theorem le_sl5 : (5 ≤ SL) = True := by simp [SL]
theorem le_sl6 : (6 ≤ SL) = True := by simp [SL]
theorem getIx_t0 (a : LV) (r : List LV) (H : LH) : getIx (.tup (a :: r)) (.int 0) H = .ok a H := by
  simp [getIx, seqOf, atI, ixN]
theorem getIx_t1 (a b : LV) (r : List LV) (H : LH) : getIx (.tup (a :: b :: r)) (.int 1) H = .ok b H := by
  have : ¬ ((r.length : Int) + 1 + 1 ≤ 1) := by omega
  simp [getIx, seqOf, atI, ixN]
  rw [if_pos (by omega)]
  simp
theorem lstOf_ref {a : Nat} {xs : List LV} {H : LH} (h : H[a]? = some (.lst xs)) : lstOf H (.ref a) = some xs := by
  show (match H[a]? with
    | some (.lst xs) => some xs
    | _ => none) = _
  rw [h]
theorem seqOf_ref (a : Nat) (H : LH) : seqOf H (.ref a) = lstOf H (.ref a) := Eq.trans rfl rfl
theorem seqOf_fz (xs : List LV) (H : LH) : seqOf H (.fz xs) = some xs := Eq.trans rfl rfl
theorem lstOf_fz (xs : List LV) (H : LH) : lstOf H (.fz xs) = some xs := Eq.trans rfl rfl
theorem atI_nat {α : Type} {xs : List α} {i : Int} {j : Nat} (e : i = j) {v : α} (h : xs[j]? = some v) : atI xs i = some v := by
  have hj : j < xs.length := lt_of_get h
  subst e
  unfold atI ixN
  rw [if_pos (by omega), if_pos (by omega)]
  simpa using h
theorem getIx_ref {a : Nat} {xs : List LV} {H : LH} (h : H[a]? = some (.lst xs)) {i : Int} {j : Nat} (e : i = j) {v : LV} (h2 : xs[j]? = some v) : getIx (.ref a) (.int i) H = .ok v H := by
  show (match lstOf H (.ref a) with
      | some xs => match atI xs i with
        | some v => .ok v H
        | none => .bad
      | none => .bad : R LV) = _
  rw [lstOf_ref h]
  show (match atI xs i with
        | some v => .ok v H
        | none => .bad : R LV) = _
  rw [atI_nat e h2]
theorem len_ref {a : Nat} {xs : List LV} {H : LH} (h : H[a]? = some (.lst xs)) : callB P G .len [.ref a] H = .ok (.int xs.length) H := by
  show (match lstOf H (.ref a) with
      | some xs => .ok (.int xs.length) H
      | none => _ : R LV) = _
  rw [lstOf_ref h]
theorem getSl_ref {a : Nat} {xs : List LV} {H : LH} (h : H[a]? = some (.lst xs)) (l k : Option Int) : getSl (.ref a) l k H = newF (cut xs l k) H := by
  show (match lstOf H (.ref a) with
    | some xs => newF (cut xs l k) H
    | none => .bad) = _
  rw [lstOf_ref h]
theorem mulOk_l {i j : Int} (h : i.natAbs < 2 ^ 64) : mulOk i j = true := by
  unfold mulOk
  simp [h]
theorem mulOk_r {i j : Int} (h : j.natAbs < 2 ^ 64) : mulOk i j = true := by
  unfold mulOk
  simp [h]
theorem setIx_ref {a : Nat} {xs : List LV} {H : LH} (h : H[a]? = some (.lst xs)) {i : Int} {j : Nat} (e : i = j) (hj : j < xs.length) (v : LV) : setIx (.ref a) (.int i) v H = .ok () (H.set a (.lst (xs.set j v))) := by
  subst e
  show (match H[a]? with
    | some (.lst xs) => match ixN xs.length j with
      | some j => .ok () (H.set a (.lst (xs.set j v)))
      | none => .bad
    | _ => .bad : R Unit) = _
  rw [h]
  show (match ixN xs.length j with
      | some j => .ok () (H.set a (.lst (xs.set j v)))
      | none => .bad : R Unit) = _
  unfold ixN
  rw [if_pos (by omega), if_pos (by omega)]
  rfl
end
end PM

set_option Elab.async false
set_option linter.all false
set_option autoImplicit false
set_option maxHeartbeats 2000000
/-! # M0b: how operations read on known values -/
namespace PM
section
variable {P : Prog} {G : Gam}

theorem ty_int_non  (H : LH) : tyOne P .int (.non) H = some false := Eq.trans rfl rfl
theorem ty_int_bl (b : Bool) (H : LH) : tyOne P .int (.bl b) H = some true := Eq.trans rfl rfl
theorem ty_int_int (i : Int) (H : LH) : tyOne P .int (.int i) H = some true := Eq.trans rfl rfl
theorem ty_int_str (s : List Nat) (H : LH) : tyOne P .int (.str s) H = some false := Eq.trans rfl rfl
theorem ty_int_tup (xs : List LV) (H : LH) : tyOne P .int (.tup xs) H = some false := Eq.trans rfl rfl
theorem ty_int_fz (xs : List LV) (H : LH) : tyOne P .int (.fz xs) H = some false := Eq.trans rfl rfl
theorem ty_bool_non  (H : LH) : tyOne P .bool (.non) H = some false := Eq.trans rfl rfl
theorem ty_bool_bl (b : Bool) (H : LH) : tyOne P .bool (.bl b) H = some true := Eq.trans rfl rfl
theorem ty_bool_int (i : Int) (H : LH) : tyOne P .bool (.int i) H = some false := Eq.trans rfl rfl
theorem ty_bool_str (s : List Nat) (H : LH) : tyOne P .bool (.str s) H = some false := Eq.trans rfl rfl
theorem ty_bool_tup (xs : List LV) (H : LH) : tyOne P .bool (.tup xs) H = some false := Eq.trans rfl rfl
theorem ty_bool_fz (xs : List LV) (H : LH) : tyOne P .bool (.fz xs) H = some false := Eq.trans rfl rfl
theorem ty_str_non  (H : LH) : tyOne P .str (.non) H = some false := Eq.trans rfl rfl
theorem ty_str_bl (b : Bool) (H : LH) : tyOne P .str (.bl b) H = some false := Eq.trans rfl rfl
theorem ty_str_int (i : Int) (H : LH) : tyOne P .str (.int i) H = some false := Eq.trans rfl rfl
theorem ty_str_str (s : List Nat) (H : LH) : tyOne P .str (.str s) H = some true := Eq.trans rfl rfl
theorem ty_str_tup (xs : List LV) (H : LH) : tyOne P .str (.tup xs) H = some false := Eq.trans rfl rfl
theorem ty_str_fz (xs : List LV) (H : LH) : tyOne P .str (.fz xs) H = some false := Eq.trans rfl rfl
theorem ty_list_non  (H : LH) : tyOne P .list (.non) H = some false := Eq.trans rfl rfl
theorem ty_list_bl (b : Bool) (H : LH) : tyOne P .list (.bl b) H = some false := Eq.trans rfl rfl
theorem ty_list_int (i : Int) (H : LH) : tyOne P .list (.int i) H = some false := Eq.trans rfl rfl
theorem ty_list_str (s : List Nat) (H : LH) : tyOne P .list (.str s) H = some false := Eq.trans rfl rfl
theorem ty_list_tup (xs : List LV) (H : LH) : tyOne P .list (.tup xs) H = some false := Eq.trans rfl rfl
theorem ty_list_fz (xs : List LV) (H : LH) : tyOne P .list (.fz xs) H = some true := Eq.trans rfl rfl
theorem ty_tuple_non  (H : LH) : tyOne P .tuple (.non) H = some false := Eq.trans rfl rfl
theorem ty_tuple_bl (b : Bool) (H : LH) : tyOne P .tuple (.bl b) H = some false := Eq.trans rfl rfl
theorem ty_tuple_int (i : Int) (H : LH) : tyOne P .tuple (.int i) H = some false := Eq.trans rfl rfl
theorem ty_tuple_str (s : List Nat) (H : LH) : tyOne P .tuple (.str s) H = some false := Eq.trans rfl rfl
theorem ty_tuple_tup (xs : List LV) (H : LH) : tyOne P .tuple (.tup xs) H = some true := Eq.trans rfl rfl
theorem ty_tuple_fz (xs : List LV) (H : LH) : tyOne P .tuple (.fz xs) H = some false := Eq.trans rfl rfl
theorem ty_dict_non  (H : LH) : tyOne P .dict (.non) H = some false := Eq.trans rfl rfl
theorem ty_dict_bl (b : Bool) (H : LH) : tyOne P .dict (.bl b) H = some false := Eq.trans rfl rfl
theorem ty_dict_int (i : Int) (H : LH) : tyOne P .dict (.int i) H = some false := Eq.trans rfl rfl
theorem ty_dict_str (s : List Nat) (H : LH) : tyOne P .dict (.str s) H = some false := Eq.trans rfl rfl
theorem ty_dict_tup (xs : List LV) (H : LH) : tyOne P .dict (.tup xs) H = some false := Eq.trans rfl rfl
theorem ty_dict_fz (xs : List LV) (H : LH) : tyOne P .dict (.fz xs) H = some false := Eq.trans rfl rfl
theorem truth_nonX  (H : LH) : truth P G (.non) H = .ok false H := Eq.trans rfl rfl
theorem isNone_non  : isNone (.non) = true := Eq.trans rfl rfl
theorem truth_blX (b : Bool) (H : LH) : truth P G (.bl b) H = .ok b H := Eq.trans rfl rfl
theorem isNone_bl (b : Bool) : isNone (.bl b) = false := Eq.trans rfl rfl
theorem truth_intX (i : Int) (H : LH) : truth P G (.int i) H = .ok (i != 0) H := Eq.trans rfl rfl
theorem isNone_int (i : Int) : isNone (.int i) = false := Eq.trans rfl rfl
theorem truth_strX (s : List Nat) (H : LH) : truth P G (.str s) H = (if s.length ≤ SL then .ok (!s.isEmpty) H else .bad) := Eq.trans rfl rfl
theorem isNone_str (s : List Nat) : isNone (.str s) = false := Eq.trans rfl rfl
theorem truth_tupX (xs : List LV) (H : LH) : truth P G (.tup xs) H = .ok (!xs.isEmpty) H := Eq.trans rfl rfl
theorem isNone_tup (xs : List LV) : isNone (.tup xs) = false := Eq.trans rfl rfl
theorem truth_fzX (xs : List LV) (H : LH) : truth P G (.fz xs) H = .ok (!xs.isEmpty) H := Eq.trans rfl rfl
theorem isNone_fz (xs : List LV) : isNone (.fz xs) = false := Eq.trans rfl rfl
theorem isNone_obj (c : Nat) (ns : List Nat) (vs : List LV) : isNone (.obj c ns vs) = false := Eq.trans rfl rfl
theorem isiOf_eq (ts : List Ty) (x : LV) (H : LH) : isiOf P ts x H = match tyAny P x H ts with
  | some b => .ok (.bl b) H
  | none => .bad := Eq.trans rfl rfl
theorem tyAny_nil (v : LV) (H : LH) : tyAny P v H [] = some false := Eq.trans rfl rfl
theorem tyAny_cons (v : LV) (H : LH) (t : Ty) (r : List Ty) : tyAny P v H (t :: r) = match tyOne P t v H with
    | some true => some true
    | some false => tyAny P v H r
    | none => none := Eq.trans rfl rfl
theorem cmp_obj_eq (c : Nat) (ns : List Nat) (vs : List LV) (y : LV) (H : LH) : cmpV P G .eq (.obj c ns vs) y H = if eqArg P H y then ownM P G H c kEq [.obj c ns vs, y] else .bad := Eq.trans rfl rfl
theorem eqArg_int (i : Int) (H : LH) : eqArg P H (.int i) = true := Eq.trans rfl rfl
theorem eqArg_non (H : LH) : eqArg P H .non = true := Eq.trans rfl rfl
theorem eqArg_bl (i : Bool) (H : LH) : eqArg P H (.bl i) = true := Eq.trans rfl rfl
theorem eqArg_str (i : List Nat) (H : LH) : eqArg P H (.str i) = true := Eq.trans rfl rfl
theorem eqArg_obj (c : Nat) (ns : List Nat) (vs : List LV) (H : LH) : eqArg P H (.obj c ns vs) = P.isCls c := Eq.trans rfl rfl
theorem binop_str (s t : List Nat) (H : LH) : binop P G .add (.str s) (.str t) H = if s.length + t.length ≤ SL then .ok (.str (s ++ t)) H else .bad := Eq.trans rfl rfl
theorem binop_tup (s t : List LV) (H : LH) : binop P G .add (.tup s) (.tup t) H = if s.length + t.length ≤ SL then .ok (.tup (s ++ t)) H else .bad := Eq.trans rfl rfl
theorem binop_bl (a b : Bool) (H : LH) : binop P G .sub (.bl a) (.bl b) H = .ok (.int ((if a then 1 else 0) - (if b then 1 else 0))) H := Eq.trans rfl rfl
theorem binop_fz (s t : List LV) (H : LH) : binop P G .add (.fz s) (.fz t) H = if s.length + t.length ≤ SL then newF (s ++ t) H else .bad := Eq.trans rfl rfl
theorem binop_fzM (s t : List LV) (H : LH) : binop P G .addM (.fz s) (.fz t) H = if s.length + t.length ≤ SL then newL (s ++ t) H else .bad := Eq.trans rfl rfl
theorem binop_rep (s : List LV) (k : Int) (H : LH) : binop P G .mul (.fz s) (.int k) H = listMul .mul s k H := Eq.trans rfl rfl
theorem binop_repM (a : Nat) (s : List LV) (k : Int) (H : LH) (h : H[a]? = some (.lst s)) : binop P G .mulM (.ref a) (.int k) H = listMul .mulM s k H := by
  show (match lstH H (.ref a) with
  | some xs => listMul .mulM xs k H
  | none => _ : R LV) = _
  rw [show lstH H (.ref a) = some s from lstOf_ref h]
theorem binop_add_obj (c c' : Nat) (ns ns' : List Nat) (vs vs' : List LV) (H : LH) : binop P G .add (.obj c ns vs) (.obj c' ns' vs') H = if c = c' then ownM P G H c kAdd [.obj c ns vs, .obj c' ns' vs'] else .bad := Eq.trans rfl rfl
theorem binop_sub_obj (c c' : Nat) (ns ns' : List Nat) (vs vs' : List LV) (H : LH) : binop P G .sub (.obj c ns vs) (.obj c' ns' vs') H = if c = c' then ownM P G H c kSub [.obj c ns vs, .obj c' ns' vs'] else .bad := Eq.trans rfl rfl
theorem binop_mul_obj (c c' : Nat) (ns ns' : List Nat) (vs vs' : List LV) (H : LH) : binop P G .mul (.obj c ns vs) (.obj c' ns' vs') H = if c = c' then ownM P G H c kMul [.obj c ns vs, .obj c' ns' vs'] else .bad := Eq.trans rfl rfl
theorem binop_bor_obj (c c' : Nat) (ns ns' : List Nat) (vs vs' : List LV) (H : LH) : binop P G .bor (.obj c ns vs) (.obj c' ns' vs') H = if c = c' then ownM P G H c kOr [.obj c ns vs, .obj c' ns' vs'] else .bad := Eq.trans rfl rfl
theorem neg_int (i : Int) (H : LH) : negOf P G (.int i) H = .ok (.int (-i)) H := Eq.trans rfl rfl
theorem neg_obj (c : Nat) (ns : List Nat) (vs : List LV) (H : LH) : negOf P G (.obj c ns vs) H = ownM P G H c kNeg [.obj c ns vs] := Eq.trans rfl rfl
theorem len_fz (xs : List LV) (H : LH) : callB P G .len [.fz xs] H = .ok (.int xs.length) H := Eq.trans rfl rfl
theorem len_tup (xs : List LV) (H : LH) : callB P G .len [.tup xs] H = .ok (.int xs.length) H := Eq.trans rfl rfl
theorem len_str (s : List Nat) (H : LH) : callB P G .len [.str s] H = if s.length ≤ SL then .ok (.int s.length) H else .bad := Eq.trans rfl rfl
theorem list_fz (xs : List LV) (H : LH) : callB P G .list [.fz xs] H = newF xs H := Eq.trans rfl rfl
theorem list_tup (xs : List LV) (H : LH) : callB P G .list [.tup xs] H = newF xs H := Eq.trans rfl rfl
theorem tuple_fz (xs : List LV) (H : LH) : callB P G .tuple [.fz xs] H = .ok (.tup xs) H := Eq.trans rfl rfl
theorem tuple_tup (xs : List LV) (H : LH) : callB P G .tuple [.tup xs] H = .ok (.tup xs) H := Eq.trans rfl rfl
theorem bool_int (i : Int) (H : LH) : callB P G .bool [.int i] H = .ok (.bl (i != 0)) H := Eq.trans rfl rfl
theorem bool_fz (xs : List LV) (H : LH) : callB P G .bool [.fz xs] H = .ok (.bl (!xs.isEmpty)) H := Eq.trans rfl rfl
theorem callB_intb (b : Bool) (H : LH) : callB P G .int [.bl b] H = .ok (.int (if b then 1 else 0)) H := Eq.trans rfl rfl
theorem boolsOf_map (bs : List Bool) : boolsOf (bs.map .bl) = some bs := by
  induction bs with
  | nil => rfl
  | cons b bs ih => rw [List.map_cons]; unfold boolsOf; rw [ih]; rfl
theorem intsOf_map (bs : List Int) : intsOf (bs.map .int) = some bs := by
  induction bs with
  | nil => rfl
  | cons b bs ih => rw [List.map_cons]; unfold intsOf; rw [ih]; rfl
theorem strsOf_map (bs : List (List Nat)) : strsOf (bs.map .str) = some bs := by
  induction bs with
  | nil => rfl
  | cons b bs ih => rw [List.map_cons]; unfold strsOf; rw [ih]; rfl
theorem all_fz (bs : List Bool) (H : LH) : callB P G .all [.fz (bs.map .bl)] H = .ok (.bl (bs.all id)) H := by
  show (match boolsOf (bs.map .bl) with
    | some bs => .ok (.bl (bs.all id)) H
    | none => .bad : R LV) = _
  rw [boolsOf_map]
theorem any_fz (bs : List Bool) (H : LH) : callB P G .any [.fz (bs.map .bl)] H = .ok (.bl (bs.any id)) H := by
  show (match boolsOf (bs.map .bl) with
    | some bs => .ok (.bl (bs.any id)) H
    | none => .bad : R LV) = _
  rw [boolsOf_map]
theorem sum_fz (bs : List Int) (H : LH) : callB P G .sum [.fz (bs.map .int)] H = .ok (.int bs.sum) H := by
  show (match intsOf (bs.map .int) with
    | some ns => .ok (.int ns.sum) H
    | none => .bad : R LV) = _
  rw [intsOf_map]
theorem itv_fz (xs : List LV) (H : LH) : itvOf (.fz xs) H = .ok (.l (.fz xs)) H := Eq.trans rfl rfl
theorem itv_tup (xs : List LV) (H : LH) : itvOf (.tup xs) H = .ok (.t xs) H := Eq.trans rfl rfl
theorem itv_str (xs : List Nat) (H : LH) : itvOf (.str xs) H = .ok (.s xs) H := Eq.trans rfl rfl
theorem ite_fz (xs : List LV) (H : LH) : iteOf (.fz xs) H = .ok (.el (.fz xs)) H := Eq.trans rfl rfl
theorem ite_tup (xs : List LV) (H : LH) : iteOf (.tup xs) H = .ok (.et xs) H := Eq.trans rfl rfl
theorem itb_fz (xs : List LV) (H : LH) : itbOf (.fz xs) H = .ok (.bl (.fz xs) xs.length) H := Eq.trans rfl rfl
theorem itb_tup (xs : List LV) (H : LH) : itbOf (.tup xs) H = .ok (.bt xs) H := Eq.trans rfl rfl
theorem itz_fz (xs ys : List LV) (H : LH) : itzOf (.fz xs) (.fz ys) H = .ok (.z (.fz xs) (.fz ys)) H := Eq.trans rfl rfl
theorem itz_tup (xs ys : List LV) (H : LH) : itzOf (.tup xs) (.tup ys) H = .ok (.zt xs ys) H := Eq.trans rfl rfl
theorem nx_l (xs : List LV) (i : Nat) (H : LH) : LIt.nx H i (.l (.fz xs)) = some xs[i]? := Eq.trans rfl rfl
theorem nx_t (xs : List LV) (i : Nat) (H : LH) : LIt.nx H i (.t xs) = some xs[i]? := Eq.trans rfl rfl
theorem nx_el (xs : List LV) (i : Nat) (H : LH) : LIt.nx H i (.el (.fz xs)) = some ((xs[i]?).map fun v => .tup [.int i, v]) := Eq.trans rfl rfl
theorem nx_z (xs ys : List LV) (i : Nat) (H : LH) : LIt.nx H i (.z (.fz xs) (.fz ys)) = some ((xs.zip ys)[i]?.map fun p => LV.tup [p.1, p.2]) := by
  show some (match xs[i]?, ys[i]? with
      | some v, some w => some (LV.tup [v, w])
      | _, _ => none) = _
  congr 1
  rw [List.zip, List.getElem?_zipWith]
  cases xs[i]? <;> cases ys[i]? <;> rfl
theorem nx_r (lo : Int) (st : Int) (n i : Nat) (H : LH) : LIt.nx H i (.r lo st n) = some (if i < n then some (.int (lo + i * st)) else none) := Eq.trans rfl rfl
theorem rng1 (j : Int) (H : LH) (h : -(2 ^ 62) ≤ j ∧ j < 2 ^ 62) : rngOf [.int j] H = .ok (.r 0 1 j.toNat) H := by
  show (if -(2 ^ 62) ≤ j ∧ j < 2 ^ 62 then _ else _) = _
  rw [if_pos h]
theorem rng2 (i j : Int) (H : LH) (h : -(2 ^ 62) ≤ i ∧ i < 2 ^ 62 ∧ -(2 ^ 62) ≤ j ∧ j < 2 ^ 62) : rngOf [.int i, .int j] H = .ok (.r i 1 (j - i).toNat) H := by
  show (if -(2 ^ 62) ≤ i ∧ i < 2 ^ 62 ∧ -(2 ^ 62) ≤ j ∧ j < 2 ^ 62 then _ else _) = _
  rw [if_pos h]
theorem getSl_fz (xs : List LV) (l h : Option Int) (H : LH) : getSl (.fz xs) l h H = newF (cut xs l h) H := Eq.trans rfl rfl
theorem getSl_tup (xs : List LV) (l h : Option Int) (H : LH) : getSl (.tup xs) l h H = .ok (.tup (cut xs l h)) H := Eq.trans rfl rfl
theorem getSl_str (xs : List Nat) (l h : Option Int) (H : LH) : getSl (.str xs) l h H = if xs.length ≤ SL then .ok (.str (cut xs l h)) H else .bad := Eq.trans rfl rfl
theorem getSlM_fz (xs : List LV) (l h : Option Int) (H : LH) : getSlM (.fz xs) l h H = newL (cut xs l h) H := Eq.trans rfl rfl
theorem revOf_fz (xs : List LV) (H : LH) : revOf (.fz xs) H = newF xs.reverse H := Eq.trans rfl rfl
theorem partR_nil (H : LH) : partR [] H = .ok none H := Eq.trans rfl rfl
theorem partR_int (i : Int) (H : LH) : partR [.int i] H = .ok (some i) H := Eq.trans rfl rfl
theorem newF_ok' {xs : List LV} {H : LH} (h1 : xs.length ≤ SL) (h2 : noRefs xs = true) : newF xs H = .ok (.fz xs) H := by
  unfold newF
  rw [if_pos ⟨h1, h2⟩]
theorem newL_ok' {xs : List LV} {H : LH} (h1 : xs.length ≤ SL) : newL xs H = .ok (.ref H.length) (H ++ [.lst xs]) := by
  unfold newL
  rw [if_pos h1]
theorem noRefs_all : ∀ xs : List LV, noRefs xs = xs.all noRef
  | [] => rfl
  | x :: xs => by unfold noRefs; rw [noRefs_all xs]; rfl
theorem noRefs_map {α : Type} (f : α → LV) (xs : List α) (h : ∀ x ∈ xs, noRef (f x) = true) : noRefs (xs.map f) = true := by
  rw [noRefs_all, List.all_eq_true]
  intro y hy
  obtain ⟨x, hx, rfl⟩ := List.mem_map.mp hy
  exact h x hx
theorem noRefs_ints (xs : List Int) : noRefs (xs.map .int) = true := noRefs_map _ _ fun _ _ => rfl
theorem noRefs_app (xs ys : List LV) : noRefs (xs ++ ys) = (noRefs xs && noRefs ys) := by rw [noRefs_all, noRefs_all, noRefs_all, List.all_append]
theorem noRefs_nil : noRefs [] = true := Eq.trans rfl rfl
theorem noRefs_cons (x : LV) (xs : List LV) : noRefs (x :: xs) = (noRef x && noRefs xs) := by rw [noRefs]
theorem noRef_int (i : Int) : noRef (.int i) = true := Eq.trans rfl rfl
theorem noRef_bl (i : Bool) : noRef (.bl i) = true := Eq.trans rfl rfl
theorem noRef_str (i : List Nat) : noRef (.str i) = true := Eq.trans rfl rfl
theorem noRef_non : noRef .non = true := Eq.trans rfl rfl
theorem noRef_fz (xs : List LV) : noRef (.fz xs) = true := Eq.trans rfl rfl
theorem noRef_scr (xs : List LV) : noRef (.scr xs) = true := Eq.trans rfl rfl
theorem noRef_obj (c : Nat) (ns : List Nat) (xs : List LV) : noRef (.obj c ns xs) = true := Eq.trans rfl rfl
theorem noRef_tup (xs : List LV) : noRef (.tup xs) = noRefs xs := by rw [noRef]
/-! ### what is only read -/
/-! how deep tuples stand in one another -/
mutual
/-- how deep tuples stand in one another -/
def dep : LV → Nat
  | .tup xs => deps xs + 1
  | _ => 0
def deps : List LV → Nat
  | [] => 0
  | x :: xs => max (dep x) (deps xs)
end
theorem frI_at {H : LH} {k n : Nat} {v : LV} (h : ∀ a, v ≠ .ref a) (h2 : ∀ xs, v ≠ .tup xs) : frI H k (n + 1) v = some v := by
  cases v <;> first | rfl | exact absurd rfl (h _) | exact absurd rfl (h2 _)
mutual
theorem frI_pure {H : LH} {k : Nat} : ∀ (n : Nat) (v : LV), noRef v = true → dep v < n → frI H k n v = some v
  | 0, _, _, h => by omega
  | n + 1, v, hn, h => by
    cases v with
    | ref a => unfold noRef at hn; cases hn
    | tup xs =>
      show (optAll (frI H k n) xs).map LV.tup = _
      rw [noRef_tup] at hn
      rw [frIs_pure n xs hn (by unfold dep at h; omega)]
      rfl
    | _ => rfl
theorem frIs_pure {H : LH} {k : Nat} : ∀ (n : Nat) (xs : List LV), noRefs xs = true → deps xs < n → optAll (frI H k n) xs = some xs
  | n, [], _, _ => rfl
  | n, x :: xs, hn, h => by
    rw [noRefs_cons, Bool.and_eq_true] at hn
    unfold deps at h
    unfold optAll
    rw [frI_pure n x hn.1 (by omega), frIs_pure n xs hn.2 (by omega)]
end
mutual
theorem frO_pure {H : LH} {rs : List Nat} : ∀ (n : Nat) (v : LV), noRef v = true → dep v < n → frO H rs n v = some v
  | 0, _, _, h => by omega
  | n + 1, v, hn, h => by
    cases v with
    | ref a => unfold noRef at hn; cases hn
    | tup xs =>
      show (optAll (frO H rs n) xs).map LV.tup = _
      rw [noRef_tup] at hn
      rw [frOs_pure n xs hn (by unfold dep at h; omega)]
      rfl
    | _ => rfl
theorem frOs_pure {H : LH} {rs : List Nat} : ∀ (n : Nat) (xs : List LV), noRefs xs = true → deps xs < n → optAll (frO H rs n) xs = some xs
  | n, [], _, _ => rfl
  | n, x :: xs, hn, h => by
    rw [noRefs_cons, Bool.and_eq_true] at hn
    unfold deps at h
    unfold optAll
    rw [frO_pure n x hn.1 (by omega), frOs_pure n xs hn.2 (by omega)]
end
theorem frO_int (H : LH) (rs : List Nat) (i : Int) : frO H rs 60 (.int i) = some (.int i) := Eq.trans rfl rfl
theorem frO_bl (H : LH) (rs : List Nat) (i : Bool) : frO H rs 60 (.bl i) = some (.bl i) := Eq.trans rfl rfl
theorem frO_str (H : LH) (rs : List Nat) (i : List Nat) : frO H rs 60 (.str i) = some (.str i) := Eq.trans rfl rfl
theorem frO_non (H : LH) (rs : List Nat) : frO H rs 60 .non = some .non := Eq.trans rfl rfl
theorem frO_fz (H : LH) (rs : List Nat) (xs : List LV) : frO H rs 60 (.fz xs) = some (.fz xs) := Eq.trans rfl rfl
theorem frO_obj (H : LH) (rs : List Nat) (c : Nat) (ns : List Nat) (xs : List LV) : frO H rs 60 (.obj c ns xs) = some (.obj c ns xs) := Eq.trans rfl rfl
theorem frO_tup (H : LH) (rs : List Nat) (xs : List LV) (h : noRefs xs = true) (h2 : deps xs < 50) : frO H rs 60 (.tup xs) = some (.tup xs) := frO_pure 60 _ (by rw [noRef_tup]; exact h) (by unfold dep; omega)
theorem getIx_r0 (x : LV) (r : List LV) (H : LH) : getIx (.ref 0) (.int 0) (.lst (x :: r) :: H) = .ok x (.lst (x :: r) :: H) := getIx_ref (H := .lst (x :: r) :: H) (j := 0) rfl rfl rfl
theorem getIx_r1 (x y : LV) (r : List LV) (H : LH) : getIx (.ref 0) (.int 1) (.lst (x :: y :: r) :: H) = .ok y (.lst (x :: y :: r) :: H) := getIx_ref (H := .lst (x :: y :: r) :: H) (j := 1) rfl rfl rfl
theorem getIx_r2 (x y z : LV) (r : List LV) (H : LH) : getIx (.ref 0) (.int 2) (.lst (x :: y :: z :: r) :: H) = .ok z (.lst (x :: y :: z :: r) :: H) := getIx_ref (H := .lst (x :: y :: z :: r) :: H) (j := 2) rfl rfl rfl
theorem getIx_r3 (x y z w : LV) (r : List LV) (H : LH) : getIx (.ref 0) (.int 3) (.lst (x :: y :: z :: w :: r) :: H) = .ok w (.lst (x :: y :: z :: w :: r) :: H) := getIx_ref (H := .lst (x :: y :: z :: w :: r) :: H) (j := 3) rfl rfl rfl
theorem setIx_r1 (x y : LV) (r : List LV) (v : LV) (H : LH) : setIx (.ref 0) (.int 1) v (.lst (x :: y :: r) :: H) = .ok () (.lst (x :: v :: r) :: H) := setIx_ref (H := .lst (x :: y :: r) :: H) (xs := x :: y :: r) (i := 1) (j := 1) rfl rfl (by simp) v
theorem setIx_r2 (x y z : LV) (r : List LV) (v : LV) (H : LH) : setIx (.ref 0) (.int 2) v (.lst (x :: y :: z :: r) :: H) = .ok () (.lst (x :: y :: v :: r) :: H) := setIx_ref (H := .lst (x :: y :: z :: r) :: H) (xs := x :: y :: z :: r) (i := 2) (j := 2) rfl rfl (by simp) v
theorem getIx_fz {xs : List LV} {i : Int} {j : Nat} {v : LV} (H : LH) (e : i = j) (h : xs[j]? = some v) : getIx (.fz xs) (.int i) H = .ok v H := by
  show (match atI xs i with
        | some v => .ok v H
        | none => .bad : R LV) = _
  rw [atI_nat e h]
theorem getIx_tup {xs : List LV} {i : Int} {j : Nat} {v : LV} (H : LH) (e : i = j) (h : xs[j]? = some v) : getIx (.tup xs) (.int i) H = .ok v H := by
  show (match atI xs i with
        | some v => .ok v H
        | none => .bad : R LV) = _
  rw [atI_nat e h]
theorem W_lcm {nx : Nat → LH → Option (Option LV)} {asg : LV → LS → LH → R LS} {cond : LS → LH → R Bool} {elt : LS → LH → R LV} {σ : LS} {H : LH} {n : Nat} {Q : List LV → LH → Prop} {X : LX → LH → Prop} (f : LV → LV) (xs : List LV) (hx : ∀ j, nx j H = some xs[j]?) (hn : xs.length < n) (hl : xs.length ≤ SL)
    (hs : ∀ x ∈ xs, W (asg x σ H) (fun σ1 H1 => W (cond σ1 H1) (fun b H2 => b = true ∧ W (elt σ1 H2) (fun y H3 => y = f x ∧ H3 = H) noE) noE) noE) (h : Q (xs.map f) H) : W (lcL nx asg cond elt σ n 0 [] H) Q X := by
  rw [lc_map f xs n 0 [] (fun j => by rw [Nat.zero_add]; exact hx j) hs hn (by simpa using hl), W_ok]
  exact h
theorem W_lcs {S : Type} {nx : Nat → LH → Option (Option LV)} {asg : LV → LS → LH → R LS} {cond : LS → LH → R Bool} {elt : LS → LH → R LV} {σ : LS} {n : Nat} {Q : List LV → LH → Prop} {X : LX → LH → Prop} (hp : S → LH) (f : S → LV → LV × S) (s : S) (xs : List LV) (hx : ∀ j H, nx j H = some xs[j]?) (hn : xs.length < n) (hl : xs.length ≤ SL)
    (hs : ∀ x ∈ xs, ∀ s, W (asg x σ (hp s)) (fun σ1 H1 => W (cond σ1 H1) (fun b H2 => b = true ∧ W (elt σ1 H2) (fun y H3 => y = (f s x).1 ∧ H3 = hp (f s x).2) noE) noE) noE) (h : Q (mapS f s xs).1 (hp (mapS f s xs).2)) : W (lcL nx asg cond elt σ n 0 [] (hp s)) Q X := by
  rw [lc_st hp f xs n 0 [] s (fun j H => by rw [Nat.zero_add]; exact hx j H) hs hn (by simpa using hl), W_ok]
  exact h
theorem getSl_scr (xs : List LV) (l h : Option Int) (H : LH) : getSl (.scr xs) l h H = newF (cut xs l h) H := Eq.trans rfl rfl
theorem nx_z' (xs ys : List LV) (i : Nat) (H : LH) : LIt.nx H i (.z (.fz xs) (.fz ys)) = some ((xs.zip ys).map fun p => LV.tup [p.1, p.2])[i]? := by rw [nx_z, List.getElem?_map]
theorem nx_zt (xs ys : List LV) (i : Nat) (H : LH) : LIt.nx H i (.zt xs ys) = some ((xs.zip ys).map fun p => LV.tup [p.1, p.2])[i]? := by
  rw [List.getElem?_map]
  show some (match xs[i]?, ys[i]? with
      | some v, some w => some (LV.tup [v, w])
      | _, _ => none) = _
  congr 1
  rw [List.zip, List.getElem?_zipWith]
  cases xs[i]? <;> cases ys[i]? <;> rfl
theorem cmp_str_eq (s t : List Nat) (H : LH) : cmpV P G .eq (.str s) (.str t) H = .ok (.bl (decide (s = t))) H := Eq.trans rfl rfl
theorem cmp_str_ne (s t : List Nat) (H : LH) : cmpV P G .ne (.str s) (.str t) H = .ok (.bl (!decide (s = t))) H := Eq.trans rfl rfl
theorem cmp_bl_eq (s t : Bool) (H : LH) : cmpV P G .eq (.bl s) (.bl t) H = .ok (.bl (s == t)) H := Eq.trans rfl rfl
theorem cmp_bl_ne (s t : Bool) (H : LH) : cmpV P G .ne (.bl s) (.bl t) H = .ok (.bl (!(s == t))) H := Eq.trans rfl rfl
/-! data: what is compared part by part -/
mutual
def dat : LV → Bool
  | .non | .bl _ | .int _ | .str _ => true
  | .tup xs => decide (xs.length ≤ SL) && dats xs
  | .fz xs => decide (xs.length ≤ SL) && dats xs
  | _ => false
def dats : List LV → Bool
  | [] => true
  | x :: xs => dat x && dats xs
end
mutual
def ddp : LV → Nat
  | .tup xs => ddps xs + 1
  | .fz xs => ddps xs + 1
  | _ => 0
def ddps : List LV → Nat
  | [] => 0
  | x :: xs => max (ddp x) (ddps xs)
end
theorem dats_mem : ∀ {xs : List LV} {x : LV}, dats xs = true → x ∈ xs → dat x = true ∧ ddp x ≤ ddps xs
  | y :: xs, x, h, m => by
    unfold dats at h
    rw [Bool.and_eq_true] at h
    unfold ddps
    cases m with
    | head => exact ⟨h.1, by omega⟩
    | tail _ m => obtain ⟨a, b⟩ := dats_mem h.2 m; exact ⟨a, by omega⟩
theorem dats_noRefs : ∀ {v : LV}, dat v = true → noRef v = true
  | .tup xs, h => by
    rw [noRef_tup, noRefs_all, List.all_eq_true]
    unfold dat at h
    rw [Bool.and_eq_true] at h
    intro x hx
    exact dats_noRefs (dats_mem h.2 hx).1
  | .non, _ => rfl
  | .bl _, _ => rfl
  | .int _, _ => rfl
  | .str _, _ => rfl
  | .fz _, _ => rfl
  | .ref _, h => by unfold dat at h; cases h
  | .gl _, _ => rfl
  | .scr _, _ => rfl
  | .obj _ _ _, _ => rfl
  | .dct _ _, _ => rfl
  | .clo _ _, _ => rfl
  | .err _ _ _, _ => rfl
theorem s_augn (o : BOp) (i : Nat) (a : E) (σ : LS) (H : LH) : (den P G (.augn o i a)).s σ H = RS.ofR (wr σ[i]? H) σ fun x H0 => if i < σ.length then RS.ofR ((den P G a).e σ H0) σ fun y H1 => RS.ofR (augop o x y H1) σ fun z H2 => .ok (.nx (σ.set i (some z))) H2 else .bad := by
  show (match σ[i]? with
      | some (some x) => if i < σ.length then RS.ofR ((den P G a).e σ H) σ fun y H1 => RS.ofR (augop o x y H1) σ fun z H2 => .ok (.nx (σ.set i (some z))) H2 else .bad
      | _ => .bad : RS) = _
  cases σ[i]? with
  | none => rfl
  | some x => cases x <;> rfl
theorem augop_add (i j : Int) (H : LH) : augop .add (.int i) (.int j) H = .ok (.int (i + j)) H := Eq.trans rfl rfl
theorem augop_sub (i j : Int) (H : LH) : augop .sub (.int i) (.int j) H = .ok (.int (i - j)) H := Eq.trans rfl rfl
theorem W_ite {α : Type} {c : Prop} [Decidable c] (a b : R α) (Q : α → LH → Prop) (X : LX → LH → Prop) : W (if c then a else b) Q X = if c then W a Q X else W b Q X := by split <;> rfl
theorem WS_ite {c : Prop} [Decidable c] (a b : RS) (Q : Fl → LH → Prop) (X : LX → LS → LH → Prop) : WS (if c then a else b) Q X = if c then WS a Q X else WS b Q X := by split <;> rfl
theorem callM_lst (m : Nat) (o : LV) (args : List LV) (H : LH) : callM G m .lst o args [] H = lstM m o args H := Eq.trans rfl rfl
theorem rcv_okl : (Rcv.lst).ok = true := Eq.trans rfl rfl
theorem rcv_app {a : Nat} {xs : List LV} {H : LH} (h : H[a]? = some (.lst xs)) : recv P 1 (.ref a) H = .lst := by
  show (match insOf H (.ref a) with
    | some (c, fs) => _
    | none => match H[a]? with
        | some (.lst _) => if (1 : Nat) = kAppend ∨ (1 : Nat) = kExtend ∨ (1 : Nat) = kPop then Rcv.lst else .no
        | _ => .no) = _
  have e : insOf H (.ref a) = none := by
    show (match H[a]? with
      | some (.ins c fs) => some (c, fs)
      | _ => none) = _
    rw [h]
  rw [e, h]
  rfl
theorem app_ref {a : Nat} {xs : List LV} {H : LH} (h : H[a]? = some (.lst xs)) (hl : xs.length < SL) (y : LV) : lstM 1 (.ref a) [y] H = .ok .non (H.set a (.lst (xs ++ [y]))) := by
  show (match H[a]? with
    | some (.lst xs) => if xs.length < SL then .ok .non (H.set a (.lst (xs ++ [y]))) else .bad
    | _ => .bad : R LV) = _
  rw [h]
  dsimp only
  rw [if_pos hl]
theorem newF_nil (H : LH) : newF [] H = .ok (.fz []) H := if_pos ⟨Nat.zero_le _, rfl⟩
theorem newF_1 (x0 : LV) (H : LH) : newF [x0] H = if noRefs [x0] = true then .ok (.fz [x0]) H else .bad := by
  unfold newF
  by_cases h : noRefs [x0] = true
  · rw [if_pos ⟨by simp [SL], h⟩, if_pos h]
  · rw [if_neg (fun z => h z.2), if_neg h]
theorem newF_2 (x0 x1 : LV) (H : LH) : newF [x0, x1] H = if noRefs [x0, x1] = true then .ok (.fz [x0, x1]) H else .bad := by
  unfold newF
  by_cases h : noRefs [x0, x1] = true
  · rw [if_pos ⟨by simp [SL], h⟩, if_pos h]
  · rw [if_neg (fun z => h z.2), if_neg h]
theorem newF_3 (x0 x1 x2 : LV) (H : LH) : newF [x0, x1, x2] H = if noRefs [x0, x1, x2] = true then .ok (.fz [x0, x1, x2]) H else .bad := by
  unfold newF
  by_cases h : noRefs [x0, x1, x2] = true
  · rw [if_pos ⟨by simp [SL], h⟩, if_pos h]
  · rw [if_neg (fun z => h z.2), if_neg h]
theorem newF_4 (x0 x1 x2 x3 : LV) (H : LH) : newF [x0, x1, x2, x3] H = if noRefs [x0, x1, x2, x3] = true then .ok (.fz [x0, x1, x2, x3]) H else .bad := by
  unfold newF
  by_cases h : noRefs [x0, x1, x2, x3] = true
  · rw [if_pos ⟨by simp [SL], h⟩, if_pos h]
  · rw [if_neg (fun z => h z.2), if_neg h]
theorem newF_5 (x0 x1 x2 x3 x4 : LV) (H : LH) : newF [x0, x1, x2, x3, x4] H = if noRefs [x0, x1, x2, x3, x4] = true then .ok (.fz [x0, x1, x2, x3, x4]) H else .bad := by
  unfold newF
  by_cases h : noRefs [x0, x1, x2, x3, x4] = true
  · rw [if_pos ⟨by simp [SL], h⟩, if_pos h]
  · rw [if_neg (fun z => h z.2), if_neg h]
theorem newF_6 (x0 x1 x2 x3 x4 x5 : LV) (H : LH) : newF [x0, x1, x2, x3, x4, x5] H = if noRefs [x0, x1, x2, x3, x4, x5] = true then .ok (.fz [x0, x1, x2, x3, x4, x5]) H else .bad := by
  unfold newF
  by_cases h : noRefs [x0, x1, x2, x3, x4, x5] = true
  · rw [if_pos ⟨by simp [SL], h⟩, if_pos h]
  · rw [if_neg (fun z => h z.2), if_neg h]
theorem newF_7 (x0 x1 x2 x3 x4 x5 x6 : LV) (H : LH) : newF [x0, x1, x2, x3, x4, x5, x6] H = if noRefs [x0, x1, x2, x3, x4, x5, x6] = true then .ok (.fz [x0, x1, x2, x3, x4, x5, x6]) H else .bad := by
  unfold newF
  by_cases h : noRefs [x0, x1, x2, x3, x4, x5, x6] = true
  · rw [if_pos ⟨by simp [SL], h⟩, if_pos h]
  · rw [if_neg (fun z => h z.2), if_neg h]
theorem newF_8 (x0 x1 x2 x3 x4 x5 x6 x7 : LV) (H : LH) : newF [x0, x1, x2, x3, x4, x5, x6, x7] H = if noRefs [x0, x1, x2, x3, x4, x5, x6, x7] = true then .ok (.fz [x0, x1, x2, x3, x4, x5, x6, x7]) H else .bad := by
  unfold newF
  by_cases h : noRefs [x0, x1, x2, x3, x4, x5, x6, x7] = true
  · rw [if_pos ⟨by simp [SL], h⟩, if_pos h]
  · rw [if_neg (fun z => h z.2), if_neg h]
theorem bind_star (ps : List Nat) (vs : List LV) (h : ps.length ≤ vs.length) (hl : vs.length ≤ SL) : Sig.bind ⟨ps, [], true, []⟩ vs [] = some (vs.take ps.length ++ [.tup (vs.drop ps.length)]) := by
  unfold Sig.bind
  simp [h, hl]
theorem nx_rng (lo : Int) (n i : Nat) (H : LH) : LIt.nx H i (.r lo 1 n) = some ((List.range n).map fun j => LV.int (lo + (j : Nat)))[i]? := by
  rw [nx_r, List.getElem?_map]
  by_cases h : i < n
  · rw [if_pos h, List.getElem?_range h, Int.mul_one]; rfl
  · rw [if_neg h, List.getElem?_eq_none (by simpa using h)]; rfl
theorem nx_bl (xs : List LV) (i : Nat) (H : LH) : LIt.nx H i (.bl (.fz xs) xs.length) = some xs.reverse[i]? := by
  show (if xs.length = xs.length then some (if i < xs.length then xs[xs.length - 1 - i]? else none) else none) = _
  rw [if_pos rfl]
  congr 1
  by_cases h : i < xs.length
  · rw [if_pos h, List.getElem?_reverse h]
  · rw [if_neg h, List.getElem?_eq_none (by simpa using h)]
theorem rcv_app0 (xs : List LV) (H : LH) : recv P 1 (.ref 0) (.lst xs :: H) = .lst := rcv_app (H := .lst xs :: H) (xs := xs) rfl
theorem rcv_app1 (o : LO) (xs : List LV) (H : LH) : recv P 1 (.ref 1) (o :: .lst xs :: H) = .lst := rcv_app (H := o :: .lst xs :: H) (xs := xs) rfl
theorem app_ref0 {xs : List LV} (hl : xs.length < SL) (y : LV) (H : LH) : lstM 1 (.ref 0) [y] (.lst xs :: H) = .ok .non (.lst (xs ++ [y]) :: H) := app_ref (H := .lst xs :: H) (xs := xs) rfl hl y
theorem app_ref1 {o : LO} {xs : List LV} (hl : xs.length < SL) (y : LV) (H : LH) : lstM 1 (.ref 1) [y] (o :: .lst xs :: H) = .ok .non (o :: .lst (xs ++ [y]) :: H) := app_ref (H := o :: .lst xs :: H) (xs := xs) rfl hl y
theorem newL_nil (H : LH) : newL [] H = .ok (.ref H.length) (H ++ [.lst []]) := newL_ok' (Nat.zero_le _)
theorem newL_1 (x0 : LV) (H : LH) : newL [x0] H = .ok (.ref H.length) (H ++ [.lst [x0]]) := newL_ok' (Nat.le_of_ble_eq_true rfl)
theorem newL_2 (x0 x1 : LV) (H : LH) : newL [x0, x1] H = .ok (.ref H.length) (H ++ [.lst [x0, x1]]) := newL_ok' (Nat.le_of_ble_eq_true rfl)
theorem newL_3 (x0 x1 x2 : LV) (H : LH) : newL [x0, x1, x2] H = .ok (.ref H.length) (H ++ [.lst [x0, x1, x2]]) := newL_ok' (Nat.le_of_ble_eq_true rfl)
theorem newL_4 (x0 x1 x2 x3 : LV) (H : LH) : newL [x0, x1, x2, x3] H = .ok (.ref H.length) (H ++ [.lst [x0, x1, x2, x3]]) := newL_ok' (Nat.le_of_ble_eq_true rfl)
theorem newL_5 (x0 x1 x2 x3 x4 : LV) (H : LH) : newL [x0, x1, x2, x3, x4] H = .ok (.ref H.length) (H ++ [.lst [x0, x1, x2, x3, x4]]) := newL_ok' (Nat.le_of_ble_eq_true rfl)
theorem newL_6 (x0 x1 x2 x3 x4 x5 : LV) (H : LH) : newL [x0, x1, x2, x3, x4, x5] H = .ok (.ref H.length) (H ++ [.lst [x0, x1, x2, x3, x4, x5]]) := newL_ok' (Nat.le_of_ble_eq_true rfl)
theorem newL_7 (x0 x1 x2 x3 x4 x5 x6 : LV) (H : LH) : newL [x0, x1, x2, x3, x4, x5, x6] H = .ok (.ref H.length) (H ++ [.lst [x0, x1, x2, x3, x4, x5, x6]]) := newL_ok' (Nat.le_of_ble_eq_true rfl)
theorem newL_8 (x0 x1 x2 x3 x4 x5 x6 x7 : LV) (H : LH) : newL [x0, x1, x2, x3, x4, x5, x6, x7] H = .ok (.ref H.length) (H ++ [.lst [x0, x1, x2, x3, x4, x5, x6, x7]]) := newL_ok' (Nat.le_of_ble_eq_true rfl)
theorem chainK_t (k : LS → LH → R LV) (σ : LS) (H : LH) : chainK k σ (.bl true) H = k σ H := Eq.trans rfl rfl
theorem chainK_f (k : LS → LH → R LV) (σ : LS) (H : LH) : chainK k σ (.bl false) H = .ok (.bl false) H := Eq.trans rfl rfl
theorem chainK_bl (k : LS → LH → R LV) (σ : LS) (b : Bool) (H : LH) : chainK k σ (.bl b) H = if b then k σ H else .ok (.bl false) H := Eq.trans rfl rfl
theorem callM_own (m d : Nat) (o : LV) (args : List LV) (kws : List (Nat × LV)) (H : LH) : callM G m (.own d) o args kws H = G d m (o :: args) kws H := Eq.trans rfl rfl
theorem rcv_ok (d : Nat) : (Rcv.own d).ok = true := Eq.trans rfl rfl
theorem setFld_0 (f c : Nat) (fs : List (Nat × LV)) (v : LV) (H : LH) : setFld P f (.ref 0) v (.ins c fs :: H) = match P.mem c f with
      | some .fld => if fs.length < 900 then .ok () (.ins c (fput fs f v) :: H) else .bad
      | _ => .bad := Eq.trans rfl rfl
theorem fput_nil (f : Nat) (v : LV) : fput [] f v = [(f, v)] := Eq.trans rfl rfl
theorem fput_cons (g f : Nat) (w v : LV) (r : List (Nat × LV)) : fput ((g, w) :: r) f v = if g = f then (g, v) :: r else (g, w) :: fput r f v := Eq.trans rfl rfl
end
end PM
set_option Elab.async false
set_option linter.all false
set_option autoImplicit false
set_option maxRecDepth 100000
/-! # M0c: rows: texts, raise, own objects under str, bool, != -/
namespace PM
section
variable {P : Prog} {G : Gam}
theorem intText_len {i : Int} {k : Nat} (hk : 0 < k) (h : i.natAbs < 10 ^ k) : (intText i).length ≤ k + 1 := by
  unfold intText
  rw [PyProof.Rows.signs_ofString, List.length_map]
  cases i with
  | ofNat m =>
    show (Nat.repr m).toList.length ≤ k + 1
    rw [Nat.toList_repr]
    exact Nat.le_succ_of_le ((Nat.length_toDigits_le_iff (by decide) hk).mpr h)
  | negSucc m =>
    show ("-" ++ Nat.repr (m + 1)).toList.length ≤ k + 1
    rw [String.toList_append, List.length_append, Nat.toList_repr]
    have := (Nat.length_toDigits_le_iff (b := 10) (n := m + 1) (by decide) hk).mpr h
    show 1 + _ ≤ _
    omega
theorem W_eq {α : Type} {r : R α} {a : α} {H : LH} (h : W r (fun x H' => x = a ∧ H' = H) noE) : r = .ok a H := by
  cases r with
  | ok x L => rw [W_ok] at h; rw [h.1, h.2]
  | exc e L => rw [W_exc] at h; exact h.elim
  | bad => rw [W_bad] at h; exact h.elim
theorem W_to {α : Type} {r : R α} (T : α → LH → Prop) {Q : α → LH → Prop} {X : LX → LH → Prop} (h : W r T noE) (k : ∀ a H, T a H → Q a H) : W r Q X := by
  cases r with
  | ok x L => rw [W_ok] at h ⊢; exact k _ _ h
  | exc e L => rw [W_exc] at h; exact h.elim
  | bad => rw [W_bad] at h; exact h.elim
theorem W_use {α : Type} {r : R α} {a : α} {H : LH} {Q : α → LH → Prop} {X : LX → LH → Prop} (e : r = .ok a H) (h : Q a H) : W r Q X := by
  rw [e, W_ok]
  exact h
/-- what str, bool make of an own method's word; != -/
def strQ (r : LV) (H : LH) : R LV := match r with
  | .str s => .ok (.str s) H
  | _ => .bad
theorem strQ_str (s : List Nat) (H : LH) : strQ (.str s) H = .ok (.str s) H := Eq.trans rfl rfl
def blQ (r : LV) (H : LH) : R LV := match r with
  | .bl s => .ok (.bl s) H
  | _ => .bad
theorem blQ_bl (s : Bool) (H : LH) : blQ (.bl s) H = .ok (.bl s) H := Eq.trans rfl rfl
def neQ (r : LV) (H : LH) : R LV := match r with
  | .bl s => .ok (.bl (!s)) H
  | _ => .bad
theorem neQ_bl (s : Bool) (H : LH) : neQ (.bl s) H = .ok (.bl (!s)) H := Eq.trans rfl rfl
theorem str_int (i : Int) (H : LH) : callB P G .str [.int i] H = if i.natAbs.log2 < 1920 then .ok (.str (intText i)) H else .bad := Eq.trans rfl rfl
theorem str_str (s : List Nat) (H : LH) : callB P G .str [.str s] H = .ok (.str s) H := Eq.trans rfl rfl
theorem str_obj (c : Nat) (ns : List Nat) (vs : List LV) (H : LH) : callB P G .str [.obj c ns vs] H = (ownM P G H c kStr [.obj c ns vs]).bind strQ := Eq.trans rfl rfl
theorem repr_obj (c : Nat) (ns : List Nat) (vs : List LV) (H : LH) : callB P G .repr [.obj c ns vs] H = (ownM P G H c kRepr [.obj c ns vs]).bind strQ := Eq.trans rfl rfl
theorem bool_obj (c : Nat) (ns : List Nat) (vs : List LV) (H : LH) : callB P G .bool [.obj c ns vs] H = (ownM P G H c kBool [.obj c ns vs]).bind blQ := Eq.trans rfl rfl
theorem cmp_obj_ne (c : Nat) (ns : List Nat) (vs : List LV) (y : LV) (H : LH) : cmpV P G .ne (.obj c ns vs) y H = if eqArg P H y then (ownM P G H c kEq [.obj c ns vs, y]).bind neQ else .bad := Eq.trans rfl rfl
theorem eqArg_tup (xs : List LV) (H : LH) : eqArg P H (.tup xs) = true := Eq.trans rfl rfl
theorem eqArg_fz (xs : List LV) (H : LH) : eqArg P H (.fz xs) = true := Eq.trans rfl rfl
theorem add_str (s t : List Nat) (H : LH) : binop P G .add (.str s) (.str t) H = if s.length + t.length ≤ SL then .ok (.str (s ++ t)) H else .bad := Eq.trans rfl rfl
theorem in_str (c : Nat) (t : List Nat) (H : LH) : cmpV P G .isin (.str [c]) (.str t) H = .ok (.bl (decide (c ∈ t))) H := Eq.trans rfl rfl
theorem nx_s (xs : List Nat) (i : Nat) (H : LH) : LIt.nx H i (.s xs) = some (xs.map fun c => LV.str [c])[i]? := by
  rw [List.getElem?_map]
  rfl
def conQ (P : Prog) (g : Nat) (H : LH) : R LV := match P.con g with
  | some v => .ok v H
  | none => .bad
theorem e_con (g : Nat) (σ : LS) (H : LH) : (den P G (.con g)).e σ H = conQ P g H := Eq.trans rfl rfl
theorem eq_tup0 (xs : List LV) (H : LH) : cmpV P G .eq (.tup xs) (.tup []) H = .ok (.bl xs.isEmpty) H := Eq.trans rfl rfl
theorem ne_tup0 (xs : List LV) (H : LH) : cmpV P G .ne (.tup xs) (.tup []) H = .ok (.bl (!xs.isEmpty)) H := Eq.trans rfl rfl
theorem le_sl0 : (0 ≤ SL) = True := by simp
theorem rcv_ext0 (xs : List LV) (H : LH) : recv P 2 (.ref 0) (.lst xs :: H) = .lst := Eq.trans rfl rfl
theorem ext_ref0 {xs zs : List LV} (h : xs.length + zs.length ≤ SL) (H : LH) : lstM 2 (.ref 0) [.fz zs] (.lst xs :: H) = .ok .non (.lst (xs ++ zs) :: H) := by
  show (if xs.length + zs.length ≤ SL then _ else _ : R LV) = _
  rw [if_pos h]
  rfl
theorem rcv_join (s : List Nat) (H : LH) : recv P 10 (.str s) H = .str := Eq.trans rfl rfl
theorem rcv_oks : Rcv.str.ok = true := Eq.trans rfl rfl
theorem callM_str (m : Nat) (o : LV) (args : List LV) (H : LH) : callM G m .str o args [] H = strM m o args H := Eq.trans rfl rfl
theorem join_fz (sep : List Nat) (ys : List (List Nat)) (H : LH) (h : (ys.map (·.length)).sum + ys.length * sep.length ≤ SL) : strM 10 (.str sep) [.fz (ys.map .str)] H = .ok (.str (joinL sep ys)) H := by
  show (match strsOf (ys.map .str) with
    | some ys => if (ys.map (·.length)).sum + ys.length * sep.length ≤ SL then .ok (.str (joinL sep ys)) H else .bad
    | none => .bad : R LV) = _
  rw [strsOf_map]
  exact if_pos h
/-! f-strings -/
def strO (s : List Nat) (H : LH) : R LV := .ok (.str s) H
theorem strO_eq (s : List Nat) (H : LH) : strO s H = .ok (.str s) H := Eq.trans rfl rfl
def fsK (f : List Nat → LH → R (List Nat)) (acc : List Nat) (v : LV) (H : LH) : R (List Nat) := match v with
  | .str s => if acc.length + s.length ≤ SL then f (acc ++ s) H else .bad
  | _ => .bad
theorem fsK_str (f : List Nat → LH → R (List Nat)) (acc s : List Nat) (H : LH) : fsK f acc (.str s) H = if acc.length + s.length ≤ SL then f (acc ++ s) H else .bad := Eq.trans rfl rfl
theorem e_fst (es : E) (σ : LS) (H : LH) : (den P G (.fst es)).e σ H = ((den P G es).fs [] σ H).bind strO := Eq.trans rfl rfl
theorem e_fmt (a : E) (σ : LS) (H : LH) : (den P G (.fmt a)).e σ H = ((den P G a).e σ H).bind fmtOf := Eq.trans rfl rfl
theorem fs_nil (acc : List Nat) (σ : LS) (H : LH) : (den P G .nil).fs acc σ H = .ok acc H := Eq.trans rfl rfl
theorem fs_cons (a r : E) (acc : List Nat) (σ : LS) (H : LH) : (den P G (.cons a r)).fs acc σ H = ((den P G a).e σ H).bind (fsK (fun s H1 => (den P G r).fs s σ H1) acc) := Eq.trans rfl rfl
theorem fmt_int (i : Int) (H : LH) : fmtOf (.int i) H = if i.natAbs.log2 < 1920 then .ok (.str (intText i)) H else .bad := Eq.trans rfl rfl
theorem fmt_str (s : List Nat) (H : LH) : fmtOf (.str s) H = if s.length ≤ SL then .ok (.str s) H else .bad := Eq.trans rfl rfl
/-! max(.., default=..) -/
theorem maxD_fz (ns : List Int) (d : Int) (H : LH) : maxD (.fz (ns.map .int)) (.int d) H = .ok (.int (maxL ns d)) H := by
  show (match intsOf (ns.map .int), LV.int d with
    | some ns, .int d => .ok (.int (maxL ns d)) H
    | _, _ => .bad : R LV) = _
  rw [intsOf_map]
theorem maxD_nil (d : Int) (H : LH) : maxD (.fz []) (.int d) H = .ok (.int d) H := Eq.trans rfl rfl
theorem maxD_two (a b d : Int) (H : LH) : maxD (.fz [.int a, .int b]) (.int d) H = .ok (.int (if decide (a < b) = true then b else a)) H := Eq.trans rfl rfl
theorem e_mxd (a d : E) (σ : LS) (H : LH) : (den P G (.mxd a d)).e σ H = ((den P G a).e σ H).bind fun x H1 => ((den P G d).e σ H1).bind fun y H2 => maxD x y H2 := Eq.trans rfl rfl
/-! raise, told -/
def rseQ (P : Prog) (c : Nat) (σ : LS) (vs : List LV) (H : LH) : RS := match P.err c with
  | some i => (match errFs i vs with
    | some fs => .exc ⟨c, fs⟩ σ H
    | none => .bad)
  | none => .bad
theorem s_rse (c : Nat) (es : E) (σ : LS) (H : LH) : (den P G (.rse c es)).s σ H = RS.ofR ((den P G es).es σ H) σ (rseQ P c σ) := Eq.trans rfl rfl
def whyQ (P : Prog) (r : R LV) : R LV := match r with
  | .ok v H1 => .ok (.tup [.str [116, 111, 108, 100], v]) H1
  | .exc x H1 => whyOf P x H1
  | .bad => .bad
theorem e_why (a : E) (σ : LS) (H : LH) : (den P G (.why a)).e σ H = whyQ P ((den P G a).e σ H) := Eq.trans rfl rfl
theorem whyQ_ok (v : LV) (H : LH) : whyQ P (.ok v H) = .ok (.tup [.str [116, 111, 108, 100], v]) H := Eq.trans rfl rfl
theorem W_why (r : R LV) (Q : LV → LH → Prop) (X : LX → LH → Prop) : W (whyQ P r) Q X = W r (fun v H1 => Q (.tup [.str [116, 111, 108, 100], v]) H1) (fun x H1 => W (whyOf P x H1) Q X) := by
  cases r with
  | ok v H1 => show W (.ok _ _) Q X = _; rw [W_ok, W_ok]
  | exc x H1 => show W (whyOf P x H1) Q X = _; rw [W_exc]
  | bad => show W .bad Q X = _; rw [W_bad, W_bad]
theorem whyQ_exc (x : LX) (H : LH) : whyQ P (.exc x H) = whyOf P x H := Eq.trans rfl rfl
/-- a call with one place, by what is known of its end -/
theorem gam_oneE {n c m a : Nat} {f : Fn} {vs us : List LV} {H : LH} {o : LO} (T : LV → LO → Prop) (e : P.fn c m = some f) (hz : f.fz = true) (hv : noRefs vs = true) (ha : H[a]? = some o) (ho : objOk o = true) (hb : f.sig.bind (.ref 0 :: vs) [] = some us) (hl : us.length ≤ f.slots)
    (h : WS ((den P (gam P n) f.body).s (us.map some ++ List.replicate (f.slots - us.length) none) [o]) (retQ fun v L1 => ∃ v' o', T v' o' ∧ frO L1 [a] 60 v = some v' ∧ ∃ t, L1 = o' :: t ∧ objOk o' = true) noES) : ∃ v' o', T v' o' ∧ gam P (n + 1) c m (.ref a :: vs) [] H = .ok v' (H.set a o') := by
  have go : ∀ (w : LV) (L1 : LH) (fl : Fl), (∀ Q, retQ Q fl L1 = Q w L1) → (den P (gam P n) f.body).s (us.map some ++ List.replicate (f.slots - us.length) none) [o] = .ok fl L1 → (∃ v' o', T v' o' ∧ frO L1 [a] 60 w = some v' ∧ ∃ t, L1 = o' :: t ∧ objOk o' = true) → ∃ v' o', T v' o' ∧ gam P (n + 1) c m (.ref a :: vs) [] H = .ok v' (H.set a o') := fun w L1 fl hf hr ⟨v', o', t1, q⟩ =>
    ⟨v', o', t1, gam_one e hz hv ha ho rfl hb hl (by rw [hr, WS_ok, hf]; exact q)⟩
  cases hr : (den P (gam P n) f.body).s (us.map some ++ List.replicate (f.slots - us.length) none) [o] with
  | ok fl L1 =>
    rw [hr, WS_ok] at h
    cases fl with
    | rt w => rw [retQ_rt] at h; exact go w L1 _ (fun Q => retQ_rt Q w L1) hr h
    | nx l => rw [retQ_nx] at h; exact go .non L1 _ (fun Q => retQ_nx Q l L1) hr h
    | bk l => exact h.elim
    | ct l => exact h.elim
  | exc x l L1 => rw [hr, WS_exc] at h; exact h.elim
  | bad => rw [hr, WS_bad] at h; exact h.elim
end
end PM

set_option Elab.async false
set_option linter.all false
set_option autoImplicit false
set_option maxRecDepth 100000
set_option maxHeartbeats 2000000
/-! # M0d: rules for running a text by itself: calls by their room, typed loops -/
namespace PM
/-- what is left to show behind a call -/
structure K (p : Prop) : Prop where
  h : p
theorem W_useX {α : Type} {r : R α} {x : LX} {H : LH} {Q : α → LH → Prop} {X : LX → LH → Prop} (e : r = .exc x H) (h : X x H) : W r Q X := by
  rw [e, W_exc]
  exact h
/-- both ends known -/
theorem W_cons {α : Type} {r : R α} {Q Q' : α → LH → Prop} {X X' : LX → LH → Prop} (h : W r Q X) (m : ∀ a H, Q a H → Q' a H) (m2 : ∀ x H, X x H → X' x H) : W r Q' X' := by
  cases r with
  | ok a H => rw [W_ok] at h ⊢; exact m _ _ h
  | exc x H => rw [W_exc] at h ⊢; exact m2 _ _ h
  | bad => rw [W_bad] at h; exact h.elim
theorem WS_cons {r : RS} {Q Q' : Fl → LH → Prop} {X X' : LX → LS → LH → Prop} (h : WS r Q X) (m : ∀ a H, Q a H → Q' a H) (m2 : ∀ x σ H, X x σ H → X' x σ H) : WS r Q' X' := by
  cases r with
  | ok a H => rw [WS_ok] at h ⊢; exact m _ _ h
  | exc x σ H => rw [WS_exc] at h ⊢; exact m2 _ _ _ h
  | bad => rw [WS_bad] at h; exact h.elim
section
variable {P : Prog}
theorem fzE {N c m : Nat} {f : Fn} {vs us : List LV} {H : LH} {v' : LV} (hN : 0 < N) (e : P.fn c m = some f) (hz : f.fz = true) (hv : noRefs vs = true) (hb : f.sig.bind vs [] = some us) (hl : us.length ≤ f.slots)
    (h : WS ((den P (gam P (N - 1)) f.body).s (us.map some ++ List.replicate (f.slots - us.length) none) []) (retQ fun v L1 => frO L1 [] 60 v = some v') noES) : gam P N c m vs [] H = .ok v' H := by
  obtain ⟨n, rfl⟩ : ∃ n, N = n + 1 := ⟨N - 1, by omega⟩
  exact gam_fz e hz hv hb hl h
theorem fzX {N c m : Nat} {f : Fn} {vs us : List LV} {H : LH} {x' : LX} (hN : 0 < N) (e : P.fn c m = some f) (hz : f.fz = true) (hv : noRefs vs = true) (hb : f.sig.bind vs [] = some us) (hl : us.length ≤ f.slots)
    (h : WS ((den P (gam P (N - 1)) f.body).s (us.map some ++ List.replicate (f.slots - us.length) none) []) (retQ fun _ _ => False) (fun x _ L1 => frX L1 0 x = some x')) : gam P N c m vs [] H = .exc x' H := by
  obtain ⟨n, rfl⟩ : ∃ n, N = n + 1 := ⟨N - 1, by omega⟩
  exact gam_fzX e hz hv hb hl h
theorem fzK {N c m : Nat} {f : Fn} {vs us : List LV} {kws : List (Nat × LV)} {H : LH} {v' : LV} (hN : 0 < N) (e : P.fn c m = some f) (hz : f.fz = true) (hv : noRefs vs = true) (hk : noRefs (kws.map (·.2)) = true) (hb : f.sig.bind vs kws = some us) (hl : us.length ≤ f.slots)
    (h : WS ((den P (gam P (N - 1)) f.body).s (us.map some ++ List.replicate (f.slots - us.length) none) []) (retQ fun v L1 => frO L1 [] 60 v = some v') noES) : gam P N c m vs kws H = .ok v' H := by
  obtain ⟨n, rfl⟩ : ∃ n, N = n + 1 := ⟨N - 1, by omega⟩
  exact gam_fzk e hz hv hk hb hl h
theorem mkE {N c d : Nat} {f : Fn} {vs us : List LV} {kws : List (Nat × LV)} {H : LH} {v' : LV} (hN : 0 < N) (hm : P.mem c kInit = some (.meth d)) (e : P.fn d kInit = some f) (hz : f.fz = false) (hc : P.fzc c = true) (hv : noRefs vs = true) (hk : noRefs (kws.map (·.2)) = true) (hb : f.sig.bind (.ref 0 :: vs) kws = some us) (hl : us.length ≤ f.slots)
    (h : WS ((den P (gam P (N - 1)) f.body).s (us.map some ++ List.replicate (f.slots - us.length) none) [.ins c []]) (retQ fun v L1 => v = .non ∧ frO L1 [] 60 (.ref 0) = some v') noES) : make P (gam P N) c vs kws H = .ok v' H := by
  obtain ⟨n, rfl⟩ : ∃ n, N = n + 1 := ⟨N - 1, by omega⟩
  exact make_fz hm e hz hc hv hk hb hl h
theorem mkX {N c d : Nat} {f : Fn} {vs us : List LV} {kws : List (Nat × LV)} {H : LH} {x' : LX} (hN : 0 < N) (hm : P.mem c kInit = some (.meth d)) (e : P.fn d kInit = some f) (hz : f.fz = false) (hc : P.fzc c = true) (hv : noRefs vs = true) (hk : noRefs (kws.map (·.2)) = true) (hb : f.sig.bind (.ref 0 :: vs) kws = some us) (hl : us.length ≤ f.slots)
    (h : WS ((den P (gam P (N - 1)) f.body).s (us.map some ++ List.replicate (f.slots - us.length) none) [.ins c []]) (retQ fun _ _ => False) (fun x _ L1 => frX L1 0 x = some x')) : make P (gam P N) c vs kws H = .exc x' H := by
  obtain ⟨n, rfl⟩ : ∃ n, N = n + 1 := ⟨N - 1, by omega⟩
  exact make_fzX hm e hz hc hv hk hb hl h
/-- a call with one place, its first argument: both ends -/
theorem oneW {N c m a : Nat} {f : Fn} {vs us : List LV} {H : LH} {o : LO} {Q : LV → LH → Prop} {X : LX → LH → Prop} (hN : 0 < N) (e : P.fn c m = some f) (hz : f.fz = true) (hv : noRefs vs = true) (ha : H[a]? = some o) (ho : objOk o = true) (hb : f.sig.bind (.ref 0 :: vs) [] = some us) (hl : us.length ≤ f.slots)
    (h : WS ((den P (gam P (N - 1)) f.body).s (us.map some ++ List.replicate (f.slots - us.length) none) [o]) (retQ fun v L1 => ∃ v' o' t, L1 = o' :: t ∧ objOk o' = true ∧ frO L1 [a] 60 v = some v' ∧ Q v' (H.set a o')) (fun x _ L1 => ∃ x' o' t, L1 = o' :: t ∧ objOk o' = true ∧ frX L1 1 x = some x' ∧ X x' (H.set a o'))) : W (gam P N c m (.ref a :: vs) [] H) Q X := by
  obtain ⟨n, rfl⟩ : ∃ n, N = n + 1 := ⟨N - 1, by omega⟩
  have h := W_run hb hl (Q := fun v L1 => ∃ v' o' t, L1 = o' :: t ∧ objOk o' = true ∧ frO L1 [a] 60 v = some v' ∧ Q v' (H.set a o')) (X := fun x L1 => ∃ x' o' t, L1 = o' :: t ∧ objOk o' = true ∧ frX L1 1 x = some x' ∧ X x' (H.set a o')) h
  show W (gam P (n + 1) c m (.ref a :: vs) [] H) Q X
  rw [gam_succ, e]
  show W (if f.fz = true then _ else _) _ _
  rw [if_pos hz]
  have hr : W (runFn P (gam P n) f (.ref 0 :: vs) [] [o]) _ _ := h
  clear h
  unfold bnd
  have e1 : argRefs [] (.ref a :: vs) = some (.ref 0 :: vs, [a]) := by
    unfold argRefs
    show (match (some (LV.ref 0, [a]) : Option (LV × List Nat)) with
      | some (v', rs') => match argRefs rs' vs with
        | some (vs', rs'') => some (v' :: vs', rs'')
        | none => none
      | none => none) = _
    dsimp only
    rw [argRefs_pure hv]
  rw [e1]
  have e2 : objs H [a] = some [o] := by
    unfold objs optAll
    rw [ha]
    dsimp only
    rw [if_pos ho]
    rfl
  show W (match (some ([], [a]) : Option (List LV × List Nat)) with
    | none => .bad
    | some (ws', rs') => match objs H rs' with
      | none => .bad
      | some L0 => match runFn P (gam P n) f (.ref 0 :: vs) ((([] : List (Nat × LV)).map (·.1)).zip ws') L0 with
        | .ok v L1 => match frO L1 rs' 60 v, wb H rs' L1 with
          | some v', some H' => .ok v' H'
          | _, _ => .bad
        | .exc x L1 => match frX L1 rs'.length x, wb H rs' L1 with
          | some x', some H' => .exc x' H'
          | _, _ => .bad
        | .bad => .bad : R LV) _ _
  dsimp only
  rw [e2]
  show W (match runFn P (gam P n) f (.ref 0 :: vs) [] [o] with
        | .ok v L1 => match frO L1 [a] 60 v, wb H [a] L1 with
          | some v', some H' => .ok v' H'
          | _, _ => .bad
        | .exc x L1 => match frX L1 1 x, wb H [a] L1 with
          | some x', some H' => .exc x' H'
          | _, _ => .bad
        | .bad => .bad : R LV) _ _
  have e3 : ∀ (o' : LO) (t : LH), objOk o' = true → wb H [a] (o' :: t) = some (H.set a o') := fun o' t ho' => by
    unfold wb
    rw [if_pos ho']
    unfold wb
    rfl
  cases q : runFn P (gam P n) f (.ref 0 :: vs) [] [o] with
  | ok v L1 =>
    rw [q, W_ok] at hr
    obtain ⟨v', o', t, rfl, ho', h1, h2⟩ := hr
    dsimp only
    rw [h1, e3 _ _ ho']
    show W (.ok _ _) _ _
    rw [W_ok]
    exact h2
  | exc x L1 =>
    rw [q, W_exc] at hr
    obtain ⟨v', o', t, rfl, ho', h1, h2⟩ := hr
    dsimp only
    rw [h1, e3 _ _ ho']
    show W (.exc _ _) _ _
    rw [W_exc]
    exact h2
  | bad => rw [q, W_bad] at hr; exact hr.elim
/-- a call that sees all -/
theorem allW {N c m : Nat} {f : Fn} {vs us : List LV} {kws : List (Nat × LV)} {H : LH} {Q : LV → LH → Prop} {X : LX → LH → Prop} (hN : 0 < N) (e : P.fn c m = some f) (hz : f.fz = false) (hb : f.sig.bind vs kws = some us) (hl : us.length ≤ f.slots)
    (h : WS ((den P (gam P (N - 1)) f.body).s (us.map some ++ List.replicate (f.slots - us.length) none) H) (retQ Q) (fun x _ H1 => X x H1)) : W (gam P N c m vs kws H) Q X := by
  obtain ⟨n, rfl⟩ : ∃ n, N = n + 1 := ⟨N - 1, by omega⟩
  exact W_gam e hz hb hl h
end
/-! ### typed loops -/
section
variable {nx : Nat → LH → Option (Option LV)} {asg : LV → LS → LH → R LS} {body : LS → LH → RS} {cond : LS → LH → R Bool} {elt : LS → LH → R LV}
theorem take_succ_of {α : Type} {ys : List α} {i : Nat} (hi : i < ys.length) : ∃ y rest, ys = ys.take i ++ y :: rest ∧ ys[i]? = some y ∧ ys.take (i + 1) = ys.take i ++ [y] :=
  ⟨ys[i], ys.drop (i + 1), by rw [List.getElem_cons_drop, List.take_append_drop], List.getElem?_eq_getElem hi, by rw [List.take_succ, List.getElem?_eq_getElem hi]; rfl⟩
/-- for, over known items: an invariant by the items done -/
theorem W_forT {α : Type} {Q : Fl → LH → Prop} {X : LX → LS → LH → Prop} {n : Nat} {σ : LS} {H : LH} (c : α → LV) (ys : List α) (I : List α → LS → LH → Prop) (hx : ∀ j H, nx j H = some (ys.map c)[j]?) (hn : ys.length < n)
    (h0 : I [] σ H)
    (step : ∀ don y rest, ys = don ++ y :: rest → ∀ σ H, I don σ H → W (asg (c y) σ H) (fun σ1 H1 => WS (body σ1 H1) (fun f H2 => match f with
      | .nx σ2 => I (don ++ [y]) σ2 H2
      | .ct σ2 => I (don ++ [y]) σ2 H2
      | .bk σ2 => Q (.nx σ2) H2
      | .rt v => Q (.rt v) H2) X) (fun x H1 => X x σ H1))
    (stop : ∀ σ H, I ys σ H → Q (.nx σ) H) : WS (forL nx asg body n 0 σ H) Q X := by
  refine W_for (fun i σ H => I (ys.take i) σ H) ys.length ?_ ?_ n 0 σ H (Nat.zero_le _) (by omega) h0
  · intro i σ H hi h
    obtain ⟨y, rest, e1, e2, e3⟩ := take_succ_of hi
    refine ⟨c y, by rw [hx, List.getElem?_map, e2]; rfl, ?_⟩
    rw [e3]
    exact step _ y rest e1 σ H h
  · intro σ H h
    rw [List.take_length] at h
    exact ⟨by rw [hx, List.getElem?_eq_none (by rw [List.length_map]; exact Nat.le_refl _)], stop σ H h⟩
/-- .. nothing is remembered but what always holds -/
theorem W_forA {α : Type} {Q : Fl → LH → Prop} {X : LX → LS → LH → Prop} {n : Nat} {σ : LS} {H : LH} (c : α → LV) (ys : List α) (I : LS → LH → Prop) (hx : ∀ j H, nx j H = some (ys.map c)[j]?) (hn : ys.length < n)
    (h0 : I σ H)
    (step : ∀ y ∈ ys, ∀ σ H, I σ H → W (asg (c y) σ H) (fun σ1 H1 => WS (body σ1 H1) (fun f H2 => match f with
      | .nx σ2 => I σ2 H2
      | .ct σ2 => I σ2 H2
      | .bk σ2 => Q (.nx σ2) H2
      | .rt v => Q (.rt v) H2) X) (fun x H1 => X x σ H1))
    (stop : ∀ σ H, I σ H → Q (.nx σ) H) : WS (forL nx asg body n 0 σ H) Q X :=
  W_forT c ys (fun _ => I) hx hn h0 (fun don y rest e σ H h => step y (by rw [e]; simp) σ H h) stop
/-- a comprehension over known items, the heap standing still -/
theorem W_lcT {α : Type} {σ : LS} {H : LH} {n : Nat} {Q : List LV → LH → Prop} {X : LX → LH → Prop} (c d : α → LV) (p : α → Bool) (ys : List α) (hx : ∀ j, nx j H = some (ys.map c)[j]?) (hn : ys.length < n) (hl : ys.length ≤ SL)
    (step : ∀ y ∈ ys, W (asg (c y) σ H) (fun σ1 H1 => W (cond σ1 H1) (fun b H2 => b = p y ∧ H2 = H ∧ (p y = true → W (elt σ1 H2) (fun v H3 => v = d y ∧ H3 = H) noE)) noE) noE)
    (k : Q ((ys.filter p).map d) H) : W (lcL nx asg cond elt σ n 0 [] H) Q X := by
  refine W_lc (fun i acc H' => H' = H ∧ acc = ((ys.take i).filter p).map d) ys.length ?_ ?_ hl n 0 [] H (Nat.zero_le _) (by omega) (Nat.zero_le _) ⟨rfl, rfl⟩
  · rintro i acc H' hi ⟨rfl, rfl⟩ _
    obtain ⟨y, rest, e1, e2, e3⟩ := take_succ_of hi
    refine ⟨c y, by rw [hx, List.getElem?_map, e2]; rfl, ?_⟩
    have hy : y ∈ ys := by rw [e1]; simp
    refine W_to _ (step y hy) fun σ1 H1 h1 => W_to _ h1 fun b H2 h2 => ?_
    obtain ⟨rfl, rfl, h3⟩ := h2
    cases hp : p y with
    | true =>
      rw [if_pos rfl]
      refine W_to _ (h3 hp) fun v H3 h4 => ?_
      obtain ⟨rfl, rfl⟩ := h4
      refine ⟨rfl, ?_⟩
      rw [e3, List.filter_append, List.map_append, List.filter_cons_of_pos hp]
      rfl
    | false =>
      rw [if_neg Bool.false_ne_true]
      refine ⟨rfl, ?_⟩
      rw [e3, List.filter_append, List.filter_cons_of_neg (by rw [hp]; exact Bool.false_ne_true), List.filter_nil, List.append_nil]
  · rintro acc H' ⟨rfl, rfl⟩
    exact ⟨by rw [hx, List.getElem?_eq_none (by rw [List.length_map]; exact Nat.le_refl _)], by rw [List.take_length]; exact k⟩
/-- .. all items -/
theorem W_lcA {α : Type} {σ : LS} {H : LH} {n : Nat} {Q : List LV → LH → Prop} {X : LX → LH → Prop} (c d : α → LV) (ys : List α) (hx : ∀ j, nx j H = some (ys.map c)[j]?) (hn : ys.length < n) (hl : ys.length ≤ SL)
    (step : ∀ y ∈ ys, W (asg (c y) σ H) (fun σ1 H1 => W (cond σ1 H1) (fun b H2 => b = true ∧ W (elt σ1 H2) (fun v H3 => v = d y ∧ H3 = H) noE) noE) noE)
    (k : Q (ys.map d) H) : W (lcL nx asg cond elt σ n 0 [] H) Q X := by
  refine W_lc (fun i acc H' => H' = H ∧ acc = (ys.take i).map d) ys.length ?_ ?_ hl n 0 [] H (Nat.zero_le _) (by omega) (Nat.zero_le _) ⟨rfl, rfl⟩
  · rintro i acc H' hi ⟨rfl, rfl⟩ _
    obtain ⟨y, rest, e1, e2, e3⟩ := take_succ_of hi
    refine ⟨c y, by rw [hx, List.getElem?_map, e2]; rfl, ?_⟩
    have hy : y ∈ ys := by rw [e1]; simp
    refine W_to _ (step y hy) fun σ1 H1 h1 => W_to _ h1 fun b H2 h2 => ?_
    obtain ⟨rfl, h3⟩ := h2
    rw [if_pos rfl]
    refine W_to _ h3 fun v H3 h4 => ?_
    obtain ⟨rfl, rfl⟩ := h4
    refine ⟨rfl, ?_⟩
    rw [e3, List.map_append]
    rfl
  · rintro acc H' ⟨rfl, rfl⟩
    exact ⟨by rw [hx, List.getElem?_eq_none (by rw [List.length_map]; exact Nat.le_refl _)], by rw [List.take_length]; exact k⟩
/-- a comprehension, an invariant by the items done -/
theorem W_lcI {α : Type} {σ : LS} {H : LH} {n : Nat} {Q : List LV → LH → Prop} {X : LX → LH → Prop} (c : α → LV) (ys : List α) (I : List α → List LV → LH → Prop) (hx : ∀ j H, nx j H = some (ys.map c)[j]?) (hn : ys.length < n) (hl : ys.length ≤ SL)
    (h0 : I [] [] H)
    (step : ∀ don y rest, ys = don ++ y :: rest → ∀ acc H, I don acc H → acc.length ≤ don.length → W (asg (c y) σ H) (fun σ1 H1 => W (cond σ1 H1) (fun b H2 => if b = true then W (elt σ1 H2) (fun v H3 => I (don ++ [y]) (acc ++ [v]) H3) X else I (don ++ [y]) acc H2) X) X)
    (k : ∀ acc H, I ys acc H → Q acc H) : W (lcL nx asg cond elt σ n 0 [] H) Q X := by
  refine W_lc (fun i acc H' => I (ys.take i) acc H') ys.length ?_ ?_ hl n 0 [] H (Nat.zero_le _) (by omega) (Nat.zero_le _) h0
  · intro i acc H' hi h ha
    obtain ⟨y, rest, e1, e2, e3⟩ := take_succ_of hi
    refine ⟨c y, by rw [hx, List.getElem?_map, e2]; rfl, ?_⟩
    rw [e3]
    exact step _ y rest e1 acc H' h (by rw [List.length_take]; omega)
  · intro acc H' h
    rw [List.take_length] at h
    exact ⟨by rw [hx, List.getElem?_eq_none (by rw [List.length_map]; exact Nat.le_refl _)], k acc H' h⟩
end
theorem nx_rngC (lo : Int) (n i : Nat) (H : LH) : LIt.nx H i (.r lo 1 n) = some ((List.range n).map fun j => LV.int (lo + (j : Nat)))[i]? := nx_rng lo n i H
theorem ifb_true {α : Type} (a b : α) : (if true = true then a else b) = a := if_pos rfl
end PM

set_option Elab.async false
set_option linter.all false
set_option autoImplicit false
set_option maxRecDepth 100000
/-! # rows about the objects of k03 (printed by gen.py) -/
namespace GL
open PM
theorem eb_is_number : f_is_number.body = (.seq (.ret (.and (.cons (.isi (.var 0) [.int]) (.cons (.not (.isi (.var 0) [.bool])) .nil)))) .skip) := Eq.trans rfl rfl
theorem es_is_number : f_is_number.slots = 1 := Eq.trans rfl rfl
theorem eb_divisor_of : f_divisor_of.body = (.seq (.asg (.ttp (.cons (.tnm 0) (.cons (.tnm 1) .nil))) (.tup (.cons (.blt .abs (.cons (.var 0) .nil)) (.cons (.blt .abs (.cons (.var 1) .nil)) .nil)))) (.seq (.whl (.cmp .ne (.var 1) (.int 0)) (.seq (.asg (.ttp (.cons (.tnm 0) (.cons (.tnm 1) .nil))) (.tup (.cons (.var 1) (.cons (.bin .mod (.var 0) (.var 1)) .nil)))) .skip)) (.seq (.ret (.var 0)) .skip))) := Eq.trans rfl rfl
theorem es_divisor_of : f_divisor_of.slots = 2 := Eq.trans rfl rfl
theorem eb_number_in : f_number_in.body = (.seq (.asg (.tnm 1) (.ife (.cmp .eq (.slc (.var 0) .nil (.cons (.int 1) .nil)) (.str [45])) (.slc (.var 0) (.cons (.int 1) .nil) .nil) (.var 0))) (.seq (.iff (.or (.cons (.not (.chain .le .le (.int 1) (.blt .len (.cons (.var 1) .nil)) (.con 53))) (.cons (.not (.blt .all (.cons (.lc (.cmp .isin (.var 2) (.con 52)) (.tnm 2) (.itv (.var 1)) .nil [2]) .nil))) .nil))) (.seq (.ret .non) .skip) .skip) (.seq (.iff (.and (.cons (.cmp .eq (.ix (.var 1) (.int 0)) (.str [48])) (.cons (.cmp .ne (.var 0) (.str [48])) .nil))) (.seq (.ret .non) .skip) .skip) (.seq (.ret (.ife (.cmp .eq (.slc (.var 0) .nil (.cons (.int 1) .nil)) (.str [45])) (.neg (.blt .int (.cons (.var 1) .nil))) (.blt .int (.cons (.var 1) .nil)))) .skip)))) := Eq.trans rfl rfl
theorem es_number_in : f_number_in.slots = 3 := Eq.trans rfl rfl
theorem eb_law_bag : f_law_bag.body = (.seq (.asg (.tnm 1) (.lc (.blt .int (.cons (.var 3) .nil)) (.tnm 3) (.itv (.slc (.var 0) .nil (.cons (.int 63) .nil))) .nil [3])) (.seq (.asg (.tnm 2) (.bin .add (.int 10007) (.bin .mul (.int 131) (.blt .len (.cons (.var 1) .nil))))) (.seq (.for (.tnm 3) (.itv (.var 1)) (.seq (.asg (.tnm 2) (.bin .mod (.blt .int (.cons (.bin .add (.bin .mul (.var 2) (.int 5051)) (.var 3)) .nil)) (.int 2147483629))) .skip)) (.seq (.ret (.lstM (.cons (.var 1) (.cons (.int 0) (.cons (.int 0) (.cons (.var 2) .nil)))))) .skip)))) := Eq.trans rfl rfl
theorem es_law_bag : f_law_bag.slots = 4 := Eq.trans rfl rfl
theorem eb_law_draw : f_law_draw.body = (.seq (.iff (.cmp .lt (.ix (.var 0) (.int 2)) (.int 2)) (.seq (.asg (.tix (.var 0) (.int 1)) (.bin .add (.ix (.var 0) (.int 1)) (.int 1))) (.seq (.asg (.tnm 3) (.bin .add (.ix (.var 0) (.int 3)) (.bin .mul (.ix (.var 0) (.int 1)) (.int 7919)))) (.seq (.iff (.cmp .le (.ix (.var 0) (.int 1)) (.blt .len (.cons (.ix (.var 0) (.int 0)) .nil))) (.seq (.asg (.tnm 3) (.ix (.ix (.var 0) (.int 0)) (.bin .sub (.ix (.var 0) (.int 1)) (.int 1)))) .skip) .skip) (.seq (.iff (.or (.cons (.cmp .gt (.ix (.var 0) (.int 1)) (.blt .len (.cons (.ix (.var 0) (.int 0)) .nil))) (.cons (.cmp .lt (.var 3) (.bin .pow (.int 10) (.int 18))) .nil))) (.seq (.asg (.tnm 4) (.bin .mod (.blt .int (.cons (.bin .add (.bin .add (.bin .mul (.var 3) (.int 69621)) (.bin .mul (.ix (.var 0) (.int 1)) (.int 40503))) (.ix (.var 0) (.int 3))) .nil)) (.int 2147483647))) (.seq (.asg (.tnm 5) (.bin .mod (.blt .int (.cons (.bin .add (.bin .mul (.var 4) (.var 4)) (.bin .mul (.ix (.var 0) (.int 1)) (.int 30011))) .nil)) (.int 998244353))) (.seq (.ret (.bin .mod (.bin .fdiv (.bin .mod (.blt .int (.cons (.bin .add (.bin .mul (.var 5) (.int 31337)) (.var 4)) .nil)) (.int 2147483563)) (.int 17)) (.var 1))) .skip))) .skip) (.seq (.asg (.tix (.var 0) (.int 2)) (.var 3)) .skip))))) .skip) (.seq (.asg (.tnm 2) (.bin .mod (.blt .int (.cons (.ix (.var 0) (.int 2)) .nil)) (.var 1))) (.seq (.asg (.tix (.var 0) (.int 2)) (.bin .fdiv (.blt .int (.cons (.ix (.var 0) (.int 2)) .nil)) (.var 1))) (.seq (.ret (.var 2)) .skip)))) := Eq.trans rfl rfl
theorem es_law_draw : f_law_draw.slots = 6 := Eq.trans rfl rfl
theorem eb_law_of : f_law_of.body = (.seq (.ret (.ix (.var 1) (.call 40 (.cons (.var 0) (.cons (.blt .len (.cons (.var 1) .nil)) .nil)) [] .nil))) .skip) := Eq.trans rfl rfl
theorem es_law_of : f_law_of.slots = 2 := Eq.trans rfl rfl
theorem eb_law_same : f_law_same.body = (.seq (.iff (.or (.cons (.isN (.var 1)) (.cons (.isN (.var 0)) .nil))) (.seq (.ret (.and (.cons (.isN (.var 0)) (.cons (.isN (.var 1)) .nil)))) .skip) .skip) (.seq (.iff (.or (.cons (.isi (.var 1) [.bool]) (.cons (.isi (.var 0) [.bool]) .nil))) (.seq (.ret (.and (.cons (.isi (.var 1) [.bool]) (.cons (.isi (.var 0) [.bool]) (.cons (.cmp .eq (.var 0) (.var 1)) .nil))))) .skip) .skip) (.seq (.iff (.isi (.var 1) [.int, .str]) (.seq (.ret (.and (.cons (.isi (.var 0) [.int, .str]) (.cons (.cmp .eq (.isi (.var 0) [.int]) (.isi (.var 1) [.int])) (.cons (.cmp .eq (.var 0) (.var 1)) .nil))))) .skip) .skip) (.seq (.iff (.or (.cons (.cmp .ne (.isi (.var 1) [.list]) (.isi (.var 0) [.list])) (.cons (.cmp .ne (.isi (.var 1) [.tuple]) (.isi (.var 0) [.tuple])) .nil))) (.seq (.ret (.bl false)) .skip) .skip) (.seq (.iff (.not (.isi (.var 1) [.list, .tuple])) (.seq (.ret (.cmp .eq (.var 0) (.var 1))) .skip) .skip) (.seq (.ret (.and (.cons (.cmp .eq (.blt .len (.cons (.var 0) .nil)) (.blt .len (.cons (.var 1) .nil))) (.cons (.blt .all (.cons (.lc (.call 42 (.cons (.var 2) (.cons (.var 3) .nil)) [] .nil) (.ttp (.cons (.tnm 2) (.cons (.tnm 3) .nil))) (.itz (.var 0) (.var 1)) .nil [2, 3]) .nil)) .nil)))) .skip)))))) := Eq.trans rfl rfl
theorem es_law_same : f_law_same.slots = 4 := Eq.trans rfl rfl
theorem eb_law_divisor : f_law_divisor.body = (.seq (.asg (.ttp (.cons (.tnm 0) (.cons (.tnm 1) .nil))) (.tup (.cons (.blt .abs (.cons (.var 0) .nil)) (.cons (.blt .abs (.cons (.var 1) .nil)) .nil)))) (.seq (.whl (.cmp .ne (.var 1) (.int 0)) (.seq (.asg (.ttp (.cons (.tnm 0) (.cons (.tnm 1) .nil))) (.tup (.cons (.var 1) (.cons (.bin .mod (.blt .int (.cons (.var 0) .nil)) (.var 1)) .nil)))) .skip)) (.seq (.ret (.var 0)) .skip))) := Eq.trans rfl rfl
theorem es_law_divisor : f_law_divisor.slots = 2 := Eq.trans rfl rfl
theorem eb_law_frac : f_law_frac.body = (.seq (.asg (.tnm 2) (.call 43 (.cons (.var 0) (.cons (.var 1) .nil)) [] .nil)) (.seq (.iff (.cmp .lt (.var 1) (.int 0)) (.seq (.asg (.tnm 2) (.bin .sub (.int 0) (.var 2))) .skip) .skip) (.seq (.ret (.tup (.cons (.bin .fdiv (.var 0) (.var 2)) (.cons (.bin .fdiv (.var 1) (.var 2)) .nil)))) .skip))) := Eq.trans rfl rfl
theorem es_law_frac : f_law_frac.slots = 3 := Eq.trans rfl rfl
theorem eb_law_plus : f_law_plus.body = (.seq (.ret (.call 44 (.cons (.bin .add (.bin .mul (.ix (.var 0) (.int 0)) (.ix (.var 1) (.int 1))) (.bin .mul (.ix (.var 1) (.int 0)) (.ix (.var 0) (.int 1)))) (.cons (.bin .mul (.ix (.var 0) (.int 1)) (.ix (.var 1) (.int 1))) .nil)) [] .nil)) .skip) := Eq.trans rfl rfl
theorem es_law_plus : f_law_plus.slots = 2 := Eq.trans rfl rfl
theorem eb_law_times : f_law_times.body = (.seq (.ret (.call 44 (.cons (.bin .mul (.ix (.var 0) (.int 0)) (.ix (.var 1) (.int 0))) (.cons (.bin .mul (.ix (.var 0) (.int 1)) (.ix (.var 1) (.int 1))) .nil)) [] .nil)) .skip) := Eq.trans rfl rfl
theorem es_law_times : f_law_times.slots = 2 := Eq.trans rfl rfl
theorem eb_law_minus : f_law_minus.body = (.seq (.ret (.call 45 (.cons (.var 0) (.cons (.tup (.cons (.bin .sub (.int 0) (.ix (.var 1) (.int 0))) (.cons (.ix (.var 1) (.int 1)) .nil))) .nil)) [] .nil)) .skip) := Eq.trans rfl rfl
theorem es_law_minus : f_law_minus.slots = 2 := Eq.trans rfl rfl
theorem eb_law_less : f_law_less.body = (.seq (.ret (.cmp .lt (.bin .mul (.ix (.var 0) (.int 0)) (.ix (.var 1) (.int 1))) (.bin .mul (.ix (.var 1) (.int 0)) (.ix (.var 0) (.int 1))))) .skip) := Eq.trans rfl rfl
theorem es_law_less : f_law_less.slots = 2 := Eq.trans rfl rfl
theorem eb_law_ratio : f_law_ratio.body = (.seq (.ret (.call 28 (.cons (.ix (.var 0) (.int 0)) (.cons (.ix (.var 0) (.int 1)) .nil)) [] .nil)) .skip) := Eq.trans rfl rfl
theorem es_law_ratio : f_law_ratio.slots = 1 := Eq.trans rfl rfl
theorem eb_law_pair : f_law_pair.body = (.seq (.ret (.tup (.cons (.fld 56 (.var 0)) (.cons (.fld 57 (.var 0)) .nil)))) .skip) := Eq.trans rfl rfl
theorem es_law_pair : f_law_pair.slots = 1 := Eq.trans rfl rfl
theorem eb_law_any_frac : f_law_any_frac.body = (.seq (.ret (.call 44 (.cons (.bin .sub (.call 40 (.cons (.var 0) (.cons (.bin .add (.bin .mul (.int 2) (.var 1)) (.int 1)) .nil)) [] .nil) (.var 1)) (.cons (.bin .add (.int 1) (.call 40 (.cons (.var 0) (.cons (.var 1) .nil)) [] .nil)) .nil)) [] .nil)) .skip) := Eq.trans rfl rfl
theorem es_law_any_frac : f_law_any_frac.slots = 2 := Eq.trans rfl rfl
theorem eb_law : f_law.body = (.seq (.asg (.tnm 1) (.call 39 (.cons (.var 0) .nil) [] .nil)) (.seq (.for (.tnm 2) (.itr (.cons (.int 12) .nil)) (.seq (.asg (.tnm 3) (.call 41 (.cons (.var 1) (.cons (.lst (.cons (.int 4) (.cons (.int 30) (.cons (.bin .pow (.int 10) (.int 12)) .nil)))) .nil)) [] .nil)) (.seq (.asg (.tnm 4) (.call 51 (.cons (.var 1) (.cons (.var 3) .nil)) [] .nil)) (.seq (.asg (.tnm 5) (.ife (.cmp .eq (.call 40 (.cons (.var 1) (.cons (.int 5) .nil)) [] .nil) (.int 0)) (.var 4) (.call 51 (.cons (.var 1) (.cons (.var 3) .nil)) [] .nil))) (.seq (.asg (.ttp (.cons (.tnm 9) (.cons (.tnm 10) .nil))) (.tup (.cons (.call 49 (.cons (.var 4) .nil) [] .nil) (.cons (.call 49 (.cons (.var 5) .nil) [] .nil) .nil)))) (.seq (.asg (.tnm 6) (.lst (.cons (.call 50 (.cons (.bin .add (.var 9) (.var 10)) .nil) [] .nil) (.cons (.call 50 (.cons (.bin .sub (.var 9) (.var 10)) .nil) [] .nil) (.cons (.call 50 (.cons (.bin .mul (.var 9) (.var 10)) .nil) [] .nil) (.cons (.call 50 (.cons (.neg (.var 9)) .nil) [] .nil) .nil)))))) (.seq (.asg (.tnm 7) (.lst (.cons (.call 45 (.cons (.var 4) (.cons (.var 5) .nil)) [] .nil) (.cons (.call 47 (.cons (.var 4) (.cons (.var 5) .nil)) [] .nil) (.cons (.call 46 (.cons (.var 4) (.cons (.var 5) .nil)) [] .nil) (.cons (.tup (.cons (.bin .sub (.int 0) (.ix (.var 4) (.int 0))) (.cons (.ix (.var 4) (.int 1)) .nil))) .nil)))))) (.seq (.iff (.not (.call 42 (.cons (.var 6) (.cons (.var 7) .nil)) [] .nil)) (.seq (.ret (.bl false)) .skip) .skip) (.seq (.iff (.not (.call 42 (.cons (.lst (.cons (.met 61 (.var 9) (.cons (.var 10) .nil) [] .nil) (.cons (.met 61 (.var 10) (.cons (.var 9) .nil) [] .nil) (.cons (.met 61 (.var 9) (.cons (.var 9) .nil) [] .nil) .nil)))) (.cons (.lst (.cons (.call 48 (.cons (.var 4) (.cons (.var 5) .nil)) [] .nil) (.cons (.call 48 (.cons (.var 5) (.cons (.var 4) .nil)) [] .nil) (.cons (.bl false) .nil)))) .nil)) [] .nil)) (.seq (.ret (.bl false)) .skip) .skip) (.seq (.iff (.cmp .ne (.ix (.var 5) (.int 0)) (.int 0)) (.seq (.iff (.cmp .ne (.call 50 (.cons (.met 60 (.var 9) (.cons (.var 10) .nil) [] .nil) .nil) [] .nil) (.call 44 (.cons (.bin .mul (.ix (.var 4) (.int 0)) (.ix (.var 5) (.int 1))) (.cons (.bin .mul (.ix (.var 4) (.int 1)) (.ix (.var 5) (.int 0))) .nil)) [] .nil)) (.seq (.ret (.bl false)) .skip) .skip) .skip) .skip) (.seq (.asg (.tnm 8) (.why (.met 60 (.var 9) (.cons (.bin .sub (.var 10) (.var 10)) .nil) [] .nil))) (.seq (.iff (.or (.cons (.cmp .ne (.ix (.var 8) (.int 0)) (.str [73, 110, 118, 97, 108, 105, 100, 82, 97, 116, 105, 111])) (.cons (.cmp .ne (.call 50 (.cons (.ix (.ix (.var 8) (.int 1)) (.int 0)) .nil) [] .nil) (.tup (.cons (.int 0) (.cons (.int 1) .nil)))) .nil))) (.seq (.ret (.bl false)) .skip) .skip) (.seq (.iff (.not (.call 42 (.cons (.lst (.cons (.call 50 (.cons (.var 9) .nil) [] .nil) (.cons (.call 50 (.cons (.var 10) .nil) [] .nil) .nil))) (.cons (.lst (.cons (.var 4) (.cons (.var 5) .nil))) .nil)) [] .nil)) (.seq (.ret (.bl false)) .skip) .skip) .skip))))))))))))) (.seq (.ret (.bl true)) .skip))) := Eq.trans rfl rfl
theorem es_law : f_law.slots = 11 := Eq.trans rfl rfl
theorem eb_Ratio_initD : f_Ratio_initD.body = (.seq (.iff (.or (.cons (.not (.call 36 (.cons (.var 1) .nil) [] .nil)) (.cons (.not (.call 36 (.cons (.var 2) .nil) [] .nil)) (.cons (.cmp .eq (.var 2) (.int 0)) .nil)))) (.seq (.rse 31 (.cons (.tup (.cons (.var 1) (.cons (.var 2) .nil))) .nil)) .skip) .skip) (.seq (.asg (.tnm 3) (.bin .mul (.call 37 (.cons (.var 1) (.cons (.var 2) .nil)) [] .nil) (.ife (.cmp .gt (.var 2) (.int 0)) (.int 1) (.neg (.int 1))))) (.seq (.asg (.tfl 54 (.var 0)) (.bin .fdiv (.var 1) (.var 3))) (.seq (.asg (.tfl 55 (.var 0)) (.bin .fdiv (.var 2) (.var 3))) .skip)))) := Eq.trans rfl rfl
theorem es_Ratio_initD : f_Ratio_initD.slots = 4 := Eq.trans rfl rfl
theorem eb_Ratio_top : f_Ratio_top.body = (.seq (.ret (.fld 54 (.var 0))) .skip) := Eq.trans rfl rfl
theorem es_Ratio_top : f_Ratio_top.slots = 1 := Eq.trans rfl rfl
theorem eb_Ratio_bottom : f_Ratio_bottom.body = (.seq (.ret (.fld 55 (.var 0))) .skip) := Eq.trans rfl rfl
theorem es_Ratio_bottom : f_Ratio_bottom.slots = 1 := Eq.trans rfl rfl
theorem eb_Ratio_side : f_Ratio_side.body = (.seq (.ex .wall) .skip) := Eq.trans rfl rfl
theorem es_Ratio_side : f_Ratio_side.slots = 1 := Eq.trans rfl rfl
theorem eb_Ratio_written : f_Ratio_written.body = (.seq (.ret (.ife (.cmp .eq (.fld 55 (.var 0)) (.int 1)) (.blt .str (.cons (.fld 54 (.var 0)) .nil)) (.fst (.cons (.fmt (.fld 54 (.var 0))) (.cons (.str [47]) (.cons (.fmt (.fld 55 (.var 0))) .nil)))))) .skip) := Eq.trans rfl rfl
theorem es_Ratio_written : f_Ratio_written.slots = 1 := Eq.trans rfl rfl
theorem eb_Ratio_over : f_Ratio_over.body = (.seq (.iff (.cmp .eq (.fld 56 (.var 1)) (.int 0)) (.seq (.rse 31 (.cons (.var 1) .nil)) .skip) .skip) (.seq (.ret (.call 28 (.cons (.bin .mul (.fld 54 (.var 0)) (.fld 57 (.var 1))) (.cons (.bin .mul (.fld 55 (.var 0)) (.fld 56 (.var 1))) .nil)) [] .nil)) .skip)) := Eq.trans rfl rfl
theorem es_Ratio_over : f_Ratio_over.slots = 2 := Eq.trans rfl rfl
theorem eb_Ratio_addD : f_Ratio_addD.body = (.seq (.ret (.call 28 (.cons (.bin .add (.bin .mul (.fld 54 (.var 0)) (.fld 57 (.var 1))) (.bin .mul (.fld 56 (.var 1)) (.fld 55 (.var 0)))) (.cons (.bin .mul (.fld 55 (.var 0)) (.fld 57 (.var 1))) .nil)) [] .nil)) .skip) := Eq.trans rfl rfl
theorem es_Ratio_addD : f_Ratio_addD.slots = 2 := Eq.trans rfl rfl
theorem eb_Ratio_subD : f_Ratio_subD.body = (.seq (.ret (.call 28 (.cons (.bin .sub (.bin .mul (.fld 54 (.var 0)) (.fld 57 (.var 1))) (.bin .mul (.fld 56 (.var 1)) (.fld 55 (.var 0)))) (.cons (.bin .mul (.fld 55 (.var 0)) (.fld 57 (.var 1))) .nil)) [] .nil)) .skip) := Eq.trans rfl rfl
theorem es_Ratio_subD : f_Ratio_subD.slots = 2 := Eq.trans rfl rfl
theorem eb_Ratio_mulD : f_Ratio_mulD.body = (.seq (.ret (.call 28 (.cons (.bin .mul (.fld 54 (.var 0)) (.fld 56 (.var 1))) (.cons (.bin .mul (.fld 55 (.var 0)) (.fld 57 (.var 1))) .nil)) [] .nil)) .skip) := Eq.trans rfl rfl
theorem es_Ratio_mulD : f_Ratio_mulD.slots = 2 := Eq.trans rfl rfl
theorem eb_Ratio_negD : f_Ratio_negD.body = (.seq (.ret (.call 28 (.cons (.neg (.fld 54 (.var 0))) (.cons (.fld 55 (.var 0)) .nil)) [] .nil)) .skip) := Eq.trans rfl rfl
theorem es_Ratio_negD : f_Ratio_negD.slots = 1 := Eq.trans rfl rfl
theorem eb_Ratio_eqD : f_Ratio_eqD.body = (.seq (.ret (.and (.cons (.isi (.var 1) [.own 28]) (.cons (.cmp .eq (.fld 54 (.var 0)) (.fld 56 (.var 1))) (.cons (.cmp .eq (.fld 55 (.var 0)) (.fld 57 (.var 1))) .nil))))) .skip) := Eq.trans rfl rfl
theorem es_Ratio_eqD : f_Ratio_eqD.slots = 2 := Eq.trans rfl rfl
theorem eb_Ratio_is_less : f_Ratio_is_less.body = (.seq (.ret (.cmp .lt (.bin .mul (.fld 54 (.var 0)) (.fld 57 (.var 1))) (.bin .mul (.fld 56 (.var 1)) (.fld 55 (.var 0))))) .skip) := Eq.trans rfl rfl
theorem es_Ratio_is_less : f_Ratio_is_less.slots = 2 := Eq.trans rfl rfl
theorem eb_Ratio_boolD : f_Ratio_boolD.body = (.seq (.ret (.blt .bool (.cons (.fld 54 (.var 0)) .nil))) .skip) := Eq.trans rfl rfl
theorem es_Ratio_boolD : f_Ratio_boolD.slots = 1 := Eq.trans rfl rfl
theorem eb_Ratio_strD : f_Ratio_strD.body = (.seq (.ret (.blt .str (.cons (.met 59 (.var 0) .nil [] .nil) .nil))) .skip) := Eq.trans rfl rfl
theorem es_Ratio_strD : f_Ratio_strD.slots = 1 := Eq.trans rfl rfl
theorem eb_Ratio_reprD : f_Ratio_reprD.body = (.seq (.ret (.fst (.cons (.str [82, 97, 116, 105, 111, 40]) (.cons (.fmt (.met 59 (.var 0) .nil [] .nil)) (.cons (.str [41]) .nil))))) .skip) := Eq.trans rfl rfl
theorem es_Ratio_reprD : f_Ratio_reprD.slots = 1 := Eq.trans rfl rfl
/-- an instance of Ratio: own_top own_bottom -/
abbrev o_Ratio (v0 v1 : LV) : LV := (.obj 28 [54, 55] [v0, v1])
theorem ic_Ratio : p.prog.isCls 28 = true := Eq.trans rfl rfl
theorem sf_Ratio_own_top (fs : List (Nat × LV)) (v : LV) (H : LH) : setFld p.prog 54 (.ref 0) v (.ins 28 fs :: H) = if fs.length < 900 then .ok () (.ins 28 (fput fs 54 v) :: H) else .bad := Eq.trans rfl rfl
theorem fl_Ratio_own_top (G : Gam) (v0 v1 : LV) (H : LH) : getFld p.prog G 54 (.obj 28 [54, 55] [v0, v1]) H = .ok v0 H := Eq.trans rfl rfl
theorem sf_Ratio_own_bottom (fs : List (Nat × LV)) (v : LV) (H : LH) : setFld p.prog 55 (.ref 0) v (.ins 28 fs :: H) = if fs.length < 900 then .ok () (.ins 28 (fput fs 55 v) :: H) else .bad := Eq.trans rfl rfl
theorem fl_Ratio_own_bottom (G : Gam) (v0 v1 : LV) (H : LH) : getFld p.prog G 55 (.obj 28 [54, 55] [v0, v1]) H = .ok v1 H := Eq.trans rfl rfl
theorem pr_Ratio_top (G : Gam) (ns : List Nat) (vs : List LV) (H : LH) : getFld p.prog G 56 (.obj 28 ns vs) H = noX (G 28 56 [.obj 28 ns vs] [] H) := Eq.trans rfl rfl
theorem pr_Ratio_bottom (G : Gam) (ns : List Nat) (vs : List LV) (H : LH) : getFld p.prog G 57 (.obj 28 ns vs) H = noX (G 28 57 [.obj 28 ns vs] [] H) := Eq.trans rfl rfl
theorem pr_Ratio_side (G : Gam) (ns : List Nat) (vs : List LV) (H : LH) : getFld p.prog G 58 (.obj 28 ns vs) H = noX (G 28 58 [.obj 28 ns vs] [] H) := Eq.trans rfl rfl
theorem rc_Ratio_written (v0 v1 : LV) (H : LH) : recv p.prog 59 (.obj 28 [54, 55] [v0, v1]) H = .own 28 := Eq.trans rfl rfl
theorem rc_Ratio_over (v0 v1 : LV) (H : LH) : recv p.prog 60 (.obj 28 [54, 55] [v0, v1]) H = .own 28 := Eq.trans rfl rfl
theorem om_Ratio_add (G : Gam) (vs : List LV) (H : LH) : ownM p.prog G H 28 kAdd vs = G 28 16 vs [] H := Eq.trans rfl rfl
theorem om_Ratio_sub (G : Gam) (vs : List LV) (H : LH) : ownM p.prog G H 28 kSub vs = G 28 17 vs [] H := Eq.trans rfl rfl
theorem om_Ratio_mul (G : Gam) (vs : List LV) (H : LH) : ownM p.prog G H 28 kMul vs = G 28 18 vs [] H := Eq.trans rfl rfl
theorem om_Ratio_neg (G : Gam) (vs : List LV) (H : LH) : ownM p.prog G H 28 kNeg vs = G 28 19 vs [] H := Eq.trans rfl rfl
theorem om_Ratio_eq (G : Gam) (vs : List LV) (H : LH) : ownM p.prog G H 28 kEq vs = G 28 15 vs [] H := Eq.trans rfl rfl
theorem rc_Ratio_is_less (v0 v1 : LV) (H : LH) : recv p.prog 61 (.obj 28 [54, 55] [v0, v1]) H = .own 28 := Eq.trans rfl rfl
theorem om_Ratio_bool (G : Gam) (vs : List LV) (H : LH) : ownM p.prog G H 28 kBool vs = G 28 20 vs [] H := Eq.trans rfl rfl
theorem om_Ratio_str (G : Gam) (vs : List LV) (H : LH) : ownM p.prog G H 28 kStr vs = G 28 22 vs [] H := Eq.trans rfl rfl
theorem om_Ratio_repr (G : Gam) (vs : List LV) (H : LH) : ownM p.prog G H 28 kRepr vs = G 28 23 vs [] H := Eq.trans rfl rfl
theorem ty_Ratio_non (H : LH) : tyOne p.prog (.own 28) (.non) H = some false := Eq.trans rfl rfl
theorem ty_Ratio_bl (b : Bool) (H : LH) : tyOne p.prog (.own 28) (.bl b) H = some false := Eq.trans rfl rfl
theorem ty_Ratio_int (i : Int) (H : LH) : tyOne p.prog (.own 28) (.int i) H = some false := Eq.trans rfl rfl
theorem ty_Ratio_str (s : List Nat) (H : LH) : tyOne p.prog (.own 28) (.str s) H = some false := Eq.trans rfl rfl
theorem ty_Ratio_tup (xs : List LV) (H : LH) : tyOne p.prog (.own 28) (.tup xs) H = some false := Eq.trans rfl rfl
theorem ty_Ratio_fz (xs : List LV) (H : LH) : tyOne p.prog (.own 28) (.fz xs) H = some false := Eq.trans rfl rfl
theorem ty_Ratio_Ratio (ns : List Nat) (vs : List LV) (H : LH) : tyOne p.prog (.own 28) (.obj 28 ns vs) H = some true := Eq.trans rfl rfl
theorem ty_Ratio_Tint (ns : List Nat) (vs : List LV) (H : LH) : tyOne p.prog .int (.obj 28 ns vs) H = some false := Eq.trans rfl rfl
theorem ty_Ratio_Tbool (ns : List Nat) (vs : List LV) (H : LH) : tyOne p.prog .bool (.obj 28 ns vs) H = some false := Eq.trans rfl rfl
theorem ty_Ratio_Tstr (ns : List Nat) (vs : List LV) (H : LH) : tyOne p.prog .str (.obj 28 ns vs) H = some false := Eq.trans rfl rfl
theorem ty_Ratio_Tlist (ns : List Nat) (vs : List LV) (H : LH) : tyOne p.prog .list (.obj 28 ns vs) H = some false := Eq.trans rfl rfl
theorem ty_Ratio_Ttuple (ns : List Nat) (vs : List LV) (H : LH) : tyOne p.prog .tuple (.obj 28 ns vs) H = some false := Eq.trans rfl rfl
theorem ty_Ratio_Tdict (ns : List Nat) (vs : List LV) (H : LH) : tyOne p.prog .dict (.obj 28 ns vs) H = some false := Eq.trans rfl rfl
theorem tb_Ratio (G : Gam) (ns : List Nat) (vs : List LV) (H : LH) : truth p.prog G (.obj 28 ns vs) H = (G 28 kBool [.obj 28 ns vs] [] H).bind fun r H1 => match r with
          | .bl b => .ok b H1
          | _ => .bad := Eq.trans rfl rfl
theorem rq_InvalidRatio (v : LV) (σ : LS) (H : LH) : rseQ p.prog 31 σ [v] H = .exc ⟨31, [(35, v), (5, .str [73, 110, 118, 97, 108, 105, 100, 82, 97, 116, 105, 111])]⟩ σ H := Eq.trans rfl rfl
theorem wq_InvalidRatio (v : LV) (H : LH) : whyOf p.prog ⟨31, [(35, v), (5, .str [73, 110, 118, 97, 108, 105, 100, 82, 97, 116, 105, 111])]⟩ H = .ok (.tup [.str [73, 110, 118, 97, 108, 105, 100, 82, 97, 116, 105, 111], .tup [v]]) H := Eq.trans rfl rfl
theorem cq_FIGURES (H : LH) : conQ p.prog 52 H = .ok (.str [48, 49, 50, 51, 52, 53, 54, 55, 56, 57]) H := Eq.trans rfl rfl
theorem con_FIGURES : p.prog.con 52 = some (.str [48, 49, 50, 51, 52, 53, 54, 55, 56, 57]) := Eq.trans rfl rfl
theorem cq_MOST_FIGURES (H : LH) : conQ p.prog 53 H = .ok (.int (30)) H := Eq.trans rfl rfl
theorem con_MOST_FIGURES : p.prog.con 53 = some (.int (30)) := Eq.trans rfl rfl
end GL

set_option Elab.async false
set_option linter.all false
set_option autoImplicit false
set_option maxRecDepth 100000
set_option maxHeartbeats 2000000
namespace GL
open PM
local macro_rules | `(tactic| fail) => `(tactic| simp only [cg_is_number, eb_is_number, es_is_number, cg_divisor_of, eb_divisor_of, es_divisor_of, cg_number_in, eb_number_in, es_number_in, cg_law_bag, eb_law_bag, es_law_bag, cg_law_draw, eb_law_draw, es_law_draw, cg_law_of, eb_law_of, es_law_of, cg_law_same, eb_law_same, es_law_same, cg_law_divisor, eb_law_divisor, es_law_divisor, cg_law_frac, eb_law_frac, es_law_frac, cg_law_plus, eb_law_plus, es_law_plus, cg_law_times, eb_law_times, es_law_times, cg_law_minus, eb_law_minus, es_law_minus, cg_law_less, eb_law_less, es_law_less, cg_law_ratio, eb_law_ratio, es_law_ratio, cg_law_pair, eb_law_pair, es_law_pair, cg_law_any_frac, eb_law_any_frac, es_law_any_frac, cg_law, eb_law, es_law, eb_Ratio_initD, es_Ratio_initD, eb_Ratio_top, es_Ratio_top, eb_Ratio_bottom, es_Ratio_bottom, eb_Ratio_side, es_Ratio_side, eb_Ratio_written, es_Ratio_written, eb_Ratio_over, es_Ratio_over, eb_Ratio_addD, es_Ratio_addD, eb_Ratio_subD, es_Ratio_subD, eb_Ratio_mulD, es_Ratio_mulD, eb_Ratio_negD, es_Ratio_negD, eb_Ratio_eqD, es_Ratio_eqD, eb_Ratio_is_less, es_Ratio_is_less, eb_Ratio_boolD, es_Ratio_boolD, eb_Ratio_strD, es_Ratio_strD, eb_Ratio_reprD, es_Ratio_reprD, cg_Ratio, ic_Ratio, sf_Ratio_own_top, fl_Ratio_own_top, sf_Ratio_own_bottom, fl_Ratio_own_bottom, pr_Ratio_top, pr_Ratio_bottom, pr_Ratio_side, rc_Ratio_written, rc_Ratio_over, om_Ratio_add, om_Ratio_sub, om_Ratio_mul, om_Ratio_neg, om_Ratio_eq, rc_Ratio_is_less, om_Ratio_bool, om_Ratio_str, om_Ratio_repr, ty_Ratio_non, ty_Ratio_bl, ty_Ratio_int, ty_Ratio_str, ty_Ratio_tup, ty_Ratio_fz, ty_Ratio_Ratio, ty_Ratio_Tint, ty_Ratio_Tbool, ty_Ratio_Tstr, ty_Ratio_Tlist, ty_Ratio_Ttuple, ty_Ratio_Tdict, tb_Ratio, rq_InvalidRatio, wq_InvalidRatio, cq_FIGURES, con_FIGURES, cq_MOST_FIGURES, con_MOST_FIGURES, ↓WS_seq, ↓WS_ofR, ↓W_bind, ↓W_noX, ↓W_why, W_ok, W_exc, W_bad, WS_ok, WS_exc, WS_bad, seqQ_nx, seqQ_rt, seqQ_bk, seqQ_ct, retQ_nx, retQ_rt, e_int, e_bl, e_non, e_str, e_glo, e_tup, e_lst, e_lstM, e_bin, e_neg, e_not, t_not, e_cmp, e_isN, e_notN, e_and, t_and, e_or, t_or, e_ife, t_ife, e_fld, e_ix, e_slc, e_slcM, e_rev, e_call, e_blt, e_met, e_isi, e_lc, e_lcM, t_var, t_int, t_bl, t_bin, t_cmp, t_isN, t_notN, t_fld, t_ix, t_call, t_blt, t_met, t_isi, t_chain, e_chain, esn_nil, t_nil, ta_nil, to_nil, esn_cons, an_cons, orr_cons, ta_cons, to_cons, es_star, i_itv, i_itr, i_ite, i_itz, i_itb, g_ttp, gs_nil, gs_cons, g_tfl, g_tix, s_skip, s_ex, s_asg, s_ret, s_iff, s_whl, s_for, s_brk, s_cnt, nil_nil, nil_cons, e_var, wr_ok, g_nm, binop_int, arith_add, arith_sub, cmp_int_ne, cmp_int_eq, cmp_int_lt, cmp_int_le, cmp_int_gt, cmp_int_ge, callB_abs, callB_int, callB_intb, callB_max, callB_min, seqOf_tup, getIx_t0, getIx_t1, le_sl1, le_sl2, le_sl3, le_sl4, le_sl5, le_sl6, if_true, List.map_cons, List.map_nil, List.length_cons, List.length_nil, List.replicate, List.cons_append, List.nil_append, List.getElem?_cons_zero, List.getElem?_cons_succ, List.set_cons_zero, List.set_cons_succ, Nat.zero_lt_succ, Nat.succ_lt_succ_iff, Nat.reduceAdd, Nat.reduceSub, Nat.reduceLT, zipK, List.isEmpty_nil, truth_nonX, truth_blX, truth_intX, truth_tupX, truth_fzX, isNone_non, isNone_bl, isNone_int, isNone_str, isNone_tup, isNone_fz, isNone_obj, isiOf_eq, tyAny_nil, tyAny_cons, cmp_obj_eq, eqArg_int, eqArg_non, eqArg_bl, eqArg_str, eqArg_obj, binop_bl, binop_add_obj, binop_sub_obj, binop_mul_obj, binop_bor_obj, neg_int, neg_obj, len_fz, len_tup, list_fz, list_tup, tuple_fz, tuple_tup, bool_int, bool_fz, itv_fz, itv_tup, itv_str, ite_fz, ite_tup, itb_fz, itb_tup, itz_fz, itz_tup, getSl_fz, getSl_tup, getSlM_fz, revOf_fz, partR_nil, partR_int, noRefs_nil, noRefs_cons, noRef_int, noRef_bl, noRef_str, noRef_non, noRef_fz, noRef_obj, noRef_tup, noRef_scr, frO_int, frO_bl, frO_str, frO_non, frO_fz, frO_obj, chainK_t, chainK_f, callM_own, Bool.and_true, Bool.true_and, Bool.and_self, if_false, Bool.false_eq_true, Bool.not_true, Bool.not_false, rcv_ok, fput_nil, fput_cons, reduceIte, Nat.reduceEqDiff, true_and, and_true, wipe, id_eq, cmp_str_eq, cmp_str_ne, cmp_bl_eq, cmp_bl_ne, beq_self_eq_true, s_augn, augop_add, augop_sub, rcv_okl, callM_lst, newF_nil, newF_1, newF_2, newF_3, newF_4, newF_5, newF_6, newF_7, newF_8, seqOf_fz, List.append_nil, rcv_app0, rcv_app1, newL_nil, newL_1, newL_2, newL_3, newL_4, newL_5, newL_6, newL_7, newL_8, Option.map_some, strQ_str, blQ_bl, neQ_bl, str_int, str_str, str_obj, repr_obj, bool_obj, cmp_obj_ne, eqArg_tup, eqArg_fz, strO_eq, fsK_str, e_fst, e_fmt, fs_nil, fs_cons, fmt_int, fmt_str, add_str, s_rse, e_why, e_mxd, in_str, e_con, eq_tup0, ne_tup0, le_sl0, List.isEmpty_cons, rcv_ext0, rcv_join, rcv_oks, callM_str, ty_int_non, ty_int_bl, ty_int_int, ty_int_str, ty_int_tup, ty_int_fz, ty_bool_non, ty_bool_bl, ty_bool_int, ty_bool_str, ty_bool_tup, ty_bool_fz, ty_str_non, ty_str_bl, ty_str_int, ty_str_str, ty_str_tup, ty_str_fz, ty_list_non, ty_list_bl, ty_list_int, ty_list_str, ty_list_tup, ty_list_fz, ty_tuple_non, ty_tuple_bl, ty_tuple_int, ty_tuple_str, ty_tuple_tup, ty_tuple_fz, ty_dict_non, ty_dict_bl, ty_dict_int, ty_dict_str, ty_dict_tup, ty_dict_fz])
local macro_rules | `(tactic| dsimp! [$as,*]) => `(tactic| simp only [cg_is_number, eb_is_number, es_is_number, cg_divisor_of, eb_divisor_of, es_divisor_of, cg_number_in, eb_number_in, es_number_in, cg_law_bag, eb_law_bag, es_law_bag, cg_law_draw, eb_law_draw, es_law_draw, cg_law_of, eb_law_of, es_law_of, cg_law_same, eb_law_same, es_law_same, cg_law_divisor, eb_law_divisor, es_law_divisor, cg_law_frac, eb_law_frac, es_law_frac, cg_law_plus, eb_law_plus, es_law_plus, cg_law_times, eb_law_times, es_law_times, cg_law_minus, eb_law_minus, es_law_minus, cg_law_less, eb_law_less, es_law_less, cg_law_ratio, eb_law_ratio, es_law_ratio, cg_law_pair, eb_law_pair, es_law_pair, cg_law_any_frac, eb_law_any_frac, es_law_any_frac, cg_law, eb_law, es_law, eb_Ratio_initD, es_Ratio_initD, eb_Ratio_top, es_Ratio_top, eb_Ratio_bottom, es_Ratio_bottom, eb_Ratio_side, es_Ratio_side, eb_Ratio_written, es_Ratio_written, eb_Ratio_over, es_Ratio_over, eb_Ratio_addD, es_Ratio_addD, eb_Ratio_subD, es_Ratio_subD, eb_Ratio_mulD, es_Ratio_mulD, eb_Ratio_negD, es_Ratio_negD, eb_Ratio_eqD, es_Ratio_eqD, eb_Ratio_is_less, es_Ratio_is_less, eb_Ratio_boolD, es_Ratio_boolD, eb_Ratio_strD, es_Ratio_strD, eb_Ratio_reprD, es_Ratio_reprD, cg_Ratio, ic_Ratio, sf_Ratio_own_top, fl_Ratio_own_top, sf_Ratio_own_bottom, fl_Ratio_own_bottom, pr_Ratio_top, pr_Ratio_bottom, pr_Ratio_side, rc_Ratio_written, rc_Ratio_over, om_Ratio_add, om_Ratio_sub, om_Ratio_mul, om_Ratio_neg, om_Ratio_eq, rc_Ratio_is_less, om_Ratio_bool, om_Ratio_str, om_Ratio_repr, ty_Ratio_non, ty_Ratio_bl, ty_Ratio_int, ty_Ratio_str, ty_Ratio_tup, ty_Ratio_fz, ty_Ratio_Ratio, ty_Ratio_Tint, ty_Ratio_Tbool, ty_Ratio_Tstr, ty_Ratio_Tlist, ty_Ratio_Ttuple, ty_Ratio_Tdict, tb_Ratio, rq_InvalidRatio, wq_InvalidRatio, cq_FIGURES, con_FIGURES, cq_MOST_FIGURES, con_MOST_FIGURES, ↓WS_seq, ↓WS_ofR, ↓W_bind, ↓W_noX, ↓W_why, W_ok, W_exc, W_bad, WS_ok, WS_exc, WS_bad, seqQ_nx, seqQ_rt, seqQ_bk, seqQ_ct, retQ_nx, retQ_rt, e_int, e_bl, e_non, e_str, e_glo, e_tup, e_lst, e_lstM, e_bin, e_neg, e_not, t_not, e_cmp, e_isN, e_notN, e_and, t_and, e_or, t_or, e_ife, t_ife, e_fld, e_ix, e_slc, e_slcM, e_rev, e_call, e_blt, e_met, e_isi, e_lc, e_lcM, t_var, t_int, t_bl, t_bin, t_cmp, t_isN, t_notN, t_fld, t_ix, t_call, t_blt, t_met, t_isi, t_chain, e_chain, esn_nil, t_nil, ta_nil, to_nil, esn_cons, an_cons, orr_cons, ta_cons, to_cons, es_star, i_itv, i_itr, i_ite, i_itz, i_itb, g_ttp, gs_nil, gs_cons, g_tfl, g_tix, s_skip, s_ex, s_asg, s_ret, s_iff, s_whl, s_for, s_brk, s_cnt, nil_nil, nil_cons, e_var, wr_ok, g_nm, binop_int, arith_add, arith_sub, cmp_int_ne, cmp_int_eq, cmp_int_lt, cmp_int_le, cmp_int_gt, cmp_int_ge, callB_abs, callB_int, callB_intb, callB_max, callB_min, seqOf_tup, getIx_t0, getIx_t1, le_sl1, le_sl2, le_sl3, le_sl4, le_sl5, le_sl6, if_true, List.map_cons, List.map_nil, List.length_cons, List.length_nil, List.replicate, List.cons_append, List.nil_append, List.getElem?_cons_zero, List.getElem?_cons_succ, List.set_cons_zero, List.set_cons_succ, Nat.zero_lt_succ, Nat.succ_lt_succ_iff, Nat.reduceAdd, Nat.reduceSub, Nat.reduceLT, zipK, List.isEmpty_nil, truth_nonX, truth_blX, truth_intX, truth_tupX, truth_fzX, isNone_non, isNone_bl, isNone_int, isNone_str, isNone_tup, isNone_fz, isNone_obj, isiOf_eq, tyAny_nil, tyAny_cons, cmp_obj_eq, eqArg_int, eqArg_non, eqArg_bl, eqArg_str, eqArg_obj, binop_bl, binop_add_obj, binop_sub_obj, binop_mul_obj, binop_bor_obj, neg_int, neg_obj, len_fz, len_tup, list_fz, list_tup, tuple_fz, tuple_tup, bool_int, bool_fz, itv_fz, itv_tup, itv_str, ite_fz, ite_tup, itb_fz, itb_tup, itz_fz, itz_tup, getSl_fz, getSl_tup, getSlM_fz, revOf_fz, partR_nil, partR_int, noRefs_nil, noRefs_cons, noRef_int, noRef_bl, noRef_str, noRef_non, noRef_fz, noRef_obj, noRef_tup, noRef_scr, frO_int, frO_bl, frO_str, frO_non, frO_fz, frO_obj, chainK_t, chainK_f, callM_own, Bool.and_true, Bool.true_and, Bool.and_self, if_false, Bool.false_eq_true, Bool.not_true, Bool.not_false, rcv_ok, fput_nil, fput_cons, reduceIte, Nat.reduceEqDiff, true_and, and_true, wipe, id_eq, cmp_str_eq, cmp_str_ne, cmp_bl_eq, cmp_bl_ne, beq_self_eq_true, s_augn, augop_add, augop_sub, rcv_okl, callM_lst, newF_nil, newF_1, newF_2, newF_3, newF_4, newF_5, newF_6, newF_7, newF_8, seqOf_fz, List.append_nil, rcv_app0, rcv_app1, newL_nil, newL_1, newL_2, newL_3, newL_4, newL_5, newL_6, newL_7, newL_8, Option.map_some, strQ_str, blQ_bl, neQ_bl, str_int, str_str, str_obj, repr_obj, bool_obj, cmp_obj_ne, eqArg_tup, eqArg_fz, strO_eq, fsK_str, e_fst, e_fmt, fs_nil, fs_cons, fmt_int, fmt_str, add_str, s_rse, e_why, e_mxd, in_str, e_con, eq_tup0, ne_tup0, le_sl0, List.isEmpty_cons, rcv_ext0, rcv_join, rcv_oks, callM_str, ty_int_non, ty_int_bl, ty_int_int, ty_int_str, ty_int_tup, ty_int_fz, ty_bool_non, ty_bool_bl, ty_bool_int, ty_bool_str, ty_bool_tup, ty_bool_fz, ty_str_non, ty_str_bl, ty_str_int, ty_str_str, ty_str_tup, ty_str_fz, ty_list_non, ty_list_bl, ty_list_int, ty_list_str, ty_list_tup, ty_list_fz, ty_tuple_non, ty_tuple_bl, ty_tuple_int, ty_tuple_str, ty_tuple_tup, ty_tuple_fz, ty_dict_non, ty_dict_bl, ty_dict_int, ty_dict_str, ty_dict_tup, ty_dict_fz, $as,*])
local macro_rules | `(tactic| bv_omega) => `(tactic| first | assumption | rfl | omega | (simp only [noRefs_cons, noRefs_nil, noRef_tup, noRef_int, noRef_str, noRef_bl, noRef_non, noRef_fz, noRef_obj, noRef_scr, Bool.and_self, Bool.and_true, Bool.true_and]; done) | (refine sm_int ?_; omega) | (refine sm_len' ?_; omega) | decide)
local macro_rules | `(tactic| refine' ($a)) => `(tactic| first | refine W_use (by with_reducible apply $a <;> bv_omega) ?_ | refine W_useX (by with_reducible apply $a <;> bv_omega) ?_ | ((with_reducible apply $a) <;> first | refine K.mk ?_ | bv_omega))
/-! ### sizes -/
def Sm (k : Nat) (x : Int) : Prop := x.natAbs < 2 ^ k
instance (k : Nat) (x : Int) : Decidable (Sm k x) := inferInstanceAs (Decidable (x.natAbs < 2 ^ k))
theorem Sm.le {k l : Nat} {x : Int} (h : Sm k x) (hl : k ≤ l) : Sm l x := Nat.lt_of_lt_of_le h (Nat.pow_le_pow_right (by decide) hl)
theorem Sm.neg {k : Nat} {x : Int} (h : Sm k x) : Sm k (-x) := by unfold Sm at h ⊢; omega
theorem Sm.mul {k l : Nat} {x y : Int} (h : Sm k x) (g : Sm l y) : Sm (k + l) (x * y) := by
  unfold Sm at h g ⊢
  rw [Int.natAbs_mul, Nat.pow_add]
  by_cases e : y.natAbs = 0
  · rw [e, Nat.mul_zero]; exact Nat.mul_pos (Nat.two_pow_pos _) (Nat.two_pow_pos _)
  · exact Nat.mul_lt_mul_of_lt_of_le h (Nat.le_of_lt g) (by omega)
theorem Sm.add {k l : Nat} {x y : Int} (h : Sm k x) (g : Sm l y) : Sm (max k l + 1) (x + y) := by
  have h := h.le (Nat.le_max_left k l)
  have g := g.le (Nat.le_max_right k l)
  unfold Sm at h g ⊢
  rw [Nat.pow_succ]
  omega
theorem Sm.sub {k l : Nat} {x y : Int} (h : Sm k x) (g : Sm l y) : Sm (max k l + 1) (x - y) := by
  rw [Int.sub_eq_add_neg]
  exact h.add g.neg
theorem Sm.log {k : Nat} {x : Int} (h : Sm k x) (hk : k ≤ 9000) (h0 : 0 < k) : x.natAbs.log2 < 9000 := by
  by_cases e : x.natAbs = 0
  · rw [e]; decide
  · exact Nat.lt_of_lt_of_le ((Nat.log2_lt e).mpr h) hk
theorem Sm.mulOk {k l : Nat} {x y : Int} (h : Sm k x) (g : Sm l y) (hk : k + l ≤ 1000000) : mulOk x y = true := by
  unfold PM.mulOk
  have lg : ∀ {k : Nat} {x : Int}, Sm k x → x.natAbs.log2 ≤ k := fun {k x} h => by
    by_cases e : x.natAbs = 0
    · rw [e]; simp
    · exact Nat.le_of_lt ((Nat.log2_lt e).mpr h)
  have l1 : ∀ {k : Nat} {x : Int}, Sm k x → 64 < k → x.natAbs.log2 < k := fun {k x} h hk => by
    by_cases e : x.natAbs = 0
    · rw [e]; simp; omega
    · exact (Nat.log2_lt e).mpr h
  by_cases e : k ≤ 64
  · simp [Nat.lt_of_lt_of_le h (Nat.pow_le_pow_right (by decide) e)]
  · have a := l1 h (by omega)
    have b := lg g
    have : x.natAbs.log2 + y.natAbs.log2 < 1000000 := by omega
    simp [this]
theorem Sm.of {k : Nat} {x : Int} (h : x.natAbs < 2 ^ k) : Sm k x := h
/-- the parts of the euclidean way -/
def eum (a b : Nat) : Nat := if b = 0 then 0 else 1 + 2 * (a * b).log2 + (if a < b then 1 else 0)
theorem eum_lt {a b : Nat} (hb : b ≠ 0) : eum b (a % b) < eum a b := by
  unfold eum
  rw [if_neg hb]
  by_cases hr : a % b = 0
  · rw [if_pos hr]; omega
  · rw [if_neg hr]
    have hlt := Nat.mod_lt a (Nat.pos_of_ne_zero hb)
    have z : ¬ b < a % b := by omega
    rw [if_neg z]
    by_cases h : a < b
    · rw [if_pos h, Nat.mod_eq_of_lt h, Nat.mul_comm b a]
      omega
    · rw [if_neg h]
      have h2 : 2 * (a % b) ≤ a := by
        have := Nat.div_add_mod a b
        have q : 1 ≤ a / b := (Nat.one_le_div_iff (by omega)).mpr (by omega)
        have : b * 1 ≤ b * (a / b) := Nat.mul_le_mul_left b q
        omega
      have p0 : 0 < b * (a % b) := Nat.mul_pos (by omega) (by omega)
      have h3 : 2 * (b * (a % b)) ≤ a * b := by
        calc 2 * (b * (a % b)) = (2 * (a % b)) * b := by rw [Nat.mul_comm b, Nat.mul_assoc]
          _ ≤ a * b := Nat.mul_le_mul_right b h2
      have h4 : (b * (a % b)).log2 + 1 ≤ (a * b).log2 := by
        rw [Nat.le_log2 (by omega), Nat.pow_succ]
        have := Nat.log2_self_le (n := b * (a % b)) (by omega)
        omega
      omega
theorem eum_le {a b k l : Nat} (ha : a < 2 ^ k) (hb : b < 2 ^ l) : eum a b ≤ 2 * (k + l) + 2 := by
  unfold eum
  split
  · omega
  · have : (a * b).log2 ≤ k + l := by
      by_cases e : a * b = 0
      · rw [e]; simp
      · refine Nat.le_of_lt ((Nat.log2_lt e).mpr ?_)
        rw [Nat.pow_add]
        exact Nat.mul_lt_mul_of_lt_of_le ha (Nat.le_of_lt hb) (by omega)
    split <;> omega
/-- divisor_of, twice -/
theorem div_body {n : Nat} (i1 i2 : Bool) (x y : Int) (hx : Sm 1000000 x) (hy : Sm 1000000 y) :
    WS (whlL (den p.prog (gam p.prog n) (.cmp .ne (.var 1) (.int 0))).t (den p.prog (gam p.prog n) (.seq (.asg (.ttp (.cons (.tnm 0) (.cons (.tnm 1) .nil))) (.tup (.cons (.var 1) (.cons (.bin .mod (if i1 then .blt .int (.cons (.var 0) .nil) else .var 0) (.var 1)) .nil)))) .skip)).s 1000000000 [some (.int x.natAbs), some (.int y.natAbs)] []) (fun fl H => fl = .nx [some (.int (Int.gcd x y : Nat)), some (.int 0)] ∧ H = []) noES := by
  refine W_whl (fun k σ H' => ∃ a b : Nat, σ = [some (.int a), some (.int b)] ∧ k = eum a b ∧ H' = [] ∧ Nat.gcd a b = Int.gcd x y) ?_ _ (eum x.natAbs y.natAbs) _ _ (by have := eum_le hx hy; omega) ⟨x.natAbs, y.natAbs, rfl, rfl, rfl, rfl⟩
  rintro k σ H' ⟨a, b, rfl, rfl, rfl, hg⟩
  fail
  by_cases hb : b = 0
  · subst hb
    have : a = Int.gcd x y := by rw [← hg]; simp
    simp [this]
  · have : ¬ (b : Int) = 0 := by omega
    simp only [this, decide_false, Bool.not_false, if_true]
    have hm : ∀ H : LH, arith .mod (a : Int) (b : Int) H = .ok (.int (a % b : Nat)) H := fun H => by rw [arith_mod (by omega)]; simp
    cases i1
    · dsimp! [hm]
      refine ⟨eum b (a % b), eum_lt hb, b, a % b, rfl, rfl, ?_⟩
      rw [← hg, Nat.gcd_comm b, ← Nat.gcd_rec, Nat.gcd_comm]
    · dsimp! [hm]
      refine ⟨eum b (a % b), eum_lt hb, b, a % b, rfl, rfl, ?_⟩
      rw [← hg, Nat.gcd_comm b, ← Nat.gcd_rec, Nat.gcd_comm]
theorem C_div {n : Nat} (x y : Int) (hx : Sm 1000000 x) (hy : Sm 1000000 y) (H : LH) : gam p.prog (n + 1) 0 43 [.int x, .int y] [] H = .ok (.int (Int.gcd x y : Nat)) H := by
  refine gam_fz (f := f_law_divisor) rfl rfl rfl rfl (Nat.le_of_ble_eq_true rfl) ?_
  fail
  refine (div_body (n := n) true true x y hx hy).mono ?_
  rintro fl H' ⟨rfl, rfl⟩
  fail
theorem C_divP {n : Nat} (x y : Int) (hx : Sm 1000000 x) (hy : Sm 1000000 y) (H : LH) : gam p.prog (n + 1) 0 37 [.int x, .int y] [] H = .ok (.int (Int.gcd x y : Nat)) H := by
  refine gam_fz (f := f_divisor_of) rfl rfl rfl rfl (Nat.le_of_ble_eq_true rfl) ?_
  fail
  refine (div_body (n := n) false false x y hx hy).mono ?_
  rintro fl H' ⟨rfl, rfl⟩
  fail
end GL

set_option Elab.async false
set_option linter.all false
set_option autoImplicit false
set_option maxRecDepth 100000
set_option maxHeartbeats 2000000
namespace GL
open PM
local macro_rules | `(tactic| fail) => `(tactic| simp only [cg_is_number, eb_is_number, es_is_number, cg_divisor_of, eb_divisor_of, es_divisor_of, cg_number_in, eb_number_in, es_number_in, cg_law_bag, eb_law_bag, es_law_bag, cg_law_draw, eb_law_draw, es_law_draw, cg_law_of, eb_law_of, es_law_of, cg_law_same, eb_law_same, es_law_same, cg_law_divisor, eb_law_divisor, es_law_divisor, cg_law_frac, eb_law_frac, es_law_frac, cg_law_plus, eb_law_plus, es_law_plus, cg_law_times, eb_law_times, es_law_times, cg_law_minus, eb_law_minus, es_law_minus, cg_law_less, eb_law_less, es_law_less, cg_law_ratio, eb_law_ratio, es_law_ratio, cg_law_pair, eb_law_pair, es_law_pair, cg_law_any_frac, eb_law_any_frac, es_law_any_frac, cg_law, eb_law, es_law, eb_Ratio_initD, es_Ratio_initD, eb_Ratio_top, es_Ratio_top, eb_Ratio_bottom, es_Ratio_bottom, eb_Ratio_side, es_Ratio_side, eb_Ratio_written, es_Ratio_written, eb_Ratio_over, es_Ratio_over, eb_Ratio_addD, es_Ratio_addD, eb_Ratio_subD, es_Ratio_subD, eb_Ratio_mulD, es_Ratio_mulD, eb_Ratio_negD, es_Ratio_negD, eb_Ratio_eqD, es_Ratio_eqD, eb_Ratio_is_less, es_Ratio_is_less, eb_Ratio_boolD, es_Ratio_boolD, eb_Ratio_strD, es_Ratio_strD, eb_Ratio_reprD, es_Ratio_reprD, cg_Ratio, ic_Ratio, sf_Ratio_own_top, fl_Ratio_own_top, sf_Ratio_own_bottom, fl_Ratio_own_bottom, pr_Ratio_top, pr_Ratio_bottom, pr_Ratio_side, rc_Ratio_written, rc_Ratio_over, om_Ratio_add, om_Ratio_sub, om_Ratio_mul, om_Ratio_neg, om_Ratio_eq, rc_Ratio_is_less, om_Ratio_bool, om_Ratio_str, om_Ratio_repr, ty_Ratio_non, ty_Ratio_bl, ty_Ratio_int, ty_Ratio_str, ty_Ratio_tup, ty_Ratio_fz, ty_Ratio_Ratio, ty_Ratio_Tint, ty_Ratio_Tbool, ty_Ratio_Tstr, ty_Ratio_Tlist, ty_Ratio_Ttuple, ty_Ratio_Tdict, tb_Ratio, rq_InvalidRatio, wq_InvalidRatio, cq_FIGURES, con_FIGURES, cq_MOST_FIGURES, con_MOST_FIGURES, ↓WS_seq, ↓WS_ofR, ↓W_bind, ↓W_noX, ↓W_why, W_ok, W_exc, W_bad, WS_ok, WS_exc, WS_bad, seqQ_nx, seqQ_rt, seqQ_bk, seqQ_ct, retQ_nx, retQ_rt, e_int, e_bl, e_non, e_str, e_glo, e_tup, e_lst, e_lstM, e_bin, e_neg, e_not, t_not, e_cmp, e_isN, e_notN, e_and, t_and, e_or, t_or, e_ife, t_ife, e_fld, e_ix, e_slc, e_slcM, e_rev, e_call, e_blt, e_met, e_isi, e_lc, e_lcM, t_var, t_int, t_bl, t_bin, t_cmp, t_isN, t_notN, t_fld, t_ix, t_call, t_blt, t_met, t_isi, t_chain, e_chain, esn_nil, t_nil, ta_nil, to_nil, esn_cons, an_cons, orr_cons, ta_cons, to_cons, es_star, i_itv, i_itr, i_ite, i_itz, i_itb, g_ttp, gs_nil, gs_cons, g_tfl, g_tix, s_skip, s_ex, s_asg, s_ret, s_iff, s_whl, s_for, s_brk, s_cnt, nil_nil, nil_cons, e_var, wr_ok, g_nm, binop_int, arith_add, arith_sub, cmp_int_ne, cmp_int_eq, cmp_int_lt, cmp_int_le, cmp_int_gt, cmp_int_ge, callB_abs, callB_int, callB_intb, callB_max, callB_min, seqOf_tup, getIx_t0, getIx_t1, le_sl1, le_sl2, le_sl3, le_sl4, le_sl5, le_sl6, if_true, List.map_cons, List.map_nil, List.length_cons, List.length_nil, List.replicate, List.cons_append, List.nil_append, List.getElem?_cons_zero, List.getElem?_cons_succ, List.set_cons_zero, List.set_cons_succ, Nat.zero_lt_succ, Nat.succ_lt_succ_iff, Nat.reduceAdd, Nat.reduceSub, Nat.reduceLT, zipK, List.isEmpty_nil, truth_nonX, truth_blX, truth_intX, truth_tupX, truth_fzX, isNone_non, isNone_bl, isNone_int, isNone_str, isNone_tup, isNone_fz, isNone_obj, isiOf_eq, tyAny_nil, tyAny_cons, cmp_obj_eq, eqArg_int, eqArg_non, eqArg_bl, eqArg_str, eqArg_obj, binop_bl, binop_add_obj, binop_sub_obj, binop_mul_obj, binop_bor_obj, neg_int, neg_obj, len_fz, len_tup, list_fz, list_tup, tuple_fz, tuple_tup, bool_int, bool_fz, itv_fz, itv_tup, itv_str, ite_fz, ite_tup, itb_fz, itb_tup, itz_fz, itz_tup, getSl_fz, getSl_tup, getSlM_fz, revOf_fz, partR_nil, partR_int, noRefs_nil, noRefs_cons, noRef_int, noRef_bl, noRef_str, noRef_non, noRef_fz, noRef_obj, noRef_tup, noRef_scr, frO_int, frO_bl, frO_str, frO_non, frO_fz, frO_obj, chainK_t, chainK_f, callM_own, Bool.and_true, Bool.true_and, Bool.and_self, if_false, Bool.false_eq_true, Bool.not_true, Bool.not_false, rcv_ok, fput_nil, fput_cons, reduceIte, Nat.reduceEqDiff, true_and, and_true, wipe, id_eq, cmp_str_eq, cmp_str_ne, cmp_bl_eq, cmp_bl_ne, beq_self_eq_true, s_augn, augop_add, augop_sub, rcv_okl, callM_lst, newF_nil, newF_1, newF_2, newF_3, newF_4, newF_5, newF_6, newF_7, newF_8, seqOf_fz, List.append_nil, rcv_app0, rcv_app1, newL_nil, newL_1, newL_2, newL_3, newL_4, newL_5, newL_6, newL_7, newL_8, Option.map_some, strQ_str, blQ_bl, neQ_bl, str_int, str_str, str_obj, repr_obj, bool_obj, cmp_obj_ne, eqArg_tup, eqArg_fz, strO_eq, fsK_str, e_fst, e_fmt, fs_nil, fs_cons, fmt_int, fmt_str, add_str, s_rse, e_why, e_mxd, in_str, e_con, eq_tup0, ne_tup0, le_sl0, List.isEmpty_cons, rcv_ext0, rcv_join, rcv_oks, callM_str, ty_int_non, ty_int_bl, ty_int_int, ty_int_str, ty_int_tup, ty_int_fz, ty_bool_non, ty_bool_bl, ty_bool_int, ty_bool_str, ty_bool_tup, ty_bool_fz, ty_str_non, ty_str_bl, ty_str_int, ty_str_str, ty_str_tup, ty_str_fz, ty_list_non, ty_list_bl, ty_list_int, ty_list_str, ty_list_tup, ty_list_fz, ty_tuple_non, ty_tuple_bl, ty_tuple_int, ty_tuple_str, ty_tuple_tup, ty_tuple_fz, ty_dict_non, ty_dict_bl, ty_dict_int, ty_dict_str, ty_dict_tup, ty_dict_fz])
local macro_rules | `(tactic| dsimp! [$as,*]) => `(tactic| simp only [cg_is_number, eb_is_number, es_is_number, cg_divisor_of, eb_divisor_of, es_divisor_of, cg_number_in, eb_number_in, es_number_in, cg_law_bag, eb_law_bag, es_law_bag, cg_law_draw, eb_law_draw, es_law_draw, cg_law_of, eb_law_of, es_law_of, cg_law_same, eb_law_same, es_law_same, cg_law_divisor, eb_law_divisor, es_law_divisor, cg_law_frac, eb_law_frac, es_law_frac, cg_law_plus, eb_law_plus, es_law_plus, cg_law_times, eb_law_times, es_law_times, cg_law_minus, eb_law_minus, es_law_minus, cg_law_less, eb_law_less, es_law_less, cg_law_ratio, eb_law_ratio, es_law_ratio, cg_law_pair, eb_law_pair, es_law_pair, cg_law_any_frac, eb_law_any_frac, es_law_any_frac, cg_law, eb_law, es_law, eb_Ratio_initD, es_Ratio_initD, eb_Ratio_top, es_Ratio_top, eb_Ratio_bottom, es_Ratio_bottom, eb_Ratio_side, es_Ratio_side, eb_Ratio_written, es_Ratio_written, eb_Ratio_over, es_Ratio_over, eb_Ratio_addD, es_Ratio_addD, eb_Ratio_subD, es_Ratio_subD, eb_Ratio_mulD, es_Ratio_mulD, eb_Ratio_negD, es_Ratio_negD, eb_Ratio_eqD, es_Ratio_eqD, eb_Ratio_is_less, es_Ratio_is_less, eb_Ratio_boolD, es_Ratio_boolD, eb_Ratio_strD, es_Ratio_strD, eb_Ratio_reprD, es_Ratio_reprD, cg_Ratio, ic_Ratio, sf_Ratio_own_top, fl_Ratio_own_top, sf_Ratio_own_bottom, fl_Ratio_own_bottom, pr_Ratio_top, pr_Ratio_bottom, pr_Ratio_side, rc_Ratio_written, rc_Ratio_over, om_Ratio_add, om_Ratio_sub, om_Ratio_mul, om_Ratio_neg, om_Ratio_eq, rc_Ratio_is_less, om_Ratio_bool, om_Ratio_str, om_Ratio_repr, ty_Ratio_non, ty_Ratio_bl, ty_Ratio_int, ty_Ratio_str, ty_Ratio_tup, ty_Ratio_fz, ty_Ratio_Ratio, ty_Ratio_Tint, ty_Ratio_Tbool, ty_Ratio_Tstr, ty_Ratio_Tlist, ty_Ratio_Ttuple, ty_Ratio_Tdict, tb_Ratio, rq_InvalidRatio, wq_InvalidRatio, cq_FIGURES, con_FIGURES, cq_MOST_FIGURES, con_MOST_FIGURES, ↓WS_seq, ↓WS_ofR, ↓W_bind, ↓W_noX, ↓W_why, W_ok, W_exc, W_bad, WS_ok, WS_exc, WS_bad, seqQ_nx, seqQ_rt, seqQ_bk, seqQ_ct, retQ_nx, retQ_rt, e_int, e_bl, e_non, e_str, e_glo, e_tup, e_lst, e_lstM, e_bin, e_neg, e_not, t_not, e_cmp, e_isN, e_notN, e_and, t_and, e_or, t_or, e_ife, t_ife, e_fld, e_ix, e_slc, e_slcM, e_rev, e_call, e_blt, e_met, e_isi, e_lc, e_lcM, t_var, t_int, t_bl, t_bin, t_cmp, t_isN, t_notN, t_fld, t_ix, t_call, t_blt, t_met, t_isi, t_chain, e_chain, esn_nil, t_nil, ta_nil, to_nil, esn_cons, an_cons, orr_cons, ta_cons, to_cons, es_star, i_itv, i_itr, i_ite, i_itz, i_itb, g_ttp, gs_nil, gs_cons, g_tfl, g_tix, s_skip, s_ex, s_asg, s_ret, s_iff, s_whl, s_for, s_brk, s_cnt, nil_nil, nil_cons, e_var, wr_ok, g_nm, binop_int, arith_add, arith_sub, cmp_int_ne, cmp_int_eq, cmp_int_lt, cmp_int_le, cmp_int_gt, cmp_int_ge, callB_abs, callB_int, callB_intb, callB_max, callB_min, seqOf_tup, getIx_t0, getIx_t1, le_sl1, le_sl2, le_sl3, le_sl4, le_sl5, le_sl6, if_true, List.map_cons, List.map_nil, List.length_cons, List.length_nil, List.replicate, List.cons_append, List.nil_append, List.getElem?_cons_zero, List.getElem?_cons_succ, List.set_cons_zero, List.set_cons_succ, Nat.zero_lt_succ, Nat.succ_lt_succ_iff, Nat.reduceAdd, Nat.reduceSub, Nat.reduceLT, zipK, List.isEmpty_nil, truth_nonX, truth_blX, truth_intX, truth_tupX, truth_fzX, isNone_non, isNone_bl, isNone_int, isNone_str, isNone_tup, isNone_fz, isNone_obj, isiOf_eq, tyAny_nil, tyAny_cons, cmp_obj_eq, eqArg_int, eqArg_non, eqArg_bl, eqArg_str, eqArg_obj, binop_bl, binop_add_obj, binop_sub_obj, binop_mul_obj, binop_bor_obj, neg_int, neg_obj, len_fz, len_tup, list_fz, list_tup, tuple_fz, tuple_tup, bool_int, bool_fz, itv_fz, itv_tup, itv_str, ite_fz, ite_tup, itb_fz, itb_tup, itz_fz, itz_tup, getSl_fz, getSl_tup, getSlM_fz, revOf_fz, partR_nil, partR_int, noRefs_nil, noRefs_cons, noRef_int, noRef_bl, noRef_str, noRef_non, noRef_fz, noRef_obj, noRef_tup, noRef_scr, frO_int, frO_bl, frO_str, frO_non, frO_fz, frO_obj, chainK_t, chainK_f, callM_own, Bool.and_true, Bool.true_and, Bool.and_self, if_false, Bool.false_eq_true, Bool.not_true, Bool.not_false, rcv_ok, fput_nil, fput_cons, reduceIte, Nat.reduceEqDiff, true_and, and_true, wipe, id_eq, cmp_str_eq, cmp_str_ne, cmp_bl_eq, cmp_bl_ne, beq_self_eq_true, s_augn, augop_add, augop_sub, rcv_okl, callM_lst, newF_nil, newF_1, newF_2, newF_3, newF_4, newF_5, newF_6, newF_7, newF_8, seqOf_fz, List.append_nil, rcv_app0, rcv_app1, newL_nil, newL_1, newL_2, newL_3, newL_4, newL_5, newL_6, newL_7, newL_8, Option.map_some, strQ_str, blQ_bl, neQ_bl, str_int, str_str, str_obj, repr_obj, bool_obj, cmp_obj_ne, eqArg_tup, eqArg_fz, strO_eq, fsK_str, e_fst, e_fmt, fs_nil, fs_cons, fmt_int, fmt_str, add_str, s_rse, e_why, e_mxd, in_str, e_con, eq_tup0, ne_tup0, le_sl0, List.isEmpty_cons, rcv_ext0, rcv_join, rcv_oks, callM_str, ty_int_non, ty_int_bl, ty_int_int, ty_int_str, ty_int_tup, ty_int_fz, ty_bool_non, ty_bool_bl, ty_bool_int, ty_bool_str, ty_bool_tup, ty_bool_fz, ty_str_non, ty_str_bl, ty_str_int, ty_str_str, ty_str_tup, ty_str_fz, ty_list_non, ty_list_bl, ty_list_int, ty_list_str, ty_list_tup, ty_list_fz, ty_tuple_non, ty_tuple_bl, ty_tuple_int, ty_tuple_str, ty_tuple_tup, ty_tuple_fz, ty_dict_non, ty_dict_bl, ty_dict_int, ty_dict_str, ty_dict_tup, ty_dict_fz, $as,*])
local macro_rules | `(tactic| bv_omega) => `(tactic| first | assumption | rfl | omega | (simp only [noRefs_cons, noRefs_nil, noRef_tup, noRef_int, noRef_str, noRef_bl, noRef_non, noRef_fz, noRef_obj, noRef_scr, Bool.and_self, Bool.and_true, Bool.true_and]; done) | (refine sm_int ?_; omega) | (refine sm_len' ?_; omega) | decide)
local macro_rules | `(tactic| refine' ($a)) => `(tactic| first | refine W_use (by with_reducible apply $a <;> bv_omega) ?_ | refine W_useX (by with_reducible apply $a <;> bv_omega) ?_ | ((with_reducible apply $a) <;> first | refine K.mk ?_ | bv_omega))
/-- a ratio in its lowest terms, the bottom above 0 -/
def nrm (t b : Int) : Int × Int := if b < 0 then (-(t / (Int.gcd t b : Nat)), -(b / (Int.gcd t b : Nat))) else (t / (Int.gcd t b : Nat), b / (Int.gcd t b : Nat))
theorem fdiv_neg_of {t : Int} {g : Nat} (hg : 0 < g) (h : (g : Int) ∣ t) : Int.fdiv t (-(g : Int)) = -(t / (g : Int)) := by
  obtain ⟨k, rfl⟩ := h
  rw [show (g : Int) * k = (-(g : Int)) * (-k) by rw [Int.neg_mul_neg], Int.mul_fdiv_cancel_left _ (by omega), Int.neg_mul_neg, Int.mul_ediv_cancel_left _ (by omega)]
theorem gcd_sm {t b : Int} {k : Nat} (h0 : b ≠ 0) (h : Sm k b) : Sm k (Int.gcd t b : Nat) :=
  Nat.lt_of_le_of_lt (by simpa using Nat.le_of_dvd (by omega) (Int.gcd_dvd_natAbs_right t b)) h
theorem nrm_pos {t b : Int} (h0 : b ≠ 0) : 0 < (nrm t b).2 := by
  have gp : 0 < Int.gcd t b := Int.gcd_pos_of_ne_zero_right _ h0
  obtain ⟨k, hk⟩ := Int.gcd_dvd_right t b
  have e : b / (Int.gcd t b : Nat) = k := by
    conv => lhs; lhs; rw [hk]
    exact Int.mul_ediv_cancel_left _ (by omega)
  unfold nrm
  split <;> rename_i h <;> simp only [] <;> rw [e]
  · have : k < 0 := by
      apply Int.lt_of_not_ge
      intro hk0
      have := Int.mul_nonneg (Int.ofNat_nonneg (Int.gcd t b)) hk0
      have h2 : (0 : Int) ≤ b := by rw [hk]; exact this
      omega
    omega
  · have : 0 ≤ b := by omega
    rcases Int.lt_trichotomy k 0 with z | z | z
    · have := Int.mul_neg_of_pos_of_neg (show (0 : Int) < (Int.gcd t b : Nat) by omega) z
      have h2 : b < 0 := by rw [hk]; exact this
      omega
    · subst z; rw [Int.mul_zero] at hk; exact absurd hk h0
    · exact z
theorem nrm_sm1 {t b : Int} {k : Nat} (h : Sm k t) : Sm k (nrm t b).1 := by
  have : (t / ((Int.gcd t b : Nat) : Int)).natAbs ≤ t.natAbs := by
    rw [Int.natAbs_ediv_of_dvd (Int.gcd_dvd_left ..)]
    exact Nat.div_le_self _ _
  unfold Sm at h ⊢
  unfold nrm
  split <;> simp only [] <;> omega
theorem nrm_sm2 {t b : Int} {k : Nat} (h : Sm k b) : Sm k (nrm t b).2 := by
  have : (b / ((Int.gcd t b : Nat) : Int)).natAbs ≤ b.natAbs := by
    rw [Int.natAbs_ediv_of_dvd (Int.gcd_dvd_right ..)]
    exact Nat.div_le_self _ _
  unfold Sm at h ⊢
  unfold nrm
  split <;> simp only [] <;> omega
/-- in its lowest terms already -/
theorem nrm_id {t b : Int} (hb : 0 < b) (hg : Int.gcd t b = 1) : nrm t b = (t, b) := by
  unfold nrm
  rw [if_neg (by omega), hg]
  simp
theorem nrm_cross (t b : Int) (h0 : b ≠ 0) : (nrm t b).1 * b = t * (nrm t b).2 := by
  have gp : 0 < Int.gcd t b := Int.gcd_pos_of_ne_zero_right _ h0
  obtain ⟨k, hk⟩ := Int.gcd_dvd_right t b
  obtain ⟨l, hl⟩ := Int.gcd_dvd_left t b
  generalize hg : ((Int.gcd t b : Nat) : Int) = g at *
  have g0 : g ≠ 0 := by omega
  have e1 : b / g = k := by rw [hk, Int.mul_ediv_cancel_left _ g0]
  have e2 : t / g = l := by rw [hl, Int.mul_ediv_cancel_left _ g0]
  unfold nrm
  rw [hg]
  split <;> simp only [] <;> rw [e1, e2, hk, hl]
  · rw [Int.neg_mul, Int.mul_neg, Int.mul_left_comm l, Int.mul_assoc]
  · rw [Int.mul_left_comm l, Int.mul_assoc]
theorem nrm_gcd (t b : Int) (h0 : b ≠ 0) : Int.gcd (nrm t b).1 (nrm t b).2 = 1 := by
  have gp : 0 < Int.gcd t b := Int.gcd_pos_of_ne_zero_right _ h0
  have e : Int.gcd (t / (Int.gcd t b : Nat)) (b / (Int.gcd t b : Nat)) = 1 := Int.gcd_ediv_gcd_ediv_gcd gp
  unfold nrm
  split <;> simp only []
  · rw [Int.neg_gcd, Int.gcd_neg]; exact e
  · exact e
theorem C_frac {n : Nat} (t b : Int) (h0 : b ≠ 0) (ht : Sm 1000000 t) (hb : Sm 9000 b) (H : LH) : gam p.prog (n + 2) 0 44 [.int t, .int b] [] H = .ok (.tup [.int (nrm t b).1, .int (nrm t b).2]) H := by
  have gp : 0 < Int.gcd t b := Int.gcd_pos_of_ne_zero_right _ h0
  have hg : Sm 9000 (Int.gcd t b : Nat) := gcd_sm h0 hb
  refine gam_fz (f := f_law_frac) rfl rfl rfl rfl (Nat.le_of_ble_eq_true rfl) ?_
  dsimp! [C_div t b ht (hb.le (by decide))]
  unfold nrm
  by_cases hn : b < 0
  · have e0 : (0 : Int) - (Int.gcd t b : Nat) = -(Int.gcd t b : Nat) := by omega
    have e1 : ∀ H, arith .fdiv t (-((Int.gcd t b : Nat) : Int)) H = .ok (.int (-(t / (Int.gcd t b : Nat)))) H := fun H => by rw [arith_fdivN (by omega) (hg.neg.log (by decide) (by decide)), fdiv_neg_of gp (Int.gcd_dvd_left ..)]
    have e2 : ∀ H, arith .fdiv b (-((Int.gcd t b : Nat) : Int)) H = .ok (.int (-(b / (Int.gcd t b : Nat)))) H := fun H => by rw [arith_fdivN (by omega) (hg.neg.log (by decide) (by decide)), fdiv_neg_of gp (Int.gcd_dvd_right ..)]
    dsimp! [hn, decide_true, e0, e1, e2]
    rfl
  · have e1 : ∀ H, arith .fdiv t ((Int.gcd t b : Nat) : Int) H = .ok (.int (t / (Int.gcd t b : Nat))) H := fun H => arith_fdiv (by omega) (hg.log (by decide) (by decide))
    have e2 : ∀ H, arith .fdiv b ((Int.gcd t b : Nat) : Int) H = .ok (.int (b / (Int.gcd t b : Nat))) H := fun H => arith_fdiv (by omega) (hg.log (by decide) (by decide))
    dsimp! [hn, decide_false, e1, e2]
    rfl
theorem C_plus {n k l : Nat} (a b c d : Int) (ha : Sm k a) (hb : Sm l b) (hc : Sm k c) (hd : Sm l d) (hk : k ≤ 8000) (hl : l ≤ 4000) (h1 : b ≠ 0) (h2 : d ≠ 0) (H : LH) : gam p.prog (n + 3) 0 45 [.tup [.int a, .int b], .tup [.int c, .int d]] [] H = .ok (.tup [.int (nrm (a * d + c * b) (b * d)).1, .int (nrm (a * d + c * b) (b * d)).2]) H := by
  refine gam_fz (f := f_law_plus) rfl rfl rfl rfl (Nat.le_of_ble_eq_true rfl) ?_
  dsimp! [arith_mul (ha.mulOk hd (by omega)), arith_mul (hc.mulOk hb (by omega)), arith_mul (hb.mulOk hd (by omega)), C_frac (a * d + c * b) (b * d) (Int.mul_ne_zero h1 h2) (((ha.mul hd).add (hc.mul hb)).le (by omega)) ((hb.mul hd).le (by omega))]
  rfl
theorem C_times {n k l : Nat} (a b c d : Int) (ha : Sm k a) (hb : Sm l b) (hc : Sm k c) (hd : Sm l d) (hk : k ≤ 8000) (hl : l ≤ 4000) (h1 : b ≠ 0) (h2 : d ≠ 0) (H : LH) : gam p.prog (n + 3) 0 46 [.tup [.int a, .int b], .tup [.int c, .int d]] [] H = .ok (.tup [.int (nrm (a * c) (b * d)).1, .int (nrm (a * c) (b * d)).2]) H := by
  refine gam_fz (f := f_law_times) rfl rfl rfl rfl (Nat.le_of_ble_eq_true rfl) ?_
  dsimp! [arith_mul (ha.mulOk hc (by omega)), arith_mul (hb.mulOk hd (by omega)), C_frac (a * c) (b * d) (Int.mul_ne_zero h1 h2) ((ha.mul hc).le (by omega)) ((hb.mul hd).le (by omega))]
  rfl
/-! ### the program's ratios -/
theorem C_isnum {n : Nat} (i : Int) (H : LH) : gam p.prog (n + 1) 0 36 [.int i] [] H = .ok (.bl true) H := by
  refine gam_fz (f := f_is_number) rfl rfl rfl rfl (Nat.le_of_ble_eq_true rfl) ?_
  fail
abbrev rat (t b : Int) : LV := o_Ratio (.int t) (.int b)
theorem mk_Ratio {n : Nat} (t b : Int) (h0 : b ≠ 0) (ht : Sm 1000000 t) (hb : Sm 8000 b) (vs : List LV) (kws : List (Nat × LV)) (hv : noRefs vs = true) (hk : noRefs (kws.map (·.2)) = true) (hbd : f_Ratio_initD.sig.bind (.ref 0 :: vs) kws = some [.ref 0, .int t, .int b]) (H : LH) : make p.prog (gam p.prog (n + 2)) 28 vs kws H = .ok (rat (nrm t b).1 (nrm t b).2) H := by
  have gp : 0 < Int.gcd t b := Int.gcd_pos_of_ne_zero_right _ h0
  have hg : Sm 8000 (Int.gcd t b : Nat) := gcd_sm h0 hb
  refine make_fz (d := 28) (f := f_Ratio_initD) rfl rfl rfl rfl hv hk hbd (Nat.le_of_ble_eq_true rfl) ?_
  unfold nrm
  by_cases hn : 0 < b
  · have e1 : ∀ H, arith .fdiv t ((Int.gcd t b : Nat) : Int) H = .ok (.int (t / (Int.gcd t b : Nat))) H := fun H => arith_fdiv (by omega) (hg.log (by decide) (by decide))
    have e2 : ∀ H, arith .fdiv b ((Int.gcd t b : Nat) : Int) H = .ok (.int (b / (Int.gcd t b : Nat))) H := fun H => arith_fdiv (by omega) (hg.log (by decide) (by decide))
    have nb : ¬ b < 0 := by omega
    dsimp! [C_isnum, h0, decide_false, C_divP t b ht (hb.le (by decide)), hn, decide_true, arith_mul (hg.mulOk (l := 1) (y := 1) (by decide) (by decide)), Int.mul_one, e1, e2, nb]
    rfl
  · have e1 : ∀ H, arith .fdiv t (-((Int.gcd t b : Nat) : Int)) H = .ok (.int (-(t / (Int.gcd t b : Nat)))) H := fun H => by rw [arith_fdivN (by omega) (hg.neg.log (by decide) (by decide)), fdiv_neg_of gp (Int.gcd_dvd_left ..)]
    have e2 : ∀ H, arith .fdiv b (-((Int.gcd t b : Nat) : Int)) H = .ok (.int (-(b / (Int.gcd t b : Nat)))) H := fun H => by rw [arith_fdivN (by omega) (hg.neg.log (by decide) (by decide)), fdiv_neg_of gp (Int.gcd_dvd_right ..)]
    have nb : b < 0 := by omega
    dsimp! [C_isnum, h0, decide_false, C_divP t b ht (hb.le (by decide)), hn, arith_mul (hg.mulOk (l := 1) (y := -1) (by decide) (by decide)), Int.mul_neg, Int.mul_one, e1, e2, nb]
    rfl
theorem mk_Ratio2 {n : Nat} (t b : Int) (h0 : b ≠ 0) (ht : Sm 1000000 t) (hb : Sm 8000 b) (H : LH) : make p.prog (gam p.prog (n + 2)) 28 [.int t, .int b] [] H = .ok (rat (nrm t b).1 (nrm t b).2) H := mk_Ratio t b h0 ht hb _ _ rfl rfl rfl H
theorem mk_Ratio1 {n : Nat} (t : Int) (ht : Sm 1000000 t) (H : LH) : make p.prog (gam p.prog (n + 2)) 28 [.int t] [] H = .ok (rat t 1) H := by
  have e : nrm t 1 = (t, 1) := by unfold nrm; simp
  have := mk_Ratio (n := n) t 1 (by decide) ht (by decide) [.int t] [] rfl rfl rfl H
  rw [e] at this
  exact this
theorem C_top {n : Nat} (t b : Int) (H : LH) : gam p.prog (n + 1) 28 56 [rat t b] [] H = .ok (.int t) H := by
  refine gam_fz (f := f_Ratio_top) rfl rfl rfl rfl (Nat.le_of_ble_eq_true rfl) ?_
  fail
theorem C_bottom {n : Nat} (t b : Int) (H : LH) : gam p.prog (n + 1) 28 57 [rat t b] [] H = .ok (.int b) H := by
  refine gam_fz (f := f_Ratio_bottom) rfl rfl rfl rfl (Nat.le_of_ble_eq_true rfl) ?_
  fail
end GL

set_option Elab.async false
set_option linter.all false
set_option autoImplicit false
set_option maxRecDepth 100000
set_option maxHeartbeats 2000000
namespace GL
open PM
local macro_rules | `(tactic| fail) => `(tactic| simp only [cg_is_number, eb_is_number, es_is_number, cg_divisor_of, eb_divisor_of, es_divisor_of, cg_number_in, eb_number_in, es_number_in, cg_law_bag, eb_law_bag, es_law_bag, cg_law_draw, eb_law_draw, es_law_draw, cg_law_of, eb_law_of, es_law_of, cg_law_same, eb_law_same, es_law_same, cg_law_divisor, eb_law_divisor, es_law_divisor, cg_law_frac, eb_law_frac, es_law_frac, cg_law_plus, eb_law_plus, es_law_plus, cg_law_times, eb_law_times, es_law_times, cg_law_minus, eb_law_minus, es_law_minus, cg_law_less, eb_law_less, es_law_less, cg_law_ratio, eb_law_ratio, es_law_ratio, cg_law_pair, eb_law_pair, es_law_pair, cg_law_any_frac, eb_law_any_frac, es_law_any_frac, cg_law, eb_law, es_law, eb_Ratio_initD, es_Ratio_initD, eb_Ratio_top, es_Ratio_top, eb_Ratio_bottom, es_Ratio_bottom, eb_Ratio_side, es_Ratio_side, eb_Ratio_written, es_Ratio_written, eb_Ratio_over, es_Ratio_over, eb_Ratio_addD, es_Ratio_addD, eb_Ratio_subD, es_Ratio_subD, eb_Ratio_mulD, es_Ratio_mulD, eb_Ratio_negD, es_Ratio_negD, eb_Ratio_eqD, es_Ratio_eqD, eb_Ratio_is_less, es_Ratio_is_less, eb_Ratio_boolD, es_Ratio_boolD, eb_Ratio_strD, es_Ratio_strD, eb_Ratio_reprD, es_Ratio_reprD, cg_Ratio, ic_Ratio, sf_Ratio_own_top, fl_Ratio_own_top, sf_Ratio_own_bottom, fl_Ratio_own_bottom, pr_Ratio_top, pr_Ratio_bottom, pr_Ratio_side, rc_Ratio_written, rc_Ratio_over, om_Ratio_add, om_Ratio_sub, om_Ratio_mul, om_Ratio_neg, om_Ratio_eq, rc_Ratio_is_less, om_Ratio_bool, om_Ratio_str, om_Ratio_repr, ty_Ratio_non, ty_Ratio_bl, ty_Ratio_int, ty_Ratio_str, ty_Ratio_tup, ty_Ratio_fz, ty_Ratio_Ratio, ty_Ratio_Tint, ty_Ratio_Tbool, ty_Ratio_Tstr, ty_Ratio_Tlist, ty_Ratio_Ttuple, ty_Ratio_Tdict, tb_Ratio, rq_InvalidRatio, wq_InvalidRatio, cq_FIGURES, con_FIGURES, cq_MOST_FIGURES, con_MOST_FIGURES, ↓WS_seq, ↓WS_ofR, ↓W_bind, ↓W_noX, ↓W_why, W_ok, W_exc, W_bad, WS_ok, WS_exc, WS_bad, seqQ_nx, seqQ_rt, seqQ_bk, seqQ_ct, retQ_nx, retQ_rt, e_int, e_bl, e_non, e_str, e_glo, e_tup, e_lst, e_lstM, e_bin, e_neg, e_not, t_not, e_cmp, e_isN, e_notN, e_and, t_and, e_or, t_or, e_ife, t_ife, e_fld, e_ix, e_slc, e_slcM, e_rev, e_call, e_blt, e_met, e_isi, e_lc, e_lcM, t_var, t_int, t_bl, t_bin, t_cmp, t_isN, t_notN, t_fld, t_ix, t_call, t_blt, t_met, t_isi, t_chain, e_chain, esn_nil, t_nil, ta_nil, to_nil, esn_cons, an_cons, orr_cons, ta_cons, to_cons, es_star, i_itv, i_itr, i_ite, i_itz, i_itb, g_ttp, gs_nil, gs_cons, g_tfl, g_tix, s_skip, s_ex, s_asg, s_ret, s_iff, s_whl, s_for, s_brk, s_cnt, nil_nil, nil_cons, e_var, wr_ok, g_nm, binop_int, arith_add, arith_sub, cmp_int_ne, cmp_int_eq, cmp_int_lt, cmp_int_le, cmp_int_gt, cmp_int_ge, callB_abs, callB_int, callB_intb, callB_max, callB_min, seqOf_tup, getIx_t0, getIx_t1, le_sl1, le_sl2, le_sl3, le_sl4, le_sl5, le_sl6, if_true, List.map_cons, List.map_nil, List.length_cons, List.length_nil, List.replicate, List.cons_append, List.nil_append, List.getElem?_cons_zero, List.getElem?_cons_succ, List.set_cons_zero, List.set_cons_succ, Nat.zero_lt_succ, Nat.succ_lt_succ_iff, Nat.reduceAdd, Nat.reduceSub, Nat.reduceLT, zipK, List.isEmpty_nil, truth_nonX, truth_blX, truth_intX, truth_tupX, truth_fzX, isNone_non, isNone_bl, isNone_int, isNone_str, isNone_tup, isNone_fz, isNone_obj, isiOf_eq, tyAny_nil, tyAny_cons, cmp_obj_eq, eqArg_int, eqArg_non, eqArg_bl, eqArg_str, eqArg_obj, binop_bl, binop_add_obj, binop_sub_obj, binop_mul_obj, binop_bor_obj, neg_int, neg_obj, len_fz, len_tup, list_fz, list_tup, tuple_fz, tuple_tup, bool_int, bool_fz, itv_fz, itv_tup, itv_str, ite_fz, ite_tup, itb_fz, itb_tup, itz_fz, itz_tup, getSl_fz, getSl_tup, getSlM_fz, revOf_fz, partR_nil, partR_int, noRefs_nil, noRefs_cons, noRef_int, noRef_bl, noRef_str, noRef_non, noRef_fz, noRef_obj, noRef_tup, noRef_scr, frO_int, frO_bl, frO_str, frO_non, frO_fz, frO_obj, chainK_t, chainK_f, callM_own, Bool.and_true, Bool.true_and, Bool.and_self, if_false, Bool.false_eq_true, Bool.not_true, Bool.not_false, rcv_ok, fput_nil, fput_cons, reduceIte, Nat.reduceEqDiff, true_and, and_true, wipe, id_eq, cmp_str_eq, cmp_str_ne, cmp_bl_eq, cmp_bl_ne, beq_self_eq_true, s_augn, augop_add, augop_sub, rcv_okl, callM_lst, newF_nil, newF_1, newF_2, newF_3, newF_4, newF_5, newF_6, newF_7, newF_8, seqOf_fz, List.append_nil, rcv_app0, rcv_app1, newL_nil, newL_1, newL_2, newL_3, newL_4, newL_5, newL_6, newL_7, newL_8, Option.map_some, strQ_str, blQ_bl, neQ_bl, str_int, str_str, str_obj, repr_obj, bool_obj, cmp_obj_ne, eqArg_tup, eqArg_fz, strO_eq, fsK_str, e_fst, e_fmt, fs_nil, fs_cons, fmt_int, fmt_str, add_str, s_rse, e_why, e_mxd, in_str, e_con, eq_tup0, ne_tup0, le_sl0, List.isEmpty_cons, rcv_ext0, rcv_join, rcv_oks, callM_str, ty_int_non, ty_int_bl, ty_int_int, ty_int_str, ty_int_tup, ty_int_fz, ty_bool_non, ty_bool_bl, ty_bool_int, ty_bool_str, ty_bool_tup, ty_bool_fz, ty_str_non, ty_str_bl, ty_str_int, ty_str_str, ty_str_tup, ty_str_fz, ty_list_non, ty_list_bl, ty_list_int, ty_list_str, ty_list_tup, ty_list_fz, ty_tuple_non, ty_tuple_bl, ty_tuple_int, ty_tuple_str, ty_tuple_tup, ty_tuple_fz, ty_dict_non, ty_dict_bl, ty_dict_int, ty_dict_str, ty_dict_tup, ty_dict_fz])
local macro_rules | `(tactic| dsimp! [$as,*]) => `(tactic| simp only [cg_is_number, eb_is_number, es_is_number, cg_divisor_of, eb_divisor_of, es_divisor_of, cg_number_in, eb_number_in, es_number_in, cg_law_bag, eb_law_bag, es_law_bag, cg_law_draw, eb_law_draw, es_law_draw, cg_law_of, eb_law_of, es_law_of, cg_law_same, eb_law_same, es_law_same, cg_law_divisor, eb_law_divisor, es_law_divisor, cg_law_frac, eb_law_frac, es_law_frac, cg_law_plus, eb_law_plus, es_law_plus, cg_law_times, eb_law_times, es_law_times, cg_law_minus, eb_law_minus, es_law_minus, cg_law_less, eb_law_less, es_law_less, cg_law_ratio, eb_law_ratio, es_law_ratio, cg_law_pair, eb_law_pair, es_law_pair, cg_law_any_frac, eb_law_any_frac, es_law_any_frac, cg_law, eb_law, es_law, eb_Ratio_initD, es_Ratio_initD, eb_Ratio_top, es_Ratio_top, eb_Ratio_bottom, es_Ratio_bottom, eb_Ratio_side, es_Ratio_side, eb_Ratio_written, es_Ratio_written, eb_Ratio_over, es_Ratio_over, eb_Ratio_addD, es_Ratio_addD, eb_Ratio_subD, es_Ratio_subD, eb_Ratio_mulD, es_Ratio_mulD, eb_Ratio_negD, es_Ratio_negD, eb_Ratio_eqD, es_Ratio_eqD, eb_Ratio_is_less, es_Ratio_is_less, eb_Ratio_boolD, es_Ratio_boolD, eb_Ratio_strD, es_Ratio_strD, eb_Ratio_reprD, es_Ratio_reprD, cg_Ratio, ic_Ratio, sf_Ratio_own_top, fl_Ratio_own_top, sf_Ratio_own_bottom, fl_Ratio_own_bottom, pr_Ratio_top, pr_Ratio_bottom, pr_Ratio_side, rc_Ratio_written, rc_Ratio_over, om_Ratio_add, om_Ratio_sub, om_Ratio_mul, om_Ratio_neg, om_Ratio_eq, rc_Ratio_is_less, om_Ratio_bool, om_Ratio_str, om_Ratio_repr, ty_Ratio_non, ty_Ratio_bl, ty_Ratio_int, ty_Ratio_str, ty_Ratio_tup, ty_Ratio_fz, ty_Ratio_Ratio, ty_Ratio_Tint, ty_Ratio_Tbool, ty_Ratio_Tstr, ty_Ratio_Tlist, ty_Ratio_Ttuple, ty_Ratio_Tdict, tb_Ratio, rq_InvalidRatio, wq_InvalidRatio, cq_FIGURES, con_FIGURES, cq_MOST_FIGURES, con_MOST_FIGURES, ↓WS_seq, ↓WS_ofR, ↓W_bind, ↓W_noX, ↓W_why, W_ok, W_exc, W_bad, WS_ok, WS_exc, WS_bad, seqQ_nx, seqQ_rt, seqQ_bk, seqQ_ct, retQ_nx, retQ_rt, e_int, e_bl, e_non, e_str, e_glo, e_tup, e_lst, e_lstM, e_bin, e_neg, e_not, t_not, e_cmp, e_isN, e_notN, e_and, t_and, e_or, t_or, e_ife, t_ife, e_fld, e_ix, e_slc, e_slcM, e_rev, e_call, e_blt, e_met, e_isi, e_lc, e_lcM, t_var, t_int, t_bl, t_bin, t_cmp, t_isN, t_notN, t_fld, t_ix, t_call, t_blt, t_met, t_isi, t_chain, e_chain, esn_nil, t_nil, ta_nil, to_nil, esn_cons, an_cons, orr_cons, ta_cons, to_cons, es_star, i_itv, i_itr, i_ite, i_itz, i_itb, g_ttp, gs_nil, gs_cons, g_tfl, g_tix, s_skip, s_ex, s_asg, s_ret, s_iff, s_whl, s_for, s_brk, s_cnt, nil_nil, nil_cons, e_var, wr_ok, g_nm, binop_int, arith_add, arith_sub, cmp_int_ne, cmp_int_eq, cmp_int_lt, cmp_int_le, cmp_int_gt, cmp_int_ge, callB_abs, callB_int, callB_intb, callB_max, callB_min, seqOf_tup, getIx_t0, getIx_t1, le_sl1, le_sl2, le_sl3, le_sl4, le_sl5, le_sl6, if_true, List.map_cons, List.map_nil, List.length_cons, List.length_nil, List.replicate, List.cons_append, List.nil_append, List.getElem?_cons_zero, List.getElem?_cons_succ, List.set_cons_zero, List.set_cons_succ, Nat.zero_lt_succ, Nat.succ_lt_succ_iff, Nat.reduceAdd, Nat.reduceSub, Nat.reduceLT, zipK, List.isEmpty_nil, truth_nonX, truth_blX, truth_intX, truth_tupX, truth_fzX, isNone_non, isNone_bl, isNone_int, isNone_str, isNone_tup, isNone_fz, isNone_obj, isiOf_eq, tyAny_nil, tyAny_cons, cmp_obj_eq, eqArg_int, eqArg_non, eqArg_bl, eqArg_str, eqArg_obj, binop_bl, binop_add_obj, binop_sub_obj, binop_mul_obj, binop_bor_obj, neg_int, neg_obj, len_fz, len_tup, list_fz, list_tup, tuple_fz, tuple_tup, bool_int, bool_fz, itv_fz, itv_tup, itv_str, ite_fz, ite_tup, itb_fz, itb_tup, itz_fz, itz_tup, getSl_fz, getSl_tup, getSlM_fz, revOf_fz, partR_nil, partR_int, noRefs_nil, noRefs_cons, noRef_int, noRef_bl, noRef_str, noRef_non, noRef_fz, noRef_obj, noRef_tup, noRef_scr, frO_int, frO_bl, frO_str, frO_non, frO_fz, frO_obj, chainK_t, chainK_f, callM_own, Bool.and_true, Bool.true_and, Bool.and_self, if_false, Bool.false_eq_true, Bool.not_true, Bool.not_false, rcv_ok, fput_nil, fput_cons, reduceIte, Nat.reduceEqDiff, true_and, and_true, wipe, id_eq, cmp_str_eq, cmp_str_ne, cmp_bl_eq, cmp_bl_ne, beq_self_eq_true, s_augn, augop_add, augop_sub, rcv_okl, callM_lst, newF_nil, newF_1, newF_2, newF_3, newF_4, newF_5, newF_6, newF_7, newF_8, seqOf_fz, List.append_nil, rcv_app0, rcv_app1, newL_nil, newL_1, newL_2, newL_3, newL_4, newL_5, newL_6, newL_7, newL_8, Option.map_some, strQ_str, blQ_bl, neQ_bl, str_int, str_str, str_obj, repr_obj, bool_obj, cmp_obj_ne, eqArg_tup, eqArg_fz, strO_eq, fsK_str, e_fst, e_fmt, fs_nil, fs_cons, fmt_int, fmt_str, add_str, s_rse, e_why, e_mxd, in_str, e_con, eq_tup0, ne_tup0, le_sl0, List.isEmpty_cons, rcv_ext0, rcv_join, rcv_oks, callM_str, ty_int_non, ty_int_bl, ty_int_int, ty_int_str, ty_int_tup, ty_int_fz, ty_bool_non, ty_bool_bl, ty_bool_int, ty_bool_str, ty_bool_tup, ty_bool_fz, ty_str_non, ty_str_bl, ty_str_int, ty_str_str, ty_str_tup, ty_str_fz, ty_list_non, ty_list_bl, ty_list_int, ty_list_str, ty_list_tup, ty_list_fz, ty_tuple_non, ty_tuple_bl, ty_tuple_int, ty_tuple_str, ty_tuple_tup, ty_tuple_fz, ty_dict_non, ty_dict_bl, ty_dict_int, ty_dict_str, ty_dict_tup, ty_dict_fz, $as,*])
local macro_rules | `(tactic| bv_omega) => `(tactic| first | assumption | rfl | omega | (simp only [noRefs_cons, noRefs_nil, noRef_tup, noRef_int, noRef_str, noRef_bl, noRef_non, noRef_fz, noRef_obj, noRef_scr, Bool.and_self, Bool.and_true, Bool.true_and]; done) | (refine sm_int ?_; omega) | (refine sm_len' ?_; omega) | decide)
local macro_rules | `(tactic| refine' ($a)) => `(tactic| first | refine W_use (by with_reducible apply $a <;> bv_omega) ?_ | refine W_useX (by with_reducible apply $a <;> bv_omega) ?_ | ((with_reducible apply $a) <;> first | refine K.mk ?_ | bv_omega))
/-! ### the bag -/
structure Bag where
  cells : List Int
  used : Nat
  left : Int
  mark : Int
  hm : 0 ≤ mark ∧ mark < 2147483629
def Bag.o (b : Bag) : LO := .lst [.fz (b.cells.map .int), .int b.used, .int b.left, .int b.mark]
theorem Bag.ok (b : Bag) : objOk b.o = true := rfl
def Bag.cell (b : Bag) : Int := if b.used + 1 ≤ b.cells.length then b.cells[b.used]?.getD 0 else b.mark + (b.used + 1 : Nat) * 7919
def Bag.mix (b : Bag) : Int := (b.cell * 69621 + (b.used + 1 : Nat) * 40503 + b.mark) % 2147483647
def Bag.late (b : Bag) : Int := (b.mix * b.mix + (b.used + 1 : Nat) * 30011) % 998244353
def draw (b : Bag) (m : Int) : Int × Bag :=
  if b.left < 2 then (if b.cells.length < b.used + 1 ∨ b.cell < 1000000000000000000 then ((b.late * 31337 + b.mix) % 2147483563 / 17 % m, { b with used := b.used + 1 })
    else (b.cell % m, { b with used := b.used + 1, left := b.cell / m }))
  else (b.left % m, { b with left := b.left / m })
theorem draw_lo (b : Bag) {m : Int} (h : 0 < m) : 0 ≤ (draw b m).1 := by
  unfold draw
  split
  · split <;> exact Int.emod_nonneg _ (by omega)
  · exact Int.emod_nonneg _ (by omega)
theorem draw_hi (b : Bag) {m : Int} (h : 0 < m) : (draw b m).1 < m := by
  unfold draw
  split
  · split <;> exact Int.emod_lt_of_pos _ h
  · exact Int.emod_lt_of_pos _ h
theorem arith_pow1018 (H : LH) : arith .pow 10 18 H = .ok (.int 1000000000000000000) H := by
  have h : (0 : Int) ≤ 18 ∧ (18 : Int) ≤ 1000000 ∧ (10 : Int).natAbs < 2 ^ 64 := ⟨by omega, by omega, by omega⟩
  exact (if_pos h : (if (0 : Int) ≤ 18 ∧ (18 : Int) ≤ 1000000 ∧ (10 : Int).natAbs < 2 ^ 64 then (.ok (.int ((10 : Int) ^ (18 : Int).toNat)) H : R LV) else .bad) = _)
theorem C_draw {n : Nat} (b : Bag) {a : Nat} (m : Int) (hm : 0 < m) (hs : Sm 9000 m) {H : LH} (ha : H[a]? = some b.o) : gam p.prog (n + 1) 0 40 [.ref a, .int m] [] H = .ok (.int (draw b m).1) (H.set a (draw b m).2.o) := by
  refine gam_one (f := f_law_draw) (o := b.o) (o' := (draw b m).2.o) rfl rfl rfl ha b.ok rfl rfl (Nat.le_of_ble_eq_true rfl) ?_
  have fd : ∀ (i : Int) H, arith .fdiv i m H = .ok (.int (i / m)) H := fun i H => arith_fdiv hm (hs.log (by decide) (by decide))
  have md : ∀ (i : Int) H, arith .mod i m H = .ok (.int (i % m)) H := fun i H => arith_mod hm
  have pc : ∀ (i : Int) (j : Int) (hj : Sm 60 j) H, arith .mul i j H = .ok (.int (i * j)) H := fun i j hj H => arith_mul (mulOk_r (Nat.lt_trans hj (by decide)))
  have m1 : ∀ (i : Int) H, arith .mod i 2147483647 H = .ok (.int (i % 2147483647)) H := fun i H => arith_mod (by decide)
  have m2 : ∀ (i : Int) H, arith .mod i 998244353 H = .ok (.int (i % 998244353)) H := fun i H => arith_mod (by decide)
  have m3 : ∀ (i : Int) H, arith .mod i 2147483563 H = .ok (.int (i % 2147483563)) H := fun i H => arith_mod (by decide)
  have f17 : ∀ (i : Int) H, arith .fdiv i 17 H = .ok (.int (i / 17)) H := fun i H => arith_fdiv (by decide) (by decide)
  have tl : ∃ t : List LO, (t = [] : Prop) := ⟨[], rfl⟩
  unfold draw Bag.o
  by_cases hl : b.left < 2
  · have ss : ∀ H, arith .mul (b.mix) (b.mix) H = .ok (.int (b.mix * b.mix)) H := fun H => arith_mul (mulOk_r (by
      have h1 : 0 ≤ b.mix := Int.emod_nonneg _ (by decide)
      have h2 : b.mix < 2147483647 := Int.emod_lt_of_pos _ (by decide)
      omega))
    by_cases hu : b.used + 1 ≤ b.cells.length
    · have e1 : ((b.used : Int) + 1 ≤ (b.cells.length : Int)) := by omega
      have e1' : ((b.used : Int) + 1 ≤ ((b.cells.map LV.int).length : Int)) := by rw [List.length_map]; omega
      have gc : ∀ H, getIx (.fz (b.cells.map .int)) (.int ((b.used : Int) + 1 - 1)) H = .ok (.int b.cell) H := fun H => getIx_fz (j := b.used) H (by omega) (by
        unfold Bag.cell
        rw [if_pos hu, List.getElem?_map, List.getElem?_eq_getElem (by omega)]
        rfl)
      have n1 : ¬ (b.cells.length : Int) < (b.used : Int) + 1 := by omega
      have n2 : ¬ b.cells.length < b.used + 1 := by omega
      dsimp! [getIx_r0, getIx_r1, getIx_r2, getIx_r3, setIx_r1, setIx_r2, hl, decide_true, pc _ 7919 (by decide), List.length_map, e1, gc, n1, n2, decide_false, arith_pow1018, false_or]
      by_cases hc : b.cell < 1000000000000000000
      · have em : (b.cell * 69621 + ((b.used : Int) + 1) * 40503 + b.mark) % 2147483647 = b.mix := by unfold Bag.mix; simp
        have el : (b.mix * b.mix + ((b.used : Int) + 1) * 30011) % 998244353 = b.late := by unfold Bag.late; simp
        dsimp! [getIx_r0, getIx_r1, getIx_r2, getIx_r3, hc, decide_true, pc _ 69621 (by decide), pc _ 40503 (by decide), pc _ 30011 (by decide), pc _ 31337 (by decide), m1, m2, m3, em, ss, el, f17, md]
        exact ⟨[], by simp, rfl⟩
      · dsimp! [getIx_r0, getIx_r1, getIx_r2, getIx_r3, setIx_r1, setIx_r2, hc, decide_false, md, fd]
        exact ⟨[], by simp, rfl⟩
    · have e1 : ¬ ((b.used : Int) + 1 ≤ (b.cells.length : Int)) := by omega
      have n1 : (b.cells.length : Int) < (b.used : Int) + 1 := by omega
      have n2 : b.cells.length < b.used + 1 := by omega
      have ec : b.mark + ((b.used : Int) + 1) * 7919 = b.cell := by unfold Bag.cell; rw [if_neg hu]; simp
      have em : (b.cell * 69621 + ((b.used : Int) + 1) * 40503 + b.mark) % 2147483647 = b.mix := by unfold Bag.mix; simp
      have el : (b.mix * b.mix + ((b.used : Int) + 1) * 30011) % 998244353 = b.late := by unfold Bag.late; simp
      dsimp! [getIx_r0, getIx_r1, getIx_r2, getIx_r3, setIx_r1, setIx_r2, hl, decide_true, pc _ 7919 (by decide), List.length_map, e1, ec, n1, n2, decide_false, true_or, pc _ 69621 (by decide), pc _ 40503 (by decide), pc _ 30011 (by decide), pc _ 31337 (by decide), m1, m2, m3, em, ss, el, f17, md]
      exact ⟨[], by simp, rfl⟩
  · dsimp! [getIx_r0, getIx_r1, getIx_r2, getIx_r3, setIx_r1, setIx_r2, hl, decide_false, md, fd]
    exact ⟨[], rfl, rfl⟩
/-- the bag of a script -/
theorem C_bag {n : Nat} (ns : List Int) (hn : ns.length ≤ 63) (H : LH) (Q : LV → LH → Prop) (X : LX → LH → Prop) (h : ∀ b : Bag, Q (.ref H.length) (H ++ [b.o])) : W (gam p.prog (n + 1) 0 39 [.scr (ns.map .int)] [] H) Q X := by
  refine W_gam (f := f_law_bag) rfl rfl rfl (Nat.le_of_ble_eq_true rfl) ?_
  have hc : cut (ns.map LV.int) none (some 63) = ns.map LV.int := by
    show ((ns.map LV.int).drop 0).take ((if (63 : Int) < 0 then ((63 : Int) + ((ns.map LV.int).length : Int)).toNat else min (63 : Int).toNat (ns.map LV.int).length) - 0) = _
    rw [if_neg (by decide), List.drop_zero]
    exact List.take_of_length_le (by rw [List.length_map]; have : (63 : Int).toNat = 63 := rfl; omega)
  have hsl : getSl (.scr (ns.map .int)) none (some 63) H = .ok (.fz (ns.map .int)) H := by
    show newF (cut (ns.map LV.int) none (some 63)) H = _
    rw [hc]
    exact newF_ok' (by simp; unfold SL; omega) (noRefs_ints ns)
  dsimp! [hsl]
  refine W_lcm id (ns.map .int) (fun j => nx_l _ _ _) (by simp; show ns.length < 1000000000; omega) (by simp; unfold SL; omega) (fun x hx => ?_) ?_
  · obtain ⟨i, _, rfl⟩ := List.mem_map.mp hx
    fail
  dsimp! [List.map_id, noRefs_ints, List.length_map, arith_mul (mulOk_l (i := 131) (j := (ns.length : Int)) (by decide))]
  refine W_for (fun i σ H' => ∃ (mk : Int) (x : Option LV), 0 ≤ mk ∧ mk < 2147483629 ∧ σ = [some (.scr (ns.map .int)), some (.fz (ns.map .int)), some (.int mk), x] ∧ H' = H) ns.length ?_ ?_ _ 0 _ _ (Nat.zero_le _) (by show ns.length < 1000000000 + 0; omega) ⟨_, _, by omega, by omega, rfl, rfl⟩
  · rintro i σ H' hi ⟨mk, x, h1, h2, rfl, rfl⟩
    refine ⟨.int (ns[i]?.getD 0), ?_, ?_⟩
    · rw [nx_l, List.getElem?_map, List.getElem?_eq_getElem hi]
      rfl
    · dsimp! [arith_mul (mulOk_r (i := mk) (j := 5051) (by decide))]
      rw [arith_mod (by decide)]
      fail
      exact ⟨_, _, Int.emod_nonneg _ (by decide), Int.emod_lt_of_pos _ (by decide), rfl⟩
  · rintro σ H' ⟨mk, x, h1, h2, rfl, rfl⟩
    refine ⟨by rw [nx_l]; simp, ?_⟩
    dsimp! [newL_ok' (xs := [.fz (ns.map .int), .int 0, .int 0, .int mk]) (by simp [SL])]
    exact h ⟨ns, 0, 0, mk, h1, h2⟩
end GL

set_option Elab.async false
set_option linter.all false
set_option autoImplicit false
set_option maxRecDepth 100000
set_option maxHeartbeats 2000000
namespace GL
open PM
local macro_rules | `(tactic| fail) => `(tactic| simp only [cg_is_number, eb_is_number, es_is_number, cg_divisor_of, eb_divisor_of, es_divisor_of, cg_number_in, eb_number_in, es_number_in, cg_law_bag, eb_law_bag, es_law_bag, cg_law_draw, eb_law_draw, es_law_draw, cg_law_of, eb_law_of, es_law_of, cg_law_same, eb_law_same, es_law_same, cg_law_divisor, eb_law_divisor, es_law_divisor, cg_law_frac, eb_law_frac, es_law_frac, cg_law_plus, eb_law_plus, es_law_plus, cg_law_times, eb_law_times, es_law_times, cg_law_minus, eb_law_minus, es_law_minus, cg_law_less, eb_law_less, es_law_less, cg_law_ratio, eb_law_ratio, es_law_ratio, cg_law_pair, eb_law_pair, es_law_pair, cg_law_any_frac, eb_law_any_frac, es_law_any_frac, cg_law, eb_law, es_law, eb_Ratio_initD, es_Ratio_initD, eb_Ratio_top, es_Ratio_top, eb_Ratio_bottom, es_Ratio_bottom, eb_Ratio_side, es_Ratio_side, eb_Ratio_written, es_Ratio_written, eb_Ratio_over, es_Ratio_over, eb_Ratio_addD, es_Ratio_addD, eb_Ratio_subD, es_Ratio_subD, eb_Ratio_mulD, es_Ratio_mulD, eb_Ratio_negD, es_Ratio_negD, eb_Ratio_eqD, es_Ratio_eqD, eb_Ratio_is_less, es_Ratio_is_less, eb_Ratio_boolD, es_Ratio_boolD, eb_Ratio_strD, es_Ratio_strD, eb_Ratio_reprD, es_Ratio_reprD, cg_Ratio, ic_Ratio, sf_Ratio_own_top, fl_Ratio_own_top, sf_Ratio_own_bottom, fl_Ratio_own_bottom, pr_Ratio_top, pr_Ratio_bottom, pr_Ratio_side, rc_Ratio_written, rc_Ratio_over, om_Ratio_add, om_Ratio_sub, om_Ratio_mul, om_Ratio_neg, om_Ratio_eq, rc_Ratio_is_less, om_Ratio_bool, om_Ratio_str, om_Ratio_repr, ty_Ratio_non, ty_Ratio_bl, ty_Ratio_int, ty_Ratio_str, ty_Ratio_tup, ty_Ratio_fz, ty_Ratio_Ratio, ty_Ratio_Tint, ty_Ratio_Tbool, ty_Ratio_Tstr, ty_Ratio_Tlist, ty_Ratio_Ttuple, ty_Ratio_Tdict, tb_Ratio, rq_InvalidRatio, wq_InvalidRatio, cq_FIGURES, con_FIGURES, cq_MOST_FIGURES, con_MOST_FIGURES, ↓WS_seq, ↓WS_ofR, ↓W_bind, ↓W_noX, ↓W_why, W_ok, W_exc, W_bad, WS_ok, WS_exc, WS_bad, seqQ_nx, seqQ_rt, seqQ_bk, seqQ_ct, retQ_nx, retQ_rt, e_int, e_bl, e_non, e_str, e_glo, e_tup, e_lst, e_lstM, e_bin, e_neg, e_not, t_not, e_cmp, e_isN, e_notN, e_and, t_and, e_or, t_or, e_ife, t_ife, e_fld, e_ix, e_slc, e_slcM, e_rev, e_call, e_blt, e_met, e_isi, e_lc, e_lcM, t_var, t_int, t_bl, t_bin, t_cmp, t_isN, t_notN, t_fld, t_ix, t_call, t_blt, t_met, t_isi, t_chain, e_chain, esn_nil, t_nil, ta_nil, to_nil, esn_cons, an_cons, orr_cons, ta_cons, to_cons, es_star, i_itv, i_itr, i_ite, i_itz, i_itb, g_ttp, gs_nil, gs_cons, g_tfl, g_tix, s_skip, s_ex, s_asg, s_ret, s_iff, s_whl, s_for, s_brk, s_cnt, nil_nil, nil_cons, e_var, wr_ok, g_nm, binop_int, arith_add, arith_sub, cmp_int_ne, cmp_int_eq, cmp_int_lt, cmp_int_le, cmp_int_gt, cmp_int_ge, callB_abs, callB_int, callB_intb, callB_max, callB_min, seqOf_tup, getIx_t0, getIx_t1, le_sl1, le_sl2, le_sl3, le_sl4, le_sl5, le_sl6, if_true, List.map_cons, List.map_nil, List.length_cons, List.length_nil, List.replicate, List.cons_append, List.nil_append, List.getElem?_cons_zero, List.getElem?_cons_succ, List.set_cons_zero, List.set_cons_succ, Nat.zero_lt_succ, Nat.succ_lt_succ_iff, Nat.reduceAdd, Nat.reduceSub, Nat.reduceLT, zipK, List.isEmpty_nil, truth_nonX, truth_blX, truth_intX, truth_tupX, truth_fzX, isNone_non, isNone_bl, isNone_int, isNone_str, isNone_tup, isNone_fz, isNone_obj, isiOf_eq, tyAny_nil, tyAny_cons, cmp_obj_eq, eqArg_int, eqArg_non, eqArg_bl, eqArg_str, eqArg_obj, binop_bl, binop_add_obj, binop_sub_obj, binop_mul_obj, binop_bor_obj, neg_int, neg_obj, len_fz, len_tup, list_fz, list_tup, tuple_fz, tuple_tup, bool_int, bool_fz, itv_fz, itv_tup, itv_str, ite_fz, ite_tup, itb_fz, itb_tup, itz_fz, itz_tup, getSl_fz, getSl_tup, getSlM_fz, revOf_fz, partR_nil, partR_int, noRefs_nil, noRefs_cons, noRef_int, noRef_bl, noRef_str, noRef_non, noRef_fz, noRef_obj, noRef_tup, noRef_scr, frO_int, frO_bl, frO_str, frO_non, frO_fz, frO_obj, chainK_t, chainK_f, callM_own, Bool.and_true, Bool.true_and, Bool.and_self, if_false, Bool.false_eq_true, Bool.not_true, Bool.not_false, rcv_ok, fput_nil, fput_cons, reduceIte, Nat.reduceEqDiff, true_and, and_true, wipe, id_eq, cmp_str_eq, cmp_str_ne, cmp_bl_eq, cmp_bl_ne, beq_self_eq_true, s_augn, augop_add, augop_sub, rcv_okl, callM_lst, newF_nil, newF_1, newF_2, newF_3, newF_4, newF_5, newF_6, newF_7, newF_8, seqOf_fz, List.append_nil, rcv_app0, rcv_app1, newL_nil, newL_1, newL_2, newL_3, newL_4, newL_5, newL_6, newL_7, newL_8, Option.map_some, strQ_str, blQ_bl, neQ_bl, str_int, str_str, str_obj, repr_obj, bool_obj, cmp_obj_ne, eqArg_tup, eqArg_fz, strO_eq, fsK_str, e_fst, e_fmt, fs_nil, fs_cons, fmt_int, fmt_str, add_str, s_rse, e_why, e_mxd, in_str, e_con, eq_tup0, ne_tup0, le_sl0, List.isEmpty_cons, rcv_ext0, rcv_join, rcv_oks, callM_str, ty_int_non, ty_int_bl, ty_int_int, ty_int_str, ty_int_tup, ty_int_fz, ty_bool_non, ty_bool_bl, ty_bool_int, ty_bool_str, ty_bool_tup, ty_bool_fz, ty_str_non, ty_str_bl, ty_str_int, ty_str_str, ty_str_tup, ty_str_fz, ty_list_non, ty_list_bl, ty_list_int, ty_list_str, ty_list_tup, ty_list_fz, ty_tuple_non, ty_tuple_bl, ty_tuple_int, ty_tuple_str, ty_tuple_tup, ty_tuple_fz, ty_dict_non, ty_dict_bl, ty_dict_int, ty_dict_str, ty_dict_tup, ty_dict_fz])
local macro_rules | `(tactic| dsimp! [$as,*]) => `(tactic| simp only [cg_is_number, eb_is_number, es_is_number, cg_divisor_of, eb_divisor_of, es_divisor_of, cg_number_in, eb_number_in, es_number_in, cg_law_bag, eb_law_bag, es_law_bag, cg_law_draw, eb_law_draw, es_law_draw, cg_law_of, eb_law_of, es_law_of, cg_law_same, eb_law_same, es_law_same, cg_law_divisor, eb_law_divisor, es_law_divisor, cg_law_frac, eb_law_frac, es_law_frac, cg_law_plus, eb_law_plus, es_law_plus, cg_law_times, eb_law_times, es_law_times, cg_law_minus, eb_law_minus, es_law_minus, cg_law_less, eb_law_less, es_law_less, cg_law_ratio, eb_law_ratio, es_law_ratio, cg_law_pair, eb_law_pair, es_law_pair, cg_law_any_frac, eb_law_any_frac, es_law_any_frac, cg_law, eb_law, es_law, eb_Ratio_initD, es_Ratio_initD, eb_Ratio_top, es_Ratio_top, eb_Ratio_bottom, es_Ratio_bottom, eb_Ratio_side, es_Ratio_side, eb_Ratio_written, es_Ratio_written, eb_Ratio_over, es_Ratio_over, eb_Ratio_addD, es_Ratio_addD, eb_Ratio_subD, es_Ratio_subD, eb_Ratio_mulD, es_Ratio_mulD, eb_Ratio_negD, es_Ratio_negD, eb_Ratio_eqD, es_Ratio_eqD, eb_Ratio_is_less, es_Ratio_is_less, eb_Ratio_boolD, es_Ratio_boolD, eb_Ratio_strD, es_Ratio_strD, eb_Ratio_reprD, es_Ratio_reprD, cg_Ratio, ic_Ratio, sf_Ratio_own_top, fl_Ratio_own_top, sf_Ratio_own_bottom, fl_Ratio_own_bottom, pr_Ratio_top, pr_Ratio_bottom, pr_Ratio_side, rc_Ratio_written, rc_Ratio_over, om_Ratio_add, om_Ratio_sub, om_Ratio_mul, om_Ratio_neg, om_Ratio_eq, rc_Ratio_is_less, om_Ratio_bool, om_Ratio_str, om_Ratio_repr, ty_Ratio_non, ty_Ratio_bl, ty_Ratio_int, ty_Ratio_str, ty_Ratio_tup, ty_Ratio_fz, ty_Ratio_Ratio, ty_Ratio_Tint, ty_Ratio_Tbool, ty_Ratio_Tstr, ty_Ratio_Tlist, ty_Ratio_Ttuple, ty_Ratio_Tdict, tb_Ratio, rq_InvalidRatio, wq_InvalidRatio, cq_FIGURES, con_FIGURES, cq_MOST_FIGURES, con_MOST_FIGURES, ↓WS_seq, ↓WS_ofR, ↓W_bind, ↓W_noX, ↓W_why, W_ok, W_exc, W_bad, WS_ok, WS_exc, WS_bad, seqQ_nx, seqQ_rt, seqQ_bk, seqQ_ct, retQ_nx, retQ_rt, e_int, e_bl, e_non, e_str, e_glo, e_tup, e_lst, e_lstM, e_bin, e_neg, e_not, t_not, e_cmp, e_isN, e_notN, e_and, t_and, e_or, t_or, e_ife, t_ife, e_fld, e_ix, e_slc, e_slcM, e_rev, e_call, e_blt, e_met, e_isi, e_lc, e_lcM, t_var, t_int, t_bl, t_bin, t_cmp, t_isN, t_notN, t_fld, t_ix, t_call, t_blt, t_met, t_isi, t_chain, e_chain, esn_nil, t_nil, ta_nil, to_nil, esn_cons, an_cons, orr_cons, ta_cons, to_cons, es_star, i_itv, i_itr, i_ite, i_itz, i_itb, g_ttp, gs_nil, gs_cons, g_tfl, g_tix, s_skip, s_ex, s_asg, s_ret, s_iff, s_whl, s_for, s_brk, s_cnt, nil_nil, nil_cons, e_var, wr_ok, g_nm, binop_int, arith_add, arith_sub, cmp_int_ne, cmp_int_eq, cmp_int_lt, cmp_int_le, cmp_int_gt, cmp_int_ge, callB_abs, callB_int, callB_intb, callB_max, callB_min, seqOf_tup, getIx_t0, getIx_t1, le_sl1, le_sl2, le_sl3, le_sl4, le_sl5, le_sl6, if_true, List.map_cons, List.map_nil, List.length_cons, List.length_nil, List.replicate, List.cons_append, List.nil_append, List.getElem?_cons_zero, List.getElem?_cons_succ, List.set_cons_zero, List.set_cons_succ, Nat.zero_lt_succ, Nat.succ_lt_succ_iff, Nat.reduceAdd, Nat.reduceSub, Nat.reduceLT, zipK, List.isEmpty_nil, truth_nonX, truth_blX, truth_intX, truth_tupX, truth_fzX, isNone_non, isNone_bl, isNone_int, isNone_str, isNone_tup, isNone_fz, isNone_obj, isiOf_eq, tyAny_nil, tyAny_cons, cmp_obj_eq, eqArg_int, eqArg_non, eqArg_bl, eqArg_str, eqArg_obj, binop_bl, binop_add_obj, binop_sub_obj, binop_mul_obj, binop_bor_obj, neg_int, neg_obj, len_fz, len_tup, list_fz, list_tup, tuple_fz, tuple_tup, bool_int, bool_fz, itv_fz, itv_tup, itv_str, ite_fz, ite_tup, itb_fz, itb_tup, itz_fz, itz_tup, getSl_fz, getSl_tup, getSlM_fz, revOf_fz, partR_nil, partR_int, noRefs_nil, noRefs_cons, noRef_int, noRef_bl, noRef_str, noRef_non, noRef_fz, noRef_obj, noRef_tup, noRef_scr, frO_int, frO_bl, frO_str, frO_non, frO_fz, frO_obj, chainK_t, chainK_f, callM_own, Bool.and_true, Bool.true_and, Bool.and_self, if_false, Bool.false_eq_true, Bool.not_true, Bool.not_false, rcv_ok, fput_nil, fput_cons, reduceIte, Nat.reduceEqDiff, true_and, and_true, wipe, id_eq, cmp_str_eq, cmp_str_ne, cmp_bl_eq, cmp_bl_ne, beq_self_eq_true, s_augn, augop_add, augop_sub, rcv_okl, callM_lst, newF_nil, newF_1, newF_2, newF_3, newF_4, newF_5, newF_6, newF_7, newF_8, seqOf_fz, List.append_nil, rcv_app0, rcv_app1, newL_nil, newL_1, newL_2, newL_3, newL_4, newL_5, newL_6, newL_7, newL_8, Option.map_some, strQ_str, blQ_bl, neQ_bl, str_int, str_str, str_obj, repr_obj, bool_obj, cmp_obj_ne, eqArg_tup, eqArg_fz, strO_eq, fsK_str, e_fst, e_fmt, fs_nil, fs_cons, fmt_int, fmt_str, add_str, s_rse, e_why, e_mxd, in_str, e_con, eq_tup0, ne_tup0, le_sl0, List.isEmpty_cons, rcv_ext0, rcv_join, rcv_oks, callM_str, ty_int_non, ty_int_bl, ty_int_int, ty_int_str, ty_int_tup, ty_int_fz, ty_bool_non, ty_bool_bl, ty_bool_int, ty_bool_str, ty_bool_tup, ty_bool_fz, ty_str_non, ty_str_bl, ty_str_int, ty_str_str, ty_str_tup, ty_str_fz, ty_list_non, ty_list_bl, ty_list_int, ty_list_str, ty_list_tup, ty_list_fz, ty_tuple_non, ty_tuple_bl, ty_tuple_int, ty_tuple_str, ty_tuple_tup, ty_tuple_fz, ty_dict_non, ty_dict_bl, ty_dict_int, ty_dict_str, ty_dict_tup, ty_dict_fz, $as,*])
local macro_rules | `(tactic| bv_omega) => `(tactic| first | assumption | rfl | omega | (simp only [noRefs_cons, noRefs_nil, noRef_tup, noRef_int, noRef_str, noRef_bl, noRef_non, noRef_fz, noRef_obj, noRef_scr, Bool.and_self, Bool.and_true, Bool.true_and]; done) | (refine sm_int ?_; omega) | (refine sm_len' ?_; omega) | decide)
local macro_rules | `(tactic| refine' ($a)) => `(tactic| first | refine W_use (by with_reducible apply $a <;> bv_omega) ?_ | refine W_useX (by with_reducible apply $a <;> bv_omega) ?_ | ((with_reducible apply $a) <;> first | refine K.mk ?_ | bv_omega))
/-- what is the same is told so -/
theorem C_same : ∀ (n : Nat) (v : LV), dat v = true → ddp v < n → ∀ H, gam p.prog n 0 42 [v, v] [] H = .ok (.bl true) H
  | 0, _, _, h, _ => by omega
  | n + 1, v, hd, hn, H => by
    have ih := C_same n
    refine gam_fz (f := f_law_same) rfl rfl (by rw [noRefs_cons, noRefs_cons, dats_noRefs hd]; rfl) rfl (Nat.le_of_ble_eq_true rfl) ?_
    have lst : ∀ xs : List LV, xs.length ≤ SL → dats xs = true → ddps xs < n → ∀ x ∈ (xs.zip xs).map (fun p => LV.tup [p.1, p.2]), ∃ y, x = .tup [y, y] ∧ ∀ H, gam p.prog n 0 42 [y, y] [] H = .ok (.bl true) H := fun xs h1 h2 h3 x hx => by
      obtain ⟨q, hq, rfl⟩ := List.mem_map.mp hx
      obtain ⟨i, hi, e⟩ := List.getElem_of_mem hq
      rw [List.getElem_zip] at e
      subst e
      have hm : xs[i]'(by simp at hi; exact hi) ∈ xs := List.getElem_mem _
      obtain ⟨a, b⟩ := dats_mem h2 hm
      exact ⟨_, rfl, fun H => ih _ a (by omega) H⟩
    have bl : ∀ xs : List LV, (((xs.zip xs).map (fun p => LV.tup [p.1, p.2])).map fun _ => LV.bl true) = (xs.map fun _ => true).map .bl := fun xs => by
      induction xs with
      | nil => rfl
      | cons x xs ih => simp [ih]
    have al : ∀ xs : List LV, (xs.map fun _ => true).all id = true := fun xs => by simp
    cases v with
    | non => fail
    | bl b => dsimp! [decide_true]
    | int i => dsimp! [decide_true]
    | str s => dsimp! [decide_true]
    | tup xs =>
      unfold dat at hd
      rw [Bool.and_eq_true, decide_eq_true_iff] at hd
      unfold ddp at hn
      dsimp! [decide_true, beq_self_eq_true]
      refine W_lcm (fun _ => .bl true) _ (fun j => nx_zt xs xs j _) (by simp; have := hd.1; unfold SL at this; show xs.length < 1000000000; omega) (by simp; exact hd.1) (fun x hx => ?_) ?_
      · obtain ⟨y, rfl, hy⟩ := lst xs hd.1 hd.2 (by omega) x hx
        dsimp! [hy]
      · rw [bl, if_pos (noRefs_map _ _ fun _ _ => rfl)]
        dsimp! [all_fz, al]
    | fz xs =>
      unfold dat at hd
      rw [Bool.and_eq_true, decide_eq_true_iff] at hd
      unfold ddp at hn
      dsimp! [decide_true, beq_self_eq_true]
      refine W_lcm (fun _ => .bl true) _ (fun j => nx_z' xs xs j _) (by simp; have := hd.1; unfold SL at this; show xs.length < 1000000000; omega) (by simp; exact hd.1) (fun x hx => ?_) ?_
      · obtain ⟨y, rfl, hy⟩ := lst xs hd.1 hd.2 (by omega) x hx
        dsimp! [hy]
      · rw [bl, if_pos (noRefs_map _ _ fun _ _ => rfl)]
        dsimp! [all_fz, al]
    | _ => unfold dat at hd; cases hd
end GL

set_option Elab.async false
set_option linter.all false
set_option autoImplicit false
set_option maxRecDepth 100000
set_option maxHeartbeats 2000000
namespace GL
open PM
local macro_rules | `(tactic| fail) => `(tactic| simp only [cg_is_number, eb_is_number, es_is_number, cg_divisor_of, eb_divisor_of, es_divisor_of, cg_number_in, eb_number_in, es_number_in, cg_law_bag, eb_law_bag, es_law_bag, cg_law_draw, eb_law_draw, es_law_draw, cg_law_of, eb_law_of, es_law_of, cg_law_same, eb_law_same, es_law_same, cg_law_divisor, eb_law_divisor, es_law_divisor, cg_law_frac, eb_law_frac, es_law_frac, cg_law_plus, eb_law_plus, es_law_plus, cg_law_times, eb_law_times, es_law_times, cg_law_minus, eb_law_minus, es_law_minus, cg_law_less, eb_law_less, es_law_less, cg_law_ratio, eb_law_ratio, es_law_ratio, cg_law_pair, eb_law_pair, es_law_pair, cg_law_any_frac, eb_law_any_frac, es_law_any_frac, cg_law, eb_law, es_law, eb_Ratio_initD, es_Ratio_initD, eb_Ratio_top, es_Ratio_top, eb_Ratio_bottom, es_Ratio_bottom, eb_Ratio_side, es_Ratio_side, eb_Ratio_written, es_Ratio_written, eb_Ratio_over, es_Ratio_over, eb_Ratio_addD, es_Ratio_addD, eb_Ratio_subD, es_Ratio_subD, eb_Ratio_mulD, es_Ratio_mulD, eb_Ratio_negD, es_Ratio_negD, eb_Ratio_eqD, es_Ratio_eqD, eb_Ratio_is_less, es_Ratio_is_less, eb_Ratio_boolD, es_Ratio_boolD, eb_Ratio_strD, es_Ratio_strD, eb_Ratio_reprD, es_Ratio_reprD, cg_Ratio, ic_Ratio, sf_Ratio_own_top, fl_Ratio_own_top, sf_Ratio_own_bottom, fl_Ratio_own_bottom, pr_Ratio_top, pr_Ratio_bottom, pr_Ratio_side, rc_Ratio_written, rc_Ratio_over, om_Ratio_add, om_Ratio_sub, om_Ratio_mul, om_Ratio_neg, om_Ratio_eq, rc_Ratio_is_less, om_Ratio_bool, om_Ratio_str, om_Ratio_repr, ty_Ratio_non, ty_Ratio_bl, ty_Ratio_int, ty_Ratio_str, ty_Ratio_tup, ty_Ratio_fz, ty_Ratio_Ratio, ty_Ratio_Tint, ty_Ratio_Tbool, ty_Ratio_Tstr, ty_Ratio_Tlist, ty_Ratio_Ttuple, ty_Ratio_Tdict, tb_Ratio, rq_InvalidRatio, wq_InvalidRatio, cq_FIGURES, con_FIGURES, cq_MOST_FIGURES, con_MOST_FIGURES, ↓WS_seq, ↓WS_ofR, ↓W_bind, ↓W_noX, ↓W_why, W_ok, W_exc, W_bad, WS_ok, WS_exc, WS_bad, seqQ_nx, seqQ_rt, seqQ_bk, seqQ_ct, retQ_nx, retQ_rt, e_int, e_bl, e_non, e_str, e_glo, e_tup, e_lst, e_lstM, e_bin, e_neg, e_not, t_not, e_cmp, e_isN, e_notN, e_and, t_and, e_or, t_or, e_ife, t_ife, e_fld, e_ix, e_slc, e_slcM, e_rev, e_call, e_blt, e_met, e_isi, e_lc, e_lcM, t_var, t_int, t_bl, t_bin, t_cmp, t_isN, t_notN, t_fld, t_ix, t_call, t_blt, t_met, t_isi, t_chain, e_chain, esn_nil, t_nil, ta_nil, to_nil, esn_cons, an_cons, orr_cons, ta_cons, to_cons, es_star, i_itv, i_itr, i_ite, i_itz, i_itb, g_ttp, gs_nil, gs_cons, g_tfl, g_tix, s_skip, s_ex, s_asg, s_ret, s_iff, s_whl, s_for, s_brk, s_cnt, nil_nil, nil_cons, e_var, wr_ok, g_nm, binop_int, arith_add, arith_sub, cmp_int_ne, cmp_int_eq, cmp_int_lt, cmp_int_le, cmp_int_gt, cmp_int_ge, callB_abs, callB_int, callB_intb, callB_max, callB_min, seqOf_tup, getIx_t0, getIx_t1, le_sl1, le_sl2, le_sl3, le_sl4, le_sl5, le_sl6, if_true, List.map_cons, List.map_nil, List.length_cons, List.length_nil, List.replicate, List.cons_append, List.nil_append, List.getElem?_cons_zero, List.getElem?_cons_succ, List.set_cons_zero, List.set_cons_succ, Nat.zero_lt_succ, Nat.succ_lt_succ_iff, Nat.reduceAdd, Nat.reduceSub, Nat.reduceLT, zipK, List.isEmpty_nil, truth_nonX, truth_blX, truth_intX, truth_tupX, truth_fzX, isNone_non, isNone_bl, isNone_int, isNone_str, isNone_tup, isNone_fz, isNone_obj, isiOf_eq, tyAny_nil, tyAny_cons, cmp_obj_eq, eqArg_int, eqArg_non, eqArg_bl, eqArg_str, eqArg_obj, binop_bl, binop_add_obj, binop_sub_obj, binop_mul_obj, binop_bor_obj, neg_int, neg_obj, len_fz, len_tup, list_fz, list_tup, tuple_fz, tuple_tup, bool_int, bool_fz, itv_fz, itv_tup, itv_str, ite_fz, ite_tup, itb_fz, itb_tup, itz_fz, itz_tup, getSl_fz, getSl_tup, getSlM_fz, revOf_fz, partR_nil, partR_int, noRefs_nil, noRefs_cons, noRef_int, noRef_bl, noRef_str, noRef_non, noRef_fz, noRef_obj, noRef_tup, noRef_scr, frO_int, frO_bl, frO_str, frO_non, frO_fz, frO_obj, chainK_t, chainK_f, callM_own, Bool.and_true, Bool.true_and, Bool.and_self, if_false, Bool.false_eq_true, Bool.not_true, Bool.not_false, rcv_ok, fput_nil, fput_cons, reduceIte, Nat.reduceEqDiff, true_and, and_true, wipe, id_eq, cmp_str_eq, cmp_str_ne, cmp_bl_eq, cmp_bl_ne, beq_self_eq_true, s_augn, augop_add, augop_sub, rcv_okl, callM_lst, newF_nil, newF_1, newF_2, newF_3, newF_4, newF_5, newF_6, newF_7, newF_8, seqOf_fz, List.append_nil, rcv_app0, rcv_app1, newL_nil, newL_1, newL_2, newL_3, newL_4, newL_5, newL_6, newL_7, newL_8, Option.map_some, strQ_str, blQ_bl, neQ_bl, str_int, str_str, str_obj, repr_obj, bool_obj, cmp_obj_ne, eqArg_tup, eqArg_fz, strO_eq, fsK_str, e_fst, e_fmt, fs_nil, fs_cons, fmt_int, fmt_str, add_str, s_rse, e_why, e_mxd, in_str, e_con, eq_tup0, ne_tup0, le_sl0, List.isEmpty_cons, rcv_ext0, rcv_join, rcv_oks, callM_str, ty_int_non, ty_int_bl, ty_int_int, ty_int_str, ty_int_tup, ty_int_fz, ty_bool_non, ty_bool_bl, ty_bool_int, ty_bool_str, ty_bool_tup, ty_bool_fz, ty_str_non, ty_str_bl, ty_str_int, ty_str_str, ty_str_tup, ty_str_fz, ty_list_non, ty_list_bl, ty_list_int, ty_list_str, ty_list_tup, ty_list_fz, ty_tuple_non, ty_tuple_bl, ty_tuple_int, ty_tuple_str, ty_tuple_tup, ty_tuple_fz, ty_dict_non, ty_dict_bl, ty_dict_int, ty_dict_str, ty_dict_tup, ty_dict_fz])
local macro_rules | `(tactic| dsimp! [$as,*]) => `(tactic| simp only [cg_is_number, eb_is_number, es_is_number, cg_divisor_of, eb_divisor_of, es_divisor_of, cg_number_in, eb_number_in, es_number_in, cg_law_bag, eb_law_bag, es_law_bag, cg_law_draw, eb_law_draw, es_law_draw, cg_law_of, eb_law_of, es_law_of, cg_law_same, eb_law_same, es_law_same, cg_law_divisor, eb_law_divisor, es_law_divisor, cg_law_frac, eb_law_frac, es_law_frac, cg_law_plus, eb_law_plus, es_law_plus, cg_law_times, eb_law_times, es_law_times, cg_law_minus, eb_law_minus, es_law_minus, cg_law_less, eb_law_less, es_law_less, cg_law_ratio, eb_law_ratio, es_law_ratio, cg_law_pair, eb_law_pair, es_law_pair, cg_law_any_frac, eb_law_any_frac, es_law_any_frac, cg_law, eb_law, es_law, eb_Ratio_initD, es_Ratio_initD, eb_Ratio_top, es_Ratio_top, eb_Ratio_bottom, es_Ratio_bottom, eb_Ratio_side, es_Ratio_side, eb_Ratio_written, es_Ratio_written, eb_Ratio_over, es_Ratio_over, eb_Ratio_addD, es_Ratio_addD, eb_Ratio_subD, es_Ratio_subD, eb_Ratio_mulD, es_Ratio_mulD, eb_Ratio_negD, es_Ratio_negD, eb_Ratio_eqD, es_Ratio_eqD, eb_Ratio_is_less, es_Ratio_is_less, eb_Ratio_boolD, es_Ratio_boolD, eb_Ratio_strD, es_Ratio_strD, eb_Ratio_reprD, es_Ratio_reprD, cg_Ratio, ic_Ratio, sf_Ratio_own_top, fl_Ratio_own_top, sf_Ratio_own_bottom, fl_Ratio_own_bottom, pr_Ratio_top, pr_Ratio_bottom, pr_Ratio_side, rc_Ratio_written, rc_Ratio_over, om_Ratio_add, om_Ratio_sub, om_Ratio_mul, om_Ratio_neg, om_Ratio_eq, rc_Ratio_is_less, om_Ratio_bool, om_Ratio_str, om_Ratio_repr, ty_Ratio_non, ty_Ratio_bl, ty_Ratio_int, ty_Ratio_str, ty_Ratio_tup, ty_Ratio_fz, ty_Ratio_Ratio, ty_Ratio_Tint, ty_Ratio_Tbool, ty_Ratio_Tstr, ty_Ratio_Tlist, ty_Ratio_Ttuple, ty_Ratio_Tdict, tb_Ratio, rq_InvalidRatio, wq_InvalidRatio, cq_FIGURES, con_FIGURES, cq_MOST_FIGURES, con_MOST_FIGURES, ↓WS_seq, ↓WS_ofR, ↓W_bind, ↓W_noX, ↓W_why, W_ok, W_exc, W_bad, WS_ok, WS_exc, WS_bad, seqQ_nx, seqQ_rt, seqQ_bk, seqQ_ct, retQ_nx, retQ_rt, e_int, e_bl, e_non, e_str, e_glo, e_tup, e_lst, e_lstM, e_bin, e_neg, e_not, t_not, e_cmp, e_isN, e_notN, e_and, t_and, e_or, t_or, e_ife, t_ife, e_fld, e_ix, e_slc, e_slcM, e_rev, e_call, e_blt, e_met, e_isi, e_lc, e_lcM, t_var, t_int, t_bl, t_bin, t_cmp, t_isN, t_notN, t_fld, t_ix, t_call, t_blt, t_met, t_isi, t_chain, e_chain, esn_nil, t_nil, ta_nil, to_nil, esn_cons, an_cons, orr_cons, ta_cons, to_cons, es_star, i_itv, i_itr, i_ite, i_itz, i_itb, g_ttp, gs_nil, gs_cons, g_tfl, g_tix, s_skip, s_ex, s_asg, s_ret, s_iff, s_whl, s_for, s_brk, s_cnt, nil_nil, nil_cons, e_var, wr_ok, g_nm, binop_int, arith_add, arith_sub, cmp_int_ne, cmp_int_eq, cmp_int_lt, cmp_int_le, cmp_int_gt, cmp_int_ge, callB_abs, callB_int, callB_intb, callB_max, callB_min, seqOf_tup, getIx_t0, getIx_t1, le_sl1, le_sl2, le_sl3, le_sl4, le_sl5, le_sl6, if_true, List.map_cons, List.map_nil, List.length_cons, List.length_nil, List.replicate, List.cons_append, List.nil_append, List.getElem?_cons_zero, List.getElem?_cons_succ, List.set_cons_zero, List.set_cons_succ, Nat.zero_lt_succ, Nat.succ_lt_succ_iff, Nat.reduceAdd, Nat.reduceSub, Nat.reduceLT, zipK, List.isEmpty_nil, truth_nonX, truth_blX, truth_intX, truth_tupX, truth_fzX, isNone_non, isNone_bl, isNone_int, isNone_str, isNone_tup, isNone_fz, isNone_obj, isiOf_eq, tyAny_nil, tyAny_cons, cmp_obj_eq, eqArg_int, eqArg_non, eqArg_bl, eqArg_str, eqArg_obj, binop_bl, binop_add_obj, binop_sub_obj, binop_mul_obj, binop_bor_obj, neg_int, neg_obj, len_fz, len_tup, list_fz, list_tup, tuple_fz, tuple_tup, bool_int, bool_fz, itv_fz, itv_tup, itv_str, ite_fz, ite_tup, itb_fz, itb_tup, itz_fz, itz_tup, getSl_fz, getSl_tup, getSlM_fz, revOf_fz, partR_nil, partR_int, noRefs_nil, noRefs_cons, noRef_int, noRef_bl, noRef_str, noRef_non, noRef_fz, noRef_obj, noRef_tup, noRef_scr, frO_int, frO_bl, frO_str, frO_non, frO_fz, frO_obj, chainK_t, chainK_f, callM_own, Bool.and_true, Bool.true_and, Bool.and_self, if_false, Bool.false_eq_true, Bool.not_true, Bool.not_false, rcv_ok, fput_nil, fput_cons, reduceIte, Nat.reduceEqDiff, true_and, and_true, wipe, id_eq, cmp_str_eq, cmp_str_ne, cmp_bl_eq, cmp_bl_ne, beq_self_eq_true, s_augn, augop_add, augop_sub, rcv_okl, callM_lst, newF_nil, newF_1, newF_2, newF_3, newF_4, newF_5, newF_6, newF_7, newF_8, seqOf_fz, List.append_nil, rcv_app0, rcv_app1, newL_nil, newL_1, newL_2, newL_3, newL_4, newL_5, newL_6, newL_7, newL_8, Option.map_some, strQ_str, blQ_bl, neQ_bl, str_int, str_str, str_obj, repr_obj, bool_obj, cmp_obj_ne, eqArg_tup, eqArg_fz, strO_eq, fsK_str, e_fst, e_fmt, fs_nil, fs_cons, fmt_int, fmt_str, add_str, s_rse, e_why, e_mxd, in_str, e_con, eq_tup0, ne_tup0, le_sl0, List.isEmpty_cons, rcv_ext0, rcv_join, rcv_oks, callM_str, ty_int_non, ty_int_bl, ty_int_int, ty_int_str, ty_int_tup, ty_int_fz, ty_bool_non, ty_bool_bl, ty_bool_int, ty_bool_str, ty_bool_tup, ty_bool_fz, ty_str_non, ty_str_bl, ty_str_int, ty_str_str, ty_str_tup, ty_str_fz, ty_list_non, ty_list_bl, ty_list_int, ty_list_str, ty_list_tup, ty_list_fz, ty_tuple_non, ty_tuple_bl, ty_tuple_int, ty_tuple_str, ty_tuple_tup, ty_tuple_fz, ty_dict_non, ty_dict_bl, ty_dict_int, ty_dict_str, ty_dict_tup, ty_dict_fz, $as,*])
local macro_rules | `(tactic| bv_omega) => `(tactic| first | assumption | rfl | omega | (simp only [noRefs_cons, noRefs_nil, noRef_tup, noRef_int, noRef_str, noRef_bl, noRef_non, noRef_fz, noRef_obj, noRef_scr, Bool.and_self, Bool.and_true, Bool.true_and]; done) | (refine sm_int ?_; omega) | (refine sm_len' ?_; omega) | decide)
local macro_rules | `(tactic| refine' ($a)) => `(tactic| first | refine W_use (by with_reducible apply $a <;> bv_omega) ?_ | refine W_useX (by with_reducible apply $a <;> bv_omega) ?_ | ((with_reducible apply $a) <;> first | refine K.mk ?_ | bv_omega))
theorem dvd_of_cop {k m n : Int} (g : Int.gcd k m = 1) (h : k ∣ m * n) : k ∣ n := by
  rw [← Int.natAbs_dvd_natAbs] at h ⊢
  rw [Int.natAbs_mul] at h
  exact Nat.Coprime.dvd_of_dvd_mul_left (show Nat.Coprime k.natAbs m.natAbs from g) h
theorem low_uniq {p q p' q' : Int} (hq : 0 < q) (hq' : 0 < q') (g : Int.gcd p q = 1) (g' : Int.gcd p' q' = 1) (h : p * q' = p' * q) : p = p' ∧ q = q' := by
  have d1 : q ∣ q' := by
    have : q ∣ p * q' := ⟨p', by rw [h, Int.mul_comm]⟩
    exact dvd_of_cop (by rw [Int.gcd_comm]; exact g) this
  have d2 : q' ∣ q := by
    have : q' ∣ p' * q := ⟨p, by rw [← h, Int.mul_comm]⟩
    exact dvd_of_cop (by rw [Int.gcd_comm]; exact g') this
  have e : q = q' := Int.le_antisymm (Int.le_of_dvd hq' d1) (Int.le_of_dvd hq d2)
  subst e
  exact ⟨Int.eq_of_mul_eq_mul_right (by omega) h, rfl⟩
theorem nrm_ext {t b t' b' : Int} (h0 : b ≠ 0) (h1 : b' ≠ 0) (h : t * b' = t' * b) : nrm t b = nrm t' b' := by
  have c1 := nrm_cross t b h0
  have c2 := nrm_cross t' b' h1
  obtain ⟨e1, e2⟩ := low_uniq (nrm_pos (t := t) h0) (nrm_pos (t := t') h1) (nrm_gcd t b h0) (nrm_gcd t' b' h1) (by
    have z : b * b' ≠ 0 := Int.mul_ne_zero h0 h1
    refine Int.eq_of_mul_eq_mul_right z ?_
    calc (nrm t b).1 * (nrm t' b').2 * (b * b') = ((nrm t b).1 * b) * ((nrm t' b').2 * b') := by ac_rfl
      _ = (t * (nrm t b).2) * ((nrm t' b').2 * b') := by rw [c1]
      _ = (t * b') * ((nrm t b).2 * (nrm t' b').2) := by ac_rfl
      _ = (t' * b) * ((nrm t b).2 * (nrm t' b').2) := by rw [h]
      _ = (t' * (nrm t' b').2) * ((nrm t b).2 * b) := by ac_rfl
      _ = ((nrm t' b').1 * b') * ((nrm t b).2 * b) := by rw [c2]
      _ = (nrm t' b').1 * (nrm t b).2 * (b * b') := by ac_rfl)
  exact Prod.ext e1 e2
theorem C_pair {n : Nat} (t b : Int) (H : LH) : gam p.prog (n + 2) 0 50 [rat t b] [] H = .ok (.tup [.int t, .int b]) H := by
  refine gam_fz (f := f_law_pair) rfl rfl rfl rfl (Nat.le_of_ble_eq_true rfl) ?_
  dsimp! [C_top, C_bottom]
  rfl
theorem C_ratio {n : Nat} (t b : Int) (hb : 0 < b) (g : Int.gcd t b = 1) (ht : Sm 1000000 t) (hs' : Sm 8000 b) (H : LH) : gam p.prog (n + 3) 0 49 [.tup [.int t, .int b]] [] H = .ok (rat t b) H := by
  refine gam_fz (f := f_law_ratio) rfl rfl rfl rfl (Nat.le_of_ble_eq_true rfl) ?_
  dsimp! [mk_Ratio2 t b (by omega) ht hs', nrm_id hb g]
theorem C_anyfrac {n : Nat} (bg : Bag) {a : Nat} (m : Int) (hm : 0 < m) (hs' : Sm 60 m) {H : LH} (ha : H[a]? = some bg.o) : ∃ (bg' : Bag) (x y : Int), -m ≤ x ∧ x ≤ m ∧ 0 < y ∧ y ≤ m ∧ gam p.prog (n + 3) 0 51 [.ref a, .int m] [] H = .ok (.tup [.int (nrm x y).1, .int (nrm x y).2]) (H.set a bg'.o) := by
  have m2 : Sm 9000 (2 * m + 1) := (((show Sm 2 2 by decide).mul hs').add (show Sm 1 1 by decide)).le (by decide)
  have l1 := draw_lo bg (m := 2 * m + 1) (by omega)
  have h1 := draw_hi bg (m := 2 * m + 1) (by omega)
  have l2 := draw_lo (draw bg (2 * m + 1)).2 hm
  have h2 := draw_hi (draw bg (2 * m + 1)).2 hm
  refine ⟨(draw (draw bg (2 * m + 1)).2 m).2, (draw bg (2 * m + 1)).1 - m, 1 + (draw (draw bg (2 * m + 1)).2 m).1, by omega, by omega, by omega, by omega, ?_⟩
  refine gam_one (f := f_law_any_frac) (o := bg.o) (o' := (draw (draw bg (2 * m + 1)).2 m).2.o) rfl rfl rfl ha bg.ok rfl rfl (Nat.le_of_ble_eq_true rfl) ?_
  have sx : Sm 1000000 ((draw bg (2 * m + 1)).1 - m) := Sm.le (k := 62) (by unfold Sm at hs' ⊢; omega) (by decide)
  have sy : Sm 9000 (1 + (draw (draw bg (2 * m + 1)).2 m).1) := Sm.le (k := 62) (by unfold Sm at hs' ⊢; omega) (by decide)
  dsimp! [arith_mul (mulOk_l (i := 2) (j := m) (by decide)), C_draw bg (2 * m + 1) (by omega) m2 (H := [bg.o]) (a := 0) rfl, C_draw (draw bg (2 * m + 1)).2 m hm (hs'.le (by decide)) (H := [(draw bg (2 * m + 1)).2.o]) (a := 0) rfl, C_frac ((draw bg (2 * m + 1)).1 - m) (1 + (draw (draw bg (2 * m + 1)).2 m).1) (by omega) sx sy]
  exact ⟨rfl, [], rfl, rfl⟩
/-- one of a row -/
theorem C_of {n : Nat} (b : Bag) {a : Nat} (ns : List Int) (h0 : 0 < ns.length) (hs : ns.length ≤ 100) {H : LH} (ha : H[a]? = some b.o) : gam p.prog (n + 2) 0 41 [.ref a, .fz (ns.map .int)] [] H = .ok (.int (ns[(draw b ns.length).1.toNat]?.getD 0)) (H.set a (draw b ns.length).2.o) := by
  have l := draw_lo b (m := ns.length) (by omega)
  have h := draw_hi b (m := ns.length) (by omega)
  have sm : Sm 9000 (ns.length : Int) := Sm.le (k := 10) (by unfold Sm; omega) (by decide)
  refine gam_one (f := f_law_of) rfl rfl rfl ha (Bag.ok b) rfl rfl (Nat.le_of_ble_eq_true rfl) ?_
  dsimp! [C_draw b ns.length (by omega) sm (H := [b.o]) (a := 0) rfl, List.length_map]
  rw [getIx_fz (j := (draw b ns.length).1.toNat) (v := .int (ns[(draw b ns.length).1.toNat]?.getD 0)) _ (by omega) (by rw [List.getElem?_map, List.getElem?_eq_getElem (by omega)]; rfl)]
  fail
  exact ⟨[], rfl, Bag.ok _⟩
theorem row_in {l : List Int} {lo hi : Int} (h : l.all (fun x => decide (lo ≤ x) && decide (x ≤ hi)) = true) {i : Nat} (hl : i < l.length) : lo ≤ l[i]?.getD 0 ∧ l[i]?.getD 0 ≤ hi := by
  rw [List.getElem?_eq_getElem hl, Option.getD_some]
  have := List.all_eq_true.mp h _ (List.getElem_mem hl)
  simpa using this
theorem cmp_t2_ne {G : Gam} (a b c d : Int) (H : LH) : cmpV p.prog G .ne (.tup [.int a, .int b]) (.tup [.int c, .int d]) H = .ok (.bl (!(decide (a = c) && decide (b = d)))) H := by
  show (match eqv H (.tup [.int a, .int b]) (.tup [.int c, .int d]) with
    | some b => .ok (.bl (!b)) H
    | none => .bad : R LV) = _
  have e : eqv H (.tup [.int a, .int b]) (.tup [.int c, .int d]) = some (decide (a = c) && decide (b = d)) := by
    show some (DT.eqv (.tup [.int a, .int b]) (.tup [.int c, .int d])) = _
    simp only [DT.eqv, DT.eqvs, Bool.and_true]
    rfl
  rw [e]
/-! ### the program's operations -/
theorem C_add {n k l : Nat} (a b c d : Int) (ha : Sm k a) (hb : Sm l b) (hc : Sm k c) (hd : Sm l d) (hk : k ≤ 7000) (hl : l ≤ 3500) (h1 : b ≠ 0) (h2 : d ≠ 0) (H : LH) : gam p.prog (n + 3) 28 16 [rat a b, rat c d] [] H = .ok (rat (nrm (a * d + c * b) (b * d)).1 (nrm (a * d + c * b) (b * d)).2) H := by
  refine gam_fz (f := f_Ratio_addD) rfl rfl rfl rfl (Nat.le_of_ble_eq_true rfl) ?_
  dsimp! [C_top, C_bottom, arith_mul (ha.mulOk hd (by omega)), arith_mul (hc.mulOk hb (by omega)), arith_mul (hb.mulOk hd (by omega)), mk_Ratio2 (a * d + c * b) (b * d) (Int.mul_ne_zero h1 h2) (((ha.mul hd).add (hc.mul hb)).le (by omega)) ((hb.mul hd).le (by omega))]
theorem C_sub {n k l : Nat} (a b c d : Int) (ha : Sm k a) (hb : Sm l b) (hc : Sm k c) (hd : Sm l d) (hk : k ≤ 7000) (hl : l ≤ 3500) (h1 : b ≠ 0) (h2 : d ≠ 0) (H : LH) : gam p.prog (n + 3) 28 17 [rat a b, rat c d] [] H = .ok (rat (nrm (a * d - c * b) (b * d)).1 (nrm (a * d - c * b) (b * d)).2) H := by
  refine gam_fz (f := f_Ratio_subD) rfl rfl rfl rfl (Nat.le_of_ble_eq_true rfl) ?_
  dsimp! [C_top, C_bottom, arith_mul (ha.mulOk hd (by omega)), arith_mul (hc.mulOk hb (by omega)), arith_mul (hb.mulOk hd (by omega)), mk_Ratio2 (a * d - c * b) (b * d) (Int.mul_ne_zero h1 h2) (((ha.mul hd).sub (hc.mul hb)).le (by omega)) ((hb.mul hd).le (by omega))]
theorem C_mul {n k l : Nat} (a b c d : Int) (ha : Sm k a) (hb : Sm l b) (hc : Sm k c) (hd : Sm l d) (hk : k ≤ 7000) (hl : l ≤ 3500) (h1 : b ≠ 0) (h2 : d ≠ 0) (H : LH) : gam p.prog (n + 3) 28 18 [rat a b, rat c d] [] H = .ok (rat (nrm (a * c) (b * d)).1 (nrm (a * c) (b * d)).2) H := by
  refine gam_fz (f := f_Ratio_mulD) rfl rfl rfl rfl (Nat.le_of_ble_eq_true rfl) ?_
  dsimp! [C_top, C_bottom, arith_mul (ha.mulOk hc (by omega)), arith_mul (hb.mulOk hd (by omega)), mk_Ratio2 (a * c) (b * d) (Int.mul_ne_zero h1 h2) ((ha.mul hc).le (by omega)) ((hb.mul hd).le (by omega))]
theorem C_neg {n k : Nat} (a b : Int) (ha : Sm k a) (hb : Sm k b) (hk : k ≤ 8000) (h1 : b ≠ 0) (H : LH) : gam p.prog (n + 3) 28 19 [rat a b] [] H = .ok (rat (nrm (-a) b).1 (nrm (-a) b).2) H := by
  refine gam_fz (f := f_Ratio_negD) rfl rfl rfl rfl (Nat.le_of_ble_eq_true rfl) ?_
  dsimp! [mk_Ratio2 (-a) b h1 (ha.neg.le (by omega)) (hb.le (by omega))]
theorem C_over {n k l : Nat} (a b c d : Int) (ha : Sm k a) (hb : Sm l b) (hc : Sm k c) (hd : Sm l d) (hk : k ≤ 3500) (hl : l ≤ 3500) (h1 : b ≠ 0) (h2 : c ≠ 0) (H : LH) : gam p.prog (n + 3) 28 60 [rat a b, rat c d] [] H = .ok (rat (nrm (a * d) (b * c)).1 (nrm (a * d) (b * c)).2) H := by
  refine gam_fz (f := f_Ratio_over) rfl rfl rfl rfl (Nat.le_of_ble_eq_true rfl) ?_
  dsimp! [C_top, C_bottom, h2, decide_false, arith_mul (ha.mulOk hd (by omega)), arith_mul (hb.mulOk hc (by omega)), mk_Ratio2 (a * d) (b * c) (Int.mul_ne_zero h1 h2) ((ha.mul hd).le (by omega)) ((hb.mul hc).le (by omega))]
abbrev cIR : List Nat := [73, 110, 118, 97, 108, 105, 100, 82, 97, 116, 105, 111]
theorem C_overX {n : Nat} (a b d : Int) (H : LH) : gam p.prog (n + 3) 28 60 [rat a b, rat 0 d] [] H = .exc ⟨31, [(35, rat 0 d), (5, .str cIR)]⟩ H := by
  refine gam_fzX (f := f_Ratio_over) rfl rfl rfl rfl (Nat.le_of_ble_eq_true rfl) ?_
  dsimp! [C_top, decide_true]
  rfl
theorem C_less {n k l : Nat} (a b c d : Int) (ha : Sm k a) (hb : Sm l b) (hc : Sm k c) (hd : Sm l d) (hk : k ≤ 8000) (hl : l ≤ 8000) (H : LH) : gam p.prog (n + 2) 28 61 [rat a b, rat c d] [] H = .ok (.bl (decide (a * d < c * b))) H := by
  refine gam_fz (f := f_Ratio_is_less) rfl rfl rfl rfl (Nat.le_of_ble_eq_true rfl) ?_
  dsimp! [C_top, C_bottom, arith_mul (ha.mulOk hd (by omega)), arith_mul (hc.mulOk hb (by omega))]
/-! ### the law's -/
theorem C_lless {n k l : Nat} (a b c d : Int) (ha : Sm k a) (hb : Sm l b) (hc : Sm k c) (hd : Sm l d) (hk : k ≤ 8000) (hl : l ≤ 8000) (H : LH) : gam p.prog (n + 1) 0 48 [.tup [.int a, .int b], .tup [.int c, .int d]] [] H = .ok (.bl (decide (a * d < c * b))) H := by
  refine gam_fz (f := f_law_less) rfl rfl rfl rfl (Nat.le_of_ble_eq_true rfl) ?_
  dsimp! [arith_mul (ha.mulOk hd (by omega)), arith_mul (hc.mulOk hb (by omega))]
theorem C_minus {n k l : Nat} (a b c d : Int) (ha : Sm k a) (hb : Sm l b) (hc : Sm k c) (hd : Sm l d) (hk : k ≤ 8000) (hl : l ≤ 4000) (h1 : b ≠ 0) (h2 : d ≠ 0) (H : LH) : gam p.prog (n + 4) 0 47 [.tup [.int a, .int b], .tup [.int c, .int d]] [] H = .ok (.tup [.int (nrm (a * d - c * b) (b * d)).1, .int (nrm (a * d - c * b) (b * d)).2]) H := by
  refine gam_fz (f := f_law_minus) rfl rfl rfl rfl (Nat.le_of_ble_eq_true rfl) ?_
  have e : a * d + (0 - c) * b = a * d - c * b := by rw [Int.sub_mul, Int.zero_mul]; omega
  have P := fun H => C_plus (n := n) a b (0 - c) d ha hb (show Sm k (0 - c) by unfold Sm at hc ⊢; omega) hd hk hl h1 h2 H
  rw [e] at P
  dsimp! [P]
  rfl
end GL

set_option Elab.async false
set_option linter.all false
set_option autoImplicit false
set_option maxRecDepth 100000
set_option maxHeartbeats 8000000
namespace GL
open PM
local macro_rules | `(tactic| fail) => `(tactic| simp only [cg_is_number, eb_is_number, es_is_number, cg_divisor_of, eb_divisor_of, es_divisor_of, cg_number_in, eb_number_in, es_number_in, cg_law_bag, eb_law_bag, es_law_bag, cg_law_draw, eb_law_draw, es_law_draw, cg_law_of, eb_law_of, es_law_of, cg_law_same, eb_law_same, es_law_same, cg_law_divisor, eb_law_divisor, es_law_divisor, cg_law_frac, eb_law_frac, es_law_frac, cg_law_plus, eb_law_plus, es_law_plus, cg_law_times, eb_law_times, es_law_times, cg_law_minus, eb_law_minus, es_law_minus, cg_law_less, eb_law_less, es_law_less, cg_law_ratio, eb_law_ratio, es_law_ratio, cg_law_pair, eb_law_pair, es_law_pair, cg_law_any_frac, eb_law_any_frac, es_law_any_frac, cg_law, eb_law, es_law, eb_Ratio_initD, es_Ratio_initD, eb_Ratio_top, es_Ratio_top, eb_Ratio_bottom, es_Ratio_bottom, eb_Ratio_side, es_Ratio_side, eb_Ratio_written, es_Ratio_written, eb_Ratio_over, es_Ratio_over, eb_Ratio_addD, es_Ratio_addD, eb_Ratio_subD, es_Ratio_subD, eb_Ratio_mulD, es_Ratio_mulD, eb_Ratio_negD, es_Ratio_negD, eb_Ratio_eqD, es_Ratio_eqD, eb_Ratio_is_less, es_Ratio_is_less, eb_Ratio_boolD, es_Ratio_boolD, eb_Ratio_strD, es_Ratio_strD, eb_Ratio_reprD, es_Ratio_reprD, cg_Ratio, ic_Ratio, sf_Ratio_own_top, fl_Ratio_own_top, sf_Ratio_own_bottom, fl_Ratio_own_bottom, pr_Ratio_top, pr_Ratio_bottom, pr_Ratio_side, rc_Ratio_written, rc_Ratio_over, om_Ratio_add, om_Ratio_sub, om_Ratio_mul, om_Ratio_neg, om_Ratio_eq, rc_Ratio_is_less, om_Ratio_bool, om_Ratio_str, om_Ratio_repr, ty_Ratio_non, ty_Ratio_bl, ty_Ratio_int, ty_Ratio_str, ty_Ratio_tup, ty_Ratio_fz, ty_Ratio_Ratio, ty_Ratio_Tint, ty_Ratio_Tbool, ty_Ratio_Tstr, ty_Ratio_Tlist, ty_Ratio_Ttuple, ty_Ratio_Tdict, tb_Ratio, rq_InvalidRatio, wq_InvalidRatio, cq_FIGURES, con_FIGURES, cq_MOST_FIGURES, con_MOST_FIGURES, ↓WS_seq, ↓WS_ofR, ↓W_bind, ↓W_noX, ↓W_why, W_ok, W_exc, W_bad, WS_ok, WS_exc, WS_bad, seqQ_nx, seqQ_rt, seqQ_bk, seqQ_ct, retQ_nx, retQ_rt, e_int, e_bl, e_non, e_str, e_glo, e_tup, e_lst, e_lstM, e_bin, e_neg, e_not, t_not, e_cmp, e_isN, e_notN, e_and, t_and, e_or, t_or, e_ife, t_ife, e_fld, e_ix, e_slc, e_slcM, e_rev, e_call, e_blt, e_met, e_isi, e_lc, e_lcM, t_var, t_int, t_bl, t_bin, t_cmp, t_isN, t_notN, t_fld, t_ix, t_call, t_blt, t_met, t_isi, t_chain, e_chain, esn_nil, t_nil, ta_nil, to_nil, esn_cons, an_cons, orr_cons, ta_cons, to_cons, es_star, i_itv, i_itr, i_ite, i_itz, i_itb, g_ttp, gs_nil, gs_cons, g_tfl, g_tix, s_skip, s_ex, s_asg, s_ret, s_iff, s_whl, s_for, s_brk, s_cnt, nil_nil, nil_cons, e_var, wr_ok, g_nm, binop_int, arith_add, arith_sub, cmp_int_ne, cmp_int_eq, cmp_int_lt, cmp_int_le, cmp_int_gt, cmp_int_ge, callB_abs, callB_int, callB_intb, callB_max, callB_min, seqOf_tup, getIx_t0, getIx_t1, le_sl1, le_sl2, le_sl3, le_sl4, le_sl5, le_sl6, if_true, List.map_cons, List.map_nil, List.length_cons, List.length_nil, List.replicate, List.cons_append, List.nil_append, List.getElem?_cons_zero, List.getElem?_cons_succ, List.set_cons_zero, List.set_cons_succ, Nat.zero_lt_succ, Nat.succ_lt_succ_iff, Nat.reduceAdd, Nat.reduceSub, Nat.reduceLT, zipK, List.isEmpty_nil, truth_nonX, truth_blX, truth_intX, truth_tupX, truth_fzX, isNone_non, isNone_bl, isNone_int, isNone_str, isNone_tup, isNone_fz, isNone_obj, isiOf_eq, tyAny_nil, tyAny_cons, cmp_obj_eq, eqArg_int, eqArg_non, eqArg_bl, eqArg_str, eqArg_obj, binop_bl, binop_add_obj, binop_sub_obj, binop_mul_obj, binop_bor_obj, neg_int, neg_obj, len_fz, len_tup, list_fz, list_tup, tuple_fz, tuple_tup, bool_int, bool_fz, itv_fz, itv_tup, itv_str, ite_fz, ite_tup, itb_fz, itb_tup, itz_fz, itz_tup, getSl_fz, getSl_tup, getSlM_fz, revOf_fz, partR_nil, partR_int, noRefs_nil, noRefs_cons, noRef_int, noRef_bl, noRef_str, noRef_non, noRef_fz, noRef_obj, noRef_tup, noRef_scr, frO_int, frO_bl, frO_str, frO_non, frO_fz, frO_obj, chainK_t, chainK_f, callM_own, Bool.and_true, Bool.true_and, Bool.and_self, if_false, Bool.false_eq_true, Bool.not_true, Bool.not_false, rcv_ok, fput_nil, fput_cons, reduceIte, Nat.reduceEqDiff, true_and, and_true, wipe, id_eq, cmp_str_eq, cmp_str_ne, cmp_bl_eq, cmp_bl_ne, beq_self_eq_true, s_augn, augop_add, augop_sub, rcv_okl, callM_lst, newF_nil, newF_1, newF_2, newF_3, newF_4, newF_5, newF_6, newF_7, newF_8, seqOf_fz, List.append_nil, rcv_app0, rcv_app1, newL_nil, newL_1, newL_2, newL_3, newL_4, newL_5, newL_6, newL_7, newL_8, Option.map_some, strQ_str, blQ_bl, neQ_bl, str_int, str_str, str_obj, repr_obj, bool_obj, cmp_obj_ne, eqArg_tup, eqArg_fz, strO_eq, fsK_str, e_fst, e_fmt, fs_nil, fs_cons, fmt_int, fmt_str, add_str, s_rse, e_why, e_mxd, in_str, e_con, eq_tup0, ne_tup0, le_sl0, List.isEmpty_cons, rcv_ext0, rcv_join, rcv_oks, callM_str, ty_int_non, ty_int_bl, ty_int_int, ty_int_str, ty_int_tup, ty_int_fz, ty_bool_non, ty_bool_bl, ty_bool_int, ty_bool_str, ty_bool_tup, ty_bool_fz, ty_str_non, ty_str_bl, ty_str_int, ty_str_str, ty_str_tup, ty_str_fz, ty_list_non, ty_list_bl, ty_list_int, ty_list_str, ty_list_tup, ty_list_fz, ty_tuple_non, ty_tuple_bl, ty_tuple_int, ty_tuple_str, ty_tuple_tup, ty_tuple_fz, ty_dict_non, ty_dict_bl, ty_dict_int, ty_dict_str, ty_dict_tup, ty_dict_fz])
local macro_rules | `(tactic| dsimp! [$as,*]) => `(tactic| simp only [cg_is_number, eb_is_number, es_is_number, cg_divisor_of, eb_divisor_of, es_divisor_of, cg_number_in, eb_number_in, es_number_in, cg_law_bag, eb_law_bag, es_law_bag, cg_law_draw, eb_law_draw, es_law_draw, cg_law_of, eb_law_of, es_law_of, cg_law_same, eb_law_same, es_law_same, cg_law_divisor, eb_law_divisor, es_law_divisor, cg_law_frac, eb_law_frac, es_law_frac, cg_law_plus, eb_law_plus, es_law_plus, cg_law_times, eb_law_times, es_law_times, cg_law_minus, eb_law_minus, es_law_minus, cg_law_less, eb_law_less, es_law_less, cg_law_ratio, eb_law_ratio, es_law_ratio, cg_law_pair, eb_law_pair, es_law_pair, cg_law_any_frac, eb_law_any_frac, es_law_any_frac, cg_law, eb_law, es_law, eb_Ratio_initD, es_Ratio_initD, eb_Ratio_top, es_Ratio_top, eb_Ratio_bottom, es_Ratio_bottom, eb_Ratio_side, es_Ratio_side, eb_Ratio_written, es_Ratio_written, eb_Ratio_over, es_Ratio_over, eb_Ratio_addD, es_Ratio_addD, eb_Ratio_subD, es_Ratio_subD, eb_Ratio_mulD, es_Ratio_mulD, eb_Ratio_negD, es_Ratio_negD, eb_Ratio_eqD, es_Ratio_eqD, eb_Ratio_is_less, es_Ratio_is_less, eb_Ratio_boolD, es_Ratio_boolD, eb_Ratio_strD, es_Ratio_strD, eb_Ratio_reprD, es_Ratio_reprD, cg_Ratio, ic_Ratio, sf_Ratio_own_top, fl_Ratio_own_top, sf_Ratio_own_bottom, fl_Ratio_own_bottom, pr_Ratio_top, pr_Ratio_bottom, pr_Ratio_side, rc_Ratio_written, rc_Ratio_over, om_Ratio_add, om_Ratio_sub, om_Ratio_mul, om_Ratio_neg, om_Ratio_eq, rc_Ratio_is_less, om_Ratio_bool, om_Ratio_str, om_Ratio_repr, ty_Ratio_non, ty_Ratio_bl, ty_Ratio_int, ty_Ratio_str, ty_Ratio_tup, ty_Ratio_fz, ty_Ratio_Ratio, ty_Ratio_Tint, ty_Ratio_Tbool, ty_Ratio_Tstr, ty_Ratio_Tlist, ty_Ratio_Ttuple, ty_Ratio_Tdict, tb_Ratio, rq_InvalidRatio, wq_InvalidRatio, cq_FIGURES, con_FIGURES, cq_MOST_FIGURES, con_MOST_FIGURES, ↓WS_seq, ↓WS_ofR, ↓W_bind, ↓W_noX, ↓W_why, W_ok, W_exc, W_bad, WS_ok, WS_exc, WS_bad, seqQ_nx, seqQ_rt, seqQ_bk, seqQ_ct, retQ_nx, retQ_rt, e_int, e_bl, e_non, e_str, e_glo, e_tup, e_lst, e_lstM, e_bin, e_neg, e_not, t_not, e_cmp, e_isN, e_notN, e_and, t_and, e_or, t_or, e_ife, t_ife, e_fld, e_ix, e_slc, e_slcM, e_rev, e_call, e_blt, e_met, e_isi, e_lc, e_lcM, t_var, t_int, t_bl, t_bin, t_cmp, t_isN, t_notN, t_fld, t_ix, t_call, t_blt, t_met, t_isi, t_chain, e_chain, esn_nil, t_nil, ta_nil, to_nil, esn_cons, an_cons, orr_cons, ta_cons, to_cons, es_star, i_itv, i_itr, i_ite, i_itz, i_itb, g_ttp, gs_nil, gs_cons, g_tfl, g_tix, s_skip, s_ex, s_asg, s_ret, s_iff, s_whl, s_for, s_brk, s_cnt, nil_nil, nil_cons, e_var, wr_ok, g_nm, binop_int, arith_add, arith_sub, cmp_int_ne, cmp_int_eq, cmp_int_lt, cmp_int_le, cmp_int_gt, cmp_int_ge, callB_abs, callB_int, callB_intb, callB_max, callB_min, seqOf_tup, getIx_t0, getIx_t1, le_sl1, le_sl2, le_sl3, le_sl4, le_sl5, le_sl6, if_true, List.map_cons, List.map_nil, List.length_cons, List.length_nil, List.replicate, List.cons_append, List.nil_append, List.getElem?_cons_zero, List.getElem?_cons_succ, List.set_cons_zero, List.set_cons_succ, Nat.zero_lt_succ, Nat.succ_lt_succ_iff, Nat.reduceAdd, Nat.reduceSub, Nat.reduceLT, zipK, List.isEmpty_nil, truth_nonX, truth_blX, truth_intX, truth_tupX, truth_fzX, isNone_non, isNone_bl, isNone_int, isNone_str, isNone_tup, isNone_fz, isNone_obj, isiOf_eq, tyAny_nil, tyAny_cons, cmp_obj_eq, eqArg_int, eqArg_non, eqArg_bl, eqArg_str, eqArg_obj, binop_bl, binop_add_obj, binop_sub_obj, binop_mul_obj, binop_bor_obj, neg_int, neg_obj, len_fz, len_tup, list_fz, list_tup, tuple_fz, tuple_tup, bool_int, bool_fz, itv_fz, itv_tup, itv_str, ite_fz, ite_tup, itb_fz, itb_tup, itz_fz, itz_tup, getSl_fz, getSl_tup, getSlM_fz, revOf_fz, partR_nil, partR_int, noRefs_nil, noRefs_cons, noRef_int, noRef_bl, noRef_str, noRef_non, noRef_fz, noRef_obj, noRef_tup, noRef_scr, frO_int, frO_bl, frO_str, frO_non, frO_fz, frO_obj, chainK_t, chainK_f, callM_own, Bool.and_true, Bool.true_and, Bool.and_self, if_false, Bool.false_eq_true, Bool.not_true, Bool.not_false, rcv_ok, fput_nil, fput_cons, reduceIte, Nat.reduceEqDiff, true_and, and_true, wipe, id_eq, cmp_str_eq, cmp_str_ne, cmp_bl_eq, cmp_bl_ne, beq_self_eq_true, s_augn, augop_add, augop_sub, rcv_okl, callM_lst, newF_nil, newF_1, newF_2, newF_3, newF_4, newF_5, newF_6, newF_7, newF_8, seqOf_fz, List.append_nil, rcv_app0, rcv_app1, newL_nil, newL_1, newL_2, newL_3, newL_4, newL_5, newL_6, newL_7, newL_8, Option.map_some, strQ_str, blQ_bl, neQ_bl, str_int, str_str, str_obj, repr_obj, bool_obj, cmp_obj_ne, eqArg_tup, eqArg_fz, strO_eq, fsK_str, e_fst, e_fmt, fs_nil, fs_cons, fmt_int, fmt_str, add_str, s_rse, e_why, e_mxd, in_str, e_con, eq_tup0, ne_tup0, le_sl0, List.isEmpty_cons, rcv_ext0, rcv_join, rcv_oks, callM_str, ty_int_non, ty_int_bl, ty_int_int, ty_int_str, ty_int_tup, ty_int_fz, ty_bool_non, ty_bool_bl, ty_bool_int, ty_bool_str, ty_bool_tup, ty_bool_fz, ty_str_non, ty_str_bl, ty_str_int, ty_str_str, ty_str_tup, ty_str_fz, ty_list_non, ty_list_bl, ty_list_int, ty_list_str, ty_list_tup, ty_list_fz, ty_tuple_non, ty_tuple_bl, ty_tuple_int, ty_tuple_str, ty_tuple_tup, ty_tuple_fz, ty_dict_non, ty_dict_bl, ty_dict_int, ty_dict_str, ty_dict_tup, ty_dict_fz, $as,*])
local macro_rules | `(tactic| bv_omega) => `(tactic| first | assumption | rfl | omega | (simp only [noRefs_cons, noRefs_nil, noRef_tup, noRef_int, noRef_str, noRef_bl, noRef_non, noRef_fz, noRef_obj, noRef_scr, Bool.and_self, Bool.and_true, Bool.true_and]; done) | (refine sm_int ?_; omega) | (refine sm_len' ?_; omega) | decide)
local macro_rules | `(tactic| refine' ($a)) => `(tactic| first | refine W_use (by with_reducible apply $a <;> bv_omega) ?_ | refine W_useX (by with_reducible apply $a <;> bv_omega) ?_ | ((with_reducible apply $a) <;> first | refine K.mk ?_ | bv_omega))
theorem arith_pow1012 (H : LH) : arith .pow 10 12 H = .ok (.int 1000000000000) H := by
  have h : (0 : Int) ≤ 12 ∧ (12 : Int) ≤ 1000000 ∧ (10 : Int).natAbs < 2 ^ 64 := ⟨by omega, by omega, by omega⟩
  exact (if_pos h : (if (0 : Int) ≤ 12 ∧ (12 : Int) ≤ 1000000 ∧ (10 : Int).natAbs < 2 ^ 64 then (.ok (.int ((10 : Int) ^ (12 : Int).toNat)) H : R LV) else .bad) = _)
theorem LAW {n : Nat} (ns : List Int) (hn : ns.length ≤ 63) : W (gam p.prog (n + 41) 0 26 [.scr (ns.map .int)] [] []) (fun v _ => v = .bl true) noE := by
  refine W_gam (f := f_law) rfl rfl rfl (Nat.le_of_ble_eq_true rfl) ?_
  fail
  refine C_bag ns hn [] _ _ fun bg => ?_
  dsimp! [rng1 12 _ ⟨by decide, by decide⟩, Int.reduceToNat]
  refine W_for (fun i σ H' => ∃ (bg : Bag) (x2 x3 x4 x5 x6 x7 x8 x9 x10 : Option LV), σ = [some (.scr (ns.map .int)), some (.ref 0), x2, x3, x4, x5, x6, x7, x8, x9, x10] ∧ H' = [bg.o]) 12 ?_ ?_ _ 0 _ _ (Nat.zero_le _) (by show 12 < 1000000000 + 0; omega) ⟨bg, _, _, _, _, _, _, _, _, _, rfl, rfl⟩
  · rintro i σ H' hi ⟨bg, x2, x3, x4, x5, x6, x7, x8, x9, x10, rfl, rfl⟩
    refine ⟨.int (0 + (i : Nat)), by rw [nx_rng, List.getElem?_map, List.getElem?_range hi]; rfl, ?_⟩
    have F := C_of (n := n + 38) bg [4, 30, 1000000000000] (by decide) (by decide) (H := [bg.o]) (a := 0) rfl
    have l4 := draw_lo bg (m := ([4, 30, 1000000000000] : List Int).length) (by decide)
    have h4 := draw_hi bg (m := ([4, 30, 1000000000000] : List Int).length) (by decide)
    have r4 := row_in (l := [4, 30, 1000000000000]) (lo := 4) (hi := 1000000000000) rfl (i := (draw bg ([4, 30, 1000000000000] : List Int).length).1.toNat) (by omega)
    generalize ([4, 30, 1000000000000] : List Int)[(draw bg ([4, 30, 1000000000000] : List Int).length).1.toNat]?.getD 0 = m at F r4
    generalize (draw bg ([4, 30, 1000000000000] : List Int).length).2 = b1 at F
    clear l4 h4
    simp only [List.map_cons, List.map_nil] at F
    obtain ⟨b2, x, y, u1, u2, u3, u4, FA⟩ := C_anyfrac (n := n + 37) b1 m (by omega) (Sm.le (k := 50) (by unfold Sm; omega) (by decide)) (H := [b1.o]) (a := 0) rfl
    have y0 : y ≠ 0 := by omega
    have sa := nrm_sm1 (b := y) (show Sm 41 x by unfold Sm; omega)
    have sb := nrm_sm2 (t := x) (show Sm 41 y by unfold Sm; omega)
    have pa := nrm_pos (t := x) y0
    have ga := nrm_gcd x y y0
    generalize nrm x y = q at FA sa sb pa ga
    obtain ⟨a, b⟩ := q
    dsimp only at FA sa sb pa ga
    have D := C_draw (n := n + 39) b2 5 (by decide) (by decide) (H := [b2.o]) (a := 0) rfl
    generalize draw b2 5 = dd at D
    obtain ⟨d5, b3⟩ := dd
    dsimp only at D
    dsimp! [arith_pow1012, F, FA, D]
    refine W_to (fun v H => ∃ (c d : Int) (b4 : Bag), v = .tup [.int c, .int d] ∧ H = [b4.o] ∧ Sm 41 c ∧ Sm 41 d ∧ 0 < d ∧ Int.gcd c d = 1) ?_ ?_
    · by_cases h5 : d5 = 0
      · dsimp! [h5, decide_true]
        exact ⟨a, b, b3, rfl, rfl, sa, sb, pa, ga⟩
      · obtain ⟨b4, x', y', u1', u2', u3', u4', FB⟩ := C_anyfrac (n := n + 37) b3 m (by omega) (Sm.le (k := 50) (by unfold Sm; omega) (by decide)) (H := [b3.o]) (a := 0) rfl
        dsimp! [h5, decide_false, FB]
        exact ⟨_, _, b4, rfl, rfl, nrm_sm1 (b := y') (show Sm 41 x' by unfold Sm; omega), nrm_sm2 (t := x') (show Sm 41 y' by unfold Sm; omega), nrm_pos (by omega), nrm_gcd x' y' (by omega)⟩
    rintro _ _ ⟨c, d, b4, rfl, rfl, sc, sd, pd, gd⟩
    have b0 : b ≠ 0 := by omega
    have d0 : d ≠ 0 := by omega
    have z1 : nrm (-a) b = (-a, b) := nrm_id pa (by rw [Int.neg_gcd]; exact ga)
    have z2 : nrm (c * d - c * d) (d * d) = (0, 1) := by
      rw [Int.sub_self]
      rw [nrm_ext (t := 0) (b := d * d) (t' := 0) (b' := 1) (Int.mul_ne_zero d0 d0) (by decide) (by rw [Int.zero_mul, Int.zero_mul])]
      decide
    have A1 := fun H => C_add (n := n + 37) a b c d sa sb sc sd (by decide) (by decide) b0 d0 H
    have A2 := fun H => C_sub (n := n + 37) a b c d sa sb sc sd (by decide) (by decide) b0 d0 H
    have A3 := fun H => C_mul (n := n + 37) a b c d sa sb sc sd (by decide) (by decide) b0 d0 H
    have A4 := fun H => C_neg (n := n + 37) a b sa sb (by decide) b0 H
    have A5 := fun H => C_sub (n := n + 37) c d c d sc sd sc sd (by decide) (by decide) d0 d0 H
    rw [z1] at A4
    rw [z2] at A5
    have L1 := fun H => C_plus (n := n + 37) a b c d sa sb sc sd (by decide) (by decide) b0 d0 H
    have L2 := fun H => C_minus (n := n + 36) a b c d sa sb sc sd (by decide) (by decide) b0 d0 H
    have L3 := fun H => C_times (n := n + 37) a b c d sa sb sc sd (by decide) (by decide) b0 d0 H
    have R1 := fun H => C_ratio (n := n + 37) a b pa ga (sa.le (by decide)) (sb.le (by decide)) H
    have R2 := fun H => C_ratio (n := n + 37) c d pd gd (sc.le (by decide)) (sd.le (by decide)) H
    have I1 := fun H => C_less (n := n + 38) a b c d sa sb sc sd (by decide) (by decide) H
    have I2 := fun H => C_less (n := n + 38) c d a b sc sd sa sb (by decide) (by decide) H
    have I3 := fun H => C_less (n := n + 38) a b a b sa sb sa sb (by decide) (by decide) H
    have J1 := fun H => C_lless (n := n + 39) a b c d sa sb sc sd (by decide) (by decide) H
    have J2 := fun H => C_lless (n := n + 39) c d a b sc sd sa sb (by decide) (by decide) H
    have e3 : decide (a * b < a * b) = false := decide_eq_false (Int.lt_irrefl _)
    have n0 : (0 : Int) - a = -a := by omega
    have S1 := C_same (n + 40) (.fz [.tup [.int (nrm (a * d + c * b) (b * d)).1, .int (nrm (a * d + c * b) (b * d)).2], .tup [.int (nrm (a * d - c * b) (b * d)).1, .int (nrm (a * d - c * b) (b * d)).2], .tup [.int (nrm (a * c) (b * d)).1, .int (nrm (a * c) (b * d)).2], .tup [.int (-a), .int b]]) rfl (Nat.lt_of_le_of_lt (show _ ≤ 2 by simp [ddp, ddps]) (by omega))
    have S2 := C_same (n + 40) (.fz [.bl (decide (a * d < c * b)), .bl (decide (c * b < a * d)), .bl false]) rfl (Nat.lt_of_le_of_lt (show _ ≤ 2 by simp [ddp, ddps]) (by omega))
    have S3 := C_same (n + 40) (.fz [.tup [.int a, .int b], .tup [.int c, .int d]]) rfl (Nat.lt_of_le_of_lt (show _ ≤ 2 by simp [ddp, ddps]) (by omega))
    have X := fun H => C_overX (n := n + 37) a b 1 H
    dsimp! [R1, R2, A1, A2, A3, A4, C_pair, L1, L2, L3, n0, S1, I1, I2, I3, J1, J2, e3, S2]
    by_cases hc : c = 0
    · subst hc
      dsimp! [decide_true, A5, X, cmp_t2_ne, C_pair, S3]
      exact ⟨b4, _, _, _, _, _, _, _, _, _, rfl, rfl⟩
    · have O := fun H => C_over (n := n + 37) a b c d sa sb sc sd (by decide) (by decide) b0 hc H
      have FR := fun H => C_frac (n := n + 38) (a * d) (b * c) (Int.mul_ne_zero b0 hc) ((sa.mul sd).le (by decide)) ((sb.mul sc).le (by decide)) H
      dsimp! [hc, decide_false, arith_mul (sa.mulOk sd (by decide)), arith_mul (sb.mulOk sc (by decide)), O, FR, A5, X, cmp_t2_ne, decide_true, C_pair, S3]
      exact ⟨b4, _, _, _, _, _, _, _, _, _, rfl, rfl⟩
  · rintro σ H' ⟨bg, x2, x3, x4, x5, x6, x7, x8, x9, x10, rfl, rfl⟩
    refine ⟨by rw [nx_rng]; simp, ?_⟩
    fail
end GL

set_option Elab.async false
set_option linter.all false
set_option maxRecDepth 100000
set_option maxHeartbeats 0
namespace GL
open PySem PySem.Spec PyProof.Rows PM
open L2 hiding St
abbrev R : PySem.W.OpenRow := PySem.W.OpenLaw.row PySem.Challenge.rw_untoldmean_k03_ratios_with_signs
def loose : List PySem.Str := (["_wall", "MeanError", "Missing", "InvalidRatio", "NothingLeft", "FIGURES", "MOST_FIGURES", "is_number", "divisor_of", "number_in", "Ratio", "_law_bag", "_law_draw", "_law_of", "_law_same", "_law_field", "_law_why", "_law_divisor", "_law_frac", "_law_plus", "_law_times", "_law_minus", "_law_less", "_law_ratio", "_law_pair", "_law_any_frac"] : List PySem.Str)
abbrev hk : PySem.W.Hook := hookP 5 p NM (ds ++ p.xs)
def ob (s : PySem.W.SharedT) : He.AlD := obsPG 5 p NM (ds ++ p.xs) (HandSHeadRun.getT s)
theorem ob_eq (s : PySem.W.SharedT) : ob s = hk.obs s.abs := obsPG_eq (HandSHeadRun.getT_eq s)
theorem run (w : World) : HandSHeadRun.RunEq R (PySem.W.view R.prog [29]) hk ob 20000 loose w := by
  intro os
  kernel_rfl
end GL

set_option Elab.async false
set_option linter.all false
set_option maxRecDepth 100000
set_option maxHeartbeats 0
section
open PySem PySem.W PySem.Calls PyProof.Rows
theorem GL.holds_of (law : ∀ ns : List Int, ns.length ≤ 63 → ∃ L', PM.gam GL.p.prog 41 0 26 [.scr (ns.map .int)] [] [] = .ok (.bl true) L') : PySem.Challenge.rw_untoldmean_k03_ratios_with_signs.Holds := by
  w_on; o_law
  refine HandSHeadRun.head_any (r := OpenLaw.row PySem.Challenge.rw_untoldmean_k03_ratios_with_signs) (q := view (OpenLaw.row PySem.Challenge.rw_untoldmean_k03_ratios_with_signs).prog [29]) (H := GL.hk) (ob := GL.ob) (M := 20000) (loose := GL.loose) (d := HandSHeadRun.topDef (OpenLaw.row PySem.Challenge.rw_untoldmean_k03_ratios_with_signs).prog 29) (kwd := []) GL.ob_eq
    (by kernel_rfl) (fun s => by kernel_rfl) GL.run (by kernel_rfl) (by kernel_rfl) (by kernel_rfl) (by rfl) (by first | assumption | decide +kernel) (by decide +kernel) ⟨rfl, rfl, rfl, rfl, rfl, by decide +kernel⟩ ?hw ?hc
  case hw => w_witness2
  case hc =>
    exact PM.walkP (l := PySem.Challenge.rw_untoldmean_k03_ratios_with_signs) (p := GL.p) (NM := GL.NM) (ds := GL.ds) (n := 5) (nt := 100) (nc := 40) (sx := 66) (lawId := 26) (f := GL.f_law) (d0 := GL.d_law) rfl (by kernel_rfl) (by kernel_rfl) ⟨rfl, by decide, by decide⟩ GL.xs GL.good GL.g_law (by unfold GL.ds; simp) rfl rfl (by decide +kernel) (fun _ _ _ _ _ _ us hl => match us, hl with | [_], _ => rfl) law
end

set_option Elab.async false
set_option linter.all false
set_option maxRecDepth 100000
set_option maxHeartbeats 0
theorem PM.W_ex {α : Type} {r : PM.R α} {x : α} (h : PM.W r (fun v _ => v = x) PM.noE) : ∃ L, r = .ok x L := by
  cases r with
  | ok a H => rw [PM.W_ok] at h; exact ⟨H, by rw [h]⟩
  | exc e H => rw [PM.W_exc] at h; exact h.elim
  | bad => rw [PM.W_bad] at h; exact h.elim
theorem PySem.Challenge.cw_untoldmean_k03_ratios_with_signs_holds : PySem.Challenge.rw_untoldmean_k03_ratios_with_signs.Holds := by
  exact GL.holds_of fun ns hn => PM.W_ex (GL.LAW (n := 0) ns hn)

