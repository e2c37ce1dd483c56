import PyProof.Rows.All
import Wide.All
import OpenK.AllK
import Wide.FinOn
import KE.SortCalls
import HandS.ForMost
import HandS.ForExc
import HandS.Wide
import HandS.Lambda
import KE.DataCmp
import KE.DataMinMax
import HandS.TupMul
import HandS.SortInts
import PyProof.TupleOfSeq
import HandS.TupAny
import KE.KTupSum
import HandS.Gcd
import HandS.IsInst
import HandS.Flow
import HandS.Text
import HandS.ExcIs
import HandS.Zip
import HandS.Conv
import HandS.ExcInit
import KE.KExcSuper
import HandS.ExcField
import HandS.Style
import KE.GoesEnum
import PyProof.EnumMake
import HandS.Deep
import KE.GoesZip
import KE.GoesMore
import HandS.TryOnly
import HandS.ExcOwn
import HandS.EndTab
import PySem.Challenge.RW_marketguild_k64_whole_roads
set_option Elab.async false
set_option linter.all false
set_option maxRecDepth 100000
set_option maxHeartbeats 4000000
/-! S1: tuples of any lengths can be sorted. -/
namespace PySem.W
open PySem PySem.Calls PyProof.Rows PySem.SeqAt
section
variable {prog : Program} {w : World} {A : Around} {E : Value → Shared → Prop} {s : Shared}
theorem call_tuple_lt {Q : Value → Shared → Prop} {l b : Addr} {items items2 : Array Value} {e r : Nat → Bool} (hl : s.heap.IsTuple l items) (hb : s.heap.IsTuple b items2)
    (he : ∀ j (h1 : j < items.size) (h2 : j < items2.size), EqAt A.in1 s items[j] items2[j] (e j)) (hr : ∀ j (h1 : j < items.size) (h2 : j < items2.size), e j = false → RcLt A.in1 s items[j] items2[j] (r j))
    (h : Q (.bool (firstLt e r (decide (items.size < items2.size)) (List.range (min items.size items2.size)))) s) : wpAny (model prog w) A (call (.builtin "tuple.__lt__") [.ref l, .ref b]) Q E s := by
  obtain ⟨⟨cls, dd, data, sl⟩, ho, hc, n, hd⟩ := id hl
  obtain ⟨⟨cls2, dd2, data2, sl2⟩, ho2, hc2, n2, hd2⟩ := id hb
  simp only at hc hd hc2 hd2
  subst hc hd hc2 hd2
  exact call_meets F.slot_tuple_lt ⟨_, ho, rfl⟩ F.entry_tuple_lt (F.args_tuple_lt_2 _ _) (tuple_ltAt l b items items2 n n2 dd dd2 sl sl2 e r) ⟨ho, ho2, he, hr, h⟩
theorem oneLt_tup {f : Bool} {xs ys : List PyData} {a b : Value} {as bs : List Addr} {Q : Bool → Shared → Prop} (ra : Reads s.heap a (.tuple xs) as) (rb : Reads s.heap b (.tuple ys) bs) (h : alike (.tuple xs) (.tuple ys) = true)
    (hu : A.units + min (PyData.tuple xs).depth (PyData.tuple ys).depth < cLine) (hq : Q (dataLt (.tuple xs) (.tuple ys)) s) : wpAny (model prog w) A (oneLt' f a b) Q E s := by
  cases f with
  | false => exact oneLt_alike (fun e => nomatch e) ra rb h (fun e => nomatch e) hu hq
  | true =>
    have hal : alikeAll xs ys = true := by simpa [alike] using h
    cases ra with
    | @tuple l o vs n _ as₁ h1 h2 h3 h4 =>
      cases rb with
      | @tuple l' o' vs' n' _ bs₁ k1 k2 k3 k4 =>
        have n1 : vs.size = xs.length := by simpa using ReadsAll.length _ _ _ h4
        have n2 : vs'.size = ys.length := by simpa using ReadsAll.length _ _ _ k4
        rw [dataLt_tuple, ← firstLt_toks xs ys hal, ← n1, ← n2] at hq
        rw [oneLt'_eq]
        simp only [if_true]
        refine wpAny_bind (wpAny_cRoomFor (room_here hu) ?_)
        refine wpAny_bind (wpAny_callSpecialIfBound?_slot (T := "tuple") ⟨_, h1, h2⟩ F.slot_tuple_lt (call_tuple_lt (e := pairEq xs ys) (r := fun j => dataLt (xs.getD j .none) (ys.getD j .none)) ⟨_, h1, h2, _, h3⟩ ⟨_, k1, k2, _, k3⟩ (fun j j1 j2 => ?_) (fun j j1 j2 hj => ?_) ?_))
        · have := eqAt_alikeAll xs ys A.in1 s vs.toList vs'.toList _ _ h4 k4 hal (room_in hu) j (by simpa using j1) (by simpa using j2)
          simpa using this
        · have := rcLt_alikeAll xs ys A.in1 s vs.toList vs'.toList _ _ h4 k4 hal (room_in hu) j (by simpa using j1) (by simpa using j2) hj
          simpa using this
        · exact wpAny_truthy_bool hq
/-- the first items of tuples -/
def FirstsIs (h : Heap) : List Value → List (Option Value) → Prop
  | [], [] => True
  | v :: vs, f :: fs => (∃ a o xs n, v = .ref a ∧ h.get? a = some o ∧ o.cls = .type "tuple" ∧ o.data = .seq xs n ∧ xs[0]? = f) ∧ FirstsIs h vs fs
  | _, _ => False
theorem firsts_run {M : Model} : ∀ (vs : List Value) (fs : List (Option Value)) {Q : List (Option Value) → Shared → Prop}, FirstsIs s.heap vs fs → Q fs s → wpAny M A (vs.mapM firstOfTuple') Q E s
  | [], [], _, _, h => by rw [List.mapM_nil]; exact wpAny_pure h
  | [], _ :: _, _, t, _ => t.elim
  | _ :: _, [], _, t, _ => t.elim
  | v :: vs, f :: fs, Q, t, h => by
    obtain ⟨⟨a, o, xs, n, rfl, ho, hc, hd, hf⟩, t⟩ := t
    rw [List.mapM_cons]
    refine wpAny_bind ?_
    rw [kas_first_eq]
    refine wpAny_bind (Looks.here (show Looks M s.heap (typeOf (.ref a)) o.cls from (Looks.ld ho).andThen .now) ?_)
    rw [hc, if_neg (by first | decide | simp)]
    refine wpAny_bind (listItems_at ho hd (wpAny_pure ?_))
    rw [hf]
    exact wpAny_bind (firsts_run vs fs (Q := fun bs s' => wpAny M A (pure (f :: bs)) Q E s') t (wpAny_pure h))
/-- which kind of keys: some tuple is without items -/
def kindOfs (fs : List (Option Value)) : SortKind := if (fs[0]?.bind id).isSome = true then general' else oneType'
theorem kind_mixed {M : Model} {vs : List Value} {fs : List (Option Value)} {Q : SortKind → Shared → Prop} (t : FirstsIs s.heap vs fs) (h2 : 2 ≤ vs.length) (hn : none ∈ fs) (hT : ∀ v ∈ vs, Looks M s.heap (typeOf v) (.type "tuple")) (h : Q (kindOfs fs) s) :
    wpAny M A (keyKind' vs.toArray) Q E s := by
  rw [keyKind'_eq, List.mapM_toArray, map_eq_pure_bind]
  refine wpAny_bind (wpAny_bind (firsts_run vs fs t (wpAny_pure ?_)))
  have hall : (fs.toArray.all fun x => x.isSome) = false := by
    simp only [List.all_toArray]
    rw [Bool.eq_false_iff]
    intro z
    have := List.all_eq_true.mp z none hn
    cases this
  rw [if_neg (by rw [hall]; simp)]
  have e0 : fs.toArray[0]? = fs[0]? := by simp
  unfold kindOfs at h
  by_cases hf : (fs[0]?.bind id).isSome = true
  · rw [if_pos hf] at h
    rw [e0, if_pos hf]
    exact wpAny_pure h
  · rw [if_neg hf] at h
    rw [e0, if_neg hf]
    obtain ⟨v₁, v₂, rest, rfl⟩ : ∃ v₁ v₂ rest, vs = v₁ :: v₂ :: rest := by
      match vs, h2 with
      | [], h2 => simp at h2
      | [_], h2 => simp at h2
      | v₁ :: v₂ :: rest, _ => exact ⟨v₁, v₂, rest, rfl⟩
    rw [oneTypeOnly'_eq, List.mapM_toArray, map_eq_pure_bind]
    refine wpAny_bind (wpAny_bind (wpAny_bind (kas_mapM (r := Value.type "tuple") _ (fun v hv Q' hq => (hT v hv).here hq) (wpAny_pure ?_))))
    have hall : ((List.map (fun _ => Value.type "tuple") (v₁ :: v₂ :: rest)).toArray.all fun x => x == Value.type "tuple") = true := by
      simp only [List.all_toArray, List.all_map, List.all_eq_true]
      intro _ _
      exact beq_self_eq_true _
    have h0 : (List.map (fun _ => Value.type "tuple") (v₁ :: v₂ :: rest)).toArray[0]? = some (Value.type "tuple") := by simp
    rw [h0]
    simp only [hall, if_true]
    exact wpAny_pure (wpAny_pure h)
theorem firsts_of_data {h : Heap} : ∀ {vs : List Value} {ds : List PyData}, EachIs (fun v d => ∃ as, Reads h v d as) vs ds → (∀ d, d ∈ ds → ∃ xs, d = .tuple xs) → ∃ fs, FirstsIs h vs fs ∧ (.tuple [] ∈ ds → none ∈ fs)
  | _, _, .nil, _ => ⟨[], trivial, fun z => nomatch z⟩
  | _, _, .cons (b := d) ⟨as, r⟩ t, ht => by
    obtain ⟨fs, h1, h2⟩ := firsts_of_data t fun d hd => ht d (List.mem_cons_of_mem _ hd)
    obtain ⟨xs, rfl⟩ := ht d (List.mem_cons_self ..)
    cases r with
    | @tuple a o us n _ _ ho hc hd hr =>
      refine ⟨us[0]? :: fs, ⟨⟨a, o, us, n, rfl, ho, hc, hd, rfl⟩, h1⟩, fun z => ?_⟩
      rcases List.mem_cons.mp z with e | z
      · cases e
        have : us.toList = [] := by
          cases q : us.toList with
          | nil => rfl
          | cons f fr => rw [q] at hr; cases hr
        have : us[0]? = none := by rw [← Array.getElem?_toList, this]; rfl
        rw [this]
        exact List.mem_cons_self ..
      · exact List.mem_cons_of_mem _ (h2 z)
theorem SortsAt.tups {vs : List Value} {ds : List PyData} (e : EachIs (fun v d => ∃ as, Reads s.heap v d as) vs ds) (hal : AllAlike ds) (hk : ∀ d, d ∈ ds → ∃ xs, d = .tuple xs) (hu : ∀ d, d ∈ ds → A.units + d.depth < cLine) : SortsAt prog w A s (dataKind s.heap ds) vs := by
  by_cases hn : PyData.tuple [] ∈ ds
  · obtain ⟨fs, hf, hf2⟩ := firsts_of_data e hk
    refine ⟨fun v hv => ?_, ?_⟩
    · obtain ⟨d, hd, as, r⟩ := e.left v hv
      exact ⟨_, dataKind_some hal hd r⟩
    · refine ⟨kindOfs fs, ?_, fun h2 E Q hq => kind_mixed hf h2 (hf2 hn) (fun v hv => ?_) hq⟩
      · intro E x y a b Q ha hb hq
        obtain ⟨d, as, hd, ra, rfl⟩ := dataKind_inv ha
        obtain ⟨d', as', hd', rb, rfl⟩ := dataKind_inv hb
        obtain ⟨xs, rfl⟩ := hk d hd
        obtain ⟨ys, rfl⟩ := hk d' hd'
        have room : A.units + min (PyData.tuple xs).depth (PyData.tuple ys).depth < cLine := Nat.lt_of_le_of_lt (Nat.add_le_add_left (Nat.min_le_left _ _) _) (hu _ hd)
        unfold kindOfs
        split
        · exact oneLt_tup (f := false) ra rb (hal _ hd _ hd') room hq
        · rw [keyLt'_oneType]
          exact oneLt_tup (f := true) ra rb (hal _ hd _ hd') room hq
      · obtain ⟨d, hd, as, r⟩ := e.left v hv
        obtain ⟨xs, rfl⟩ := hk d hd
        exact looks_reads r
  · refine SortsAt.data e hal (.inl fun d hd => ?_) hu
    obtain ⟨xs, rfl⟩ := hk d hd
    cases xs with
    | nil => exact absurd hd hn
    | cons x r => exact ⟨x, r, rfl⟩
end
end PySem.W
/-! R1: data by value, the small language, its evaluator. -/
namespace Rf
open PySem

/-- immutable data, by value -/
inductive D where
  | non | bl (b : Bool) | int (i : Int) | str (s : Str) | tup (xs : List D) | lst (xs : List D)
  deriving Inhabited, Repr

mutual
def D.py : D → PyData
  | .non => .none
  | .bl b => .bool b
  | .int i => .int i
  | .str s => .str s
  | .tup xs => .tuple (D.pys xs)
  | .lst xs => .list (D.pys xs)
def D.pys : List D → List PyData
  | [] => []
  | x :: xs => D.py x :: D.pys xs
end
/-- Python's == -/
def D.eqv (a b : D) : Bool := PyData.eqv a.py b.py
def D.deep (a : D) : Nat := a.py.depth

/-- an exception: its class, its code -/
structure Xn where
  cls : Nat
  code : Option D := none
  deriving Inhabited, Repr
/-- what a slot holds: nothing known, data, a list of its own, a caught exception, a lambda (what it answers) -/
inductive Sl where
  | un | im (d : D) | mu (ds : List D) | exn (x : Xn) | clo (f : List D → Option (Xn ⊕ D))
  deriving Inhabited
abbrev Sls := List Sl

inductive R (α : Type) where
  | ok (a : α) (σ : Sls)
  | exc (x : Xn) (σ : Sls)
  | bad
def R.bind {α β : Type} (r : R α) (f : α → Sls → R β) : R β := match r with
  | .ok a σ => f a σ
  | .exc x σ => .exc x σ
  | .bad => .bad
inductive FR where
  | ok (r : Sl) (io : Sl)
  | exc (x : Xn)
  | bad
inductive Fl where
  | nx | bk | ct | rt (s : Sl)

inductive BOp where
  | add | sub | mul | fdv | mod | pow
  deriving DecidableEq, Repr
inductive COp where
  | eq | ne | lt | le | gt | ge | isin | notin | isn | isnn
  deriving DecidableEq, Repr
inductive Blt where
  | len | abs | int | str | sum | all | any | tuple | list | sorted | min | max | gcd | isInt | isBool | isTuple | isStr | isList
  deriving DecidableEq, Repr

inductive Tg where
  | nm (i : Nat) | nl | cs (t ts : Tg)
  deriving Repr, DecidableEq

inductive IE where
  | cst (d : D) | glo (d : D) | var (i : Nat) | lv (i : Nat)
  | nil | cons (e es : IE) | tup (es : IE) | lst (es : IE)
  | bin (o : BOp) (a b : IE) | neg (a : IE) | rep (a b : IE)
  | cmp (o : COp) (a b : IE) | chn (o p : COp) (a b c : IE)
  | nt (a : IE) | an (a b : IE) | orr (a b : IE) | tr (a : IE) | ite (c a b : IE)
  | idx (a i : IE) | slc (a lo hi : IE)
  | call (f : Nat) (es : IE) | cio (f j : Nat) (es : IE)
  | b1 (f : Blt) (a : IE) | b2 (f : Blt) (a b : IE)
  | rng1 (a : IE) | rng2 (a b : IE) | lrg (tp : Bool) (a b : IE) | enm (a : IE) | zip (a b : IE)
  | comp (own : List Nat) (t : Tg) (it c e : IE)
  | pop (i : Nat)
  | isx (i : Nat) (c : Nat)
  /-- the code of a caught exception; a call of a lambda held by a slot; f(lambda: body) -/
  | rev (a : IE) | popat (i : Nat) (e : IE) | inx (i : Nat) (e : IE) | rngd (a b : IE)
  | xcd (i : Nat) | clc (i : Nat) | hof (f : Nat) (caps : List Nat) (body : IE)
  deriving Repr

inductive IS where
  | skip | seq (a b : IS)
  | asg (t : Tg) (e : IE) | par (i j : Nat) (a b : IE)
  | aug (i : Nat) (o : BOp) (e : IE)
  | six (i : Nat) (ix e : IE)
  | exp (e : IE)
  | app (i : Nat) (e : IE)
  | cond (c : IE) (a b : IS) | whl (c : IE) (b : IS) | fr (t : Tg) (it : IE) (b : IS)
  | ret (e : IE) | rtv (i : Nat) | rtn
  | brk | cnt
  | rse (x : Nat) | rsc (x : Nat) (e : IE)
  | ext (i : Nat) (e : IE) | ags (i : Nat) (ix : IE) (o : BOp) (e : IE)
  | try1 (b : IS) (c : Nat) (i : Option Nat) (h : IS)
  deriving Repr

/-! ### operations -/
def mulOk (i j : Int) : Bool := decide (i.natAbs.log2 + j.natAbs.log2 < 1000000)
def divOk (j : Int) : Bool := decide (0 < j ∧ j.natAbs.log2 < 9000)
def powOk (i j : Int) : Bool := decide (0 ≤ j ∧ j ≤ 1000000 ∧ i.natAbs < 2 ^ 64)
def bopD : BOp → D → D → Option Sl
  | .add, .int i, .int j => some (.im (.int (i + j)))
  | .add, .lst xs, .lst ys => if xs.length + ys.length ≤ sizeLine then some (.mu (xs ++ ys)) else none
  | .add, .tup xs, .tup ys => if xs.length + ys.length ≤ sizeLine then some (.im (.tup (xs ++ ys))) else none
  | .add, .str x, .str y => if x.length + y.length ≤ sizeLine then some (.im (.str (x ++ y))) else none
  | .sub, .int i, .int j => some (.im (.int (i - j)))
  | .mul, .int i, .int j => if mulOk i j = true then some (.im (.int (i * j))) else none
  | .mul, .tup xs, .int j => if (0 ≤ j ∧ j ≤ 1000) ∧ xs ≠ [] ∧ xs.length ≤ 1000 then some (.im (.tup (List.replicate j.toNat xs).flatten)) else none
  | .fdv, .int i, .int j => if divOk j = true then some (.im (.int (i / j))) else none
  | .mod, .int i, .int j => if 0 < j then some (.im (.int (i % j))) else none
  | .pow, .int i, .int j => if powOk i j = true then some (.im (.int (i ^ j.toNat))) else none
  | _, _, _ => none
def eqOk (a b : D) : Bool := decide (a.deep ≤ 200 ∨ b.deep ≤ 200)
/-- order of data of one shape: ints, tuples -/
def ordOk (a b : D) : Bool := PySem.W.alike a.py b.py && decide (a.deep ≤ 200 ∨ b.deep ≤ 200)
def D.lt (a b : D) : Bool := PySem.W.dataLt a.py b.py
def copD : COp → D → D → Option Bool
  | .eq, a, b => if eqOk a b = true then some (a.eqv b) else none
  | .ne, a, b => if eqOk a b = true then some (!a.eqv b) else none
  | .lt, .int i, .int j => some (decide (i < j))
  | .le, .int i, .int j => some (decide (i ≤ j))
  | .gt, .int i, .int j => some (decide (j < i))
  | .ge, .int i, .int j => some (decide (j ≤ i))
  | .lt, .tup a, .tup b => if ordOk (.tup a) (.tup b) = true then some ((D.tup a).lt (.tup b)) else none
  | .le, .tup a, .tup b => if ordOk (.tup a) (.tup b) = true then some (!(D.tup b).lt (.tup a)) else none
  | .gt, .tup a, .tup b => if ordOk (.tup a) (.tup b) = true then some ((D.tup b).lt (.tup a)) else none
  | .ge, .tup a, .tup b => if ordOk (.tup a) (.tup b) = true then some (!(D.tup a).lt (.tup b)) else none
  | .isin, a, .lst ys => if ys.all (eqOk a) = true then some (ys.any fun y => y.eqv a) else none
  | .isin, a, .tup ys => if ys.all (eqOk a) = true then some (ys.any fun y => y.eqv a) else none
  | .notin, a, .lst ys => if ys.all (eqOk a) = true then some (!ys.any fun y => y.eqv a) else none
  | .notin, a, .tup ys => if ys.all (eqOk a) = true then some (!ys.any fun y => y.eqv a) else none
  | .isn, .non, .non => some true
  | .isn, .bl _, .non => some false
  | .isn, .int _, .non => some false
  | .isn, .str _, .non => some false
  | .isn, .tup _, .non => some false
  | .isn, .lst _, .non => some false
  | .isnn, .non, .non => some false
  | .isnn, .bl _, .non => some true
  | .isnn, .int _, .non => some true
  | .isnn, .str _, .non => some true
  | .isnn, .tup _, .non => some true
  | .isnn, .lst _, .non => some true
  | _, _, _ => none
def truD : D → Option Bool
  | .non => some false
  | .bl b => some b
  | .int i => some (i != 0)
  | .str s => if s.length ≤ sizeLine then some (s.length != 0) else none
  | .tup xs => some (!xs.isEmpty)
  | .lst xs => some (!xs.isEmpty)
def idxD : D → D → Option D
  | .tup xs, .int i => L2.atI xs i
  | .lst xs, .int i => L2.atI xs i
  | .str s, .int i => if s.length ≤ sizeLine then (L2.atI s.cps.toList i).map fun c => .str ⟨#[c]⟩ else none
  | _, _ => none
def cutD {α : Type} (xs : List α) (lo hi : Option Int) : List α := (xs.drop (HT.sIx xs.length 0 lo)).take (HT.sIx xs.length xs.length hi - HT.sIx xs.length 0 lo)
def slcD (a : D) (lo hi : Option Int) : Option Sl := match a with
  | .tup xs => some (.im (.tup (cutD xs lo hi)))
  | .lst xs => some (.mu (cutD xs lo hi))
  | .str s => if s.length ≤ sizeLine then some (.im (.str (L2.cutS s lo hi))) else none
  | _ => none
def D.i? : D → Option Int
  | .int i => some i
  | _ => none
def D.b? : D → Option Bool
  | .bl b => some b
  | _ => none
def D.s? : D → Option Str
  | .str s => some s
  | _ => none
/-- all of a kind -/
def allO {α : Type} (f : D → Option α) : List D → Option (List α)
  | [] => some []
  | x :: xs => match f x, allO f xs with
    | some y, some ys => some (y :: ys)
    | _, _ => none
def D.its? : D → Option (List D)
  | .tup xs => some xs
  | .lst xs => some xs
  | _ => none
def minI : Int → List Int → Int
  | m, [] => m
  | m, x :: xs => minI (if x < m then x else m) xs
def maxI : Int → List Int → Int
  | m, [] => m
  | m, x :: xs => maxI (if m < x then x else m) xs
def insI (x : Int) : List Int → List Int
  | [] => [x]
  | y :: ys => if x ≤ y then x :: y :: ys else y :: insI x ys
def sortI : List Int → List Int
  | [] => []
  | x :: xs => insI x (sortI xs)
def D.isTup : D → Bool
  | .tup _ => true
  | _ => false
def D.isNon : D → Bool
  | .non => true
  | _ => false
def alikeL (xs : List D) : Bool := (xs.all fun a => xs.all fun b => PySem.W.alike a.py b.py) && xs.all fun a => decide (a.deep ≤ 200)
def sortOk (xs : List D) : Bool := alikeL xs && xs.all D.isTup
def minOk (xs : List D) : Bool := alikeL xs && xs.all fun a => !a.isNon
def sortD (xs : List D) : List D := xs.mergeSort fun a b => !(b.lt a)
/-- the first of the least -/
def minT : D → List D → D
  | m, [] => m
  | m, x :: xs => minT (if x.lt m = true then x else m) xs
/-- the first of the greatest -/
def maxT : D → List D → D
  | m, [] => m
  | m, x :: xs => maxT (if m.lt x = true then x else m) xs
def minX : List D → Option Sl
  | [] => none
  | x :: r => if minOk (x :: r) = true then some (.im (minT x r)) else none
def maxX : List D → Option Sl
  | [] => none
  | x :: r => if minOk (x :: r) = true then some (.im (maxT x r)) else none
def b1D : Blt → D → Option Sl
  | .len, .tup xs => some (.im (.int xs.length))
  | .len, .lst xs => some (.im (.int xs.length))
  | .len, .str s => if s.length ≤ sizeLine then some (.im (.int s.length)) else none
  | .abs, .int i => some (.im (.int (if i < 0 then -i else i)))
  | .int, .int i => some (.im (.int i))
  | .int, .bl b => some (.im (.int (if b then 1 else 0)))
  | .str, .int i => if i.natAbs.log2 < 1920 then some (.im (.str (toString i))) else none
  | .sum, .lst xs => (allO D.i? xs).map fun ns => .im (.int ns.sum)
  | .sum, .tup xs => (allO D.i? xs).map fun ns => .im (.int ns.sum)
  | .all, .lst xs => (allO D.b? xs).map fun bs => .im (.bl (bs.all id))
  | .any, .lst xs => (allO D.b? xs).map fun bs => .im (.bl (bs.any id))
  | .tuple, .lst xs => some (.im (.tup xs))
  | .tuple, .tup xs => some (.im (.tup xs))
  | .list, .lst xs => some (.mu xs)
  | .list, .tup xs => some (.mu xs)
  | .min, .lst xs => (match allO D.i? xs with
    | some (n :: ns) => some (.im (.int (minI n ns)))
    | _ => minX xs)
  | .max, .lst xs => (match allO D.i? xs with
    | some (n :: ns) => some (.im (.int (maxI n ns)))
    | _ => maxX xs)
  | .min, .tup xs => minX xs
  | .max, .tup xs => maxX xs
  | .sorted, .lst xs => (match allO D.i? xs with
    | some ns => some (.mu ((sortI ns).map D.int))
    | none => if sortOk xs = true then some (.mu (sortD xs)) else none)
  | .sorted, .tup xs => (match allO D.i? xs with
    | some ns => some (.mu ((sortI ns).map D.int))
    | none => none)
  | .isInt, .non => some (.im (.bl false))
  | .isInt, .bl _ => some (.im (.bl true))
  | .isInt, .int _ => some (.im (.bl true))
  | .isInt, .str _ => some (.im (.bl false))
  | .isInt, .tup _ => some (.im (.bl false))
  | .isBool, .non => some (.im (.bl false))
  | .isBool, .bl _ => some (.im (.bl true))
  | .isBool, .int _ => some (.im (.bl false))
  | .isBool, .str _ => some (.im (.bl false))
  | .isBool, .tup _ => some (.im (.bl false))
  | .isTuple, .non => some (.im (.bl false))
  | .isTuple, .bl _ => some (.im (.bl false))
  | .isTuple, .int _ => some (.im (.bl false))
  | .isTuple, .str _ => some (.im (.bl false))
  | .isTuple, .tup _ => some (.im (.bl true))
  | .isStr, .non => some (.im (.bl false))
  | .isStr, .bl _ => some (.im (.bl false))
  | .isStr, .int _ => some (.im (.bl false))
  | .isStr, .str _ => some (.im (.bl true))
  | .isStr, .tup _ => some (.im (.bl false))
  | _, _ => none
def b2D : Blt → D → D → Option Sl
  | .min, .int i, .int j => some (.im (.int (if j < i then j else i)))
  | .max, .int i, .int j => some (.im (.int (if i < j then j else i)))
  | .gcd, .int i, .int j => some (.im (.int ((Nat.gcd i.natAbs j.natAbs : Nat) : Int)))
  | _, _, _ => none
def rngIn (i : Int) : Bool := decide (-(2 ^ 62) ≤ i ∧ i < 2 ^ 62)
def rngL (lo hi : Int) : List D := (List.range (hi - lo).toNat).map fun (n : Nat) => D.int (lo + (n : Int))
def enmL : Nat → List D → List D
  | _, [] => []
  | n, x :: xs => .tup [.int (n : Int), x] :: enmL (n + 1) xs
def zipL : List D → List D → List D
  | x :: xs, y :: ys => .tup [x, y] :: zipL xs ys
  | _, _ => []

def revD : D → Option Sl
  | .tup xs => some (.im (.tup xs.reverse))
  | .lst xs => some (.mu xs.reverse)
  | _ => none
/-- the first place of b -/
def inxL (b : D) : Nat → List D → Option Nat
  | _, [] => none
  | n, x :: xs => if x.eqv b = true then some n else inxL b (n + 1) xs
def inxD (xs : List D) (b : D) : Option Sl := if (D.lst xs).deep ≤ 64 ∧ b.deep ≤ 64 then (inxL b 0 xs).map fun (n : Nat) => Sl.im (.int (n : Int)) else none
/-- range(lo, hi, -1) -/
def rngdL (lo hi : Int) : List D := (List.range (lo - hi).toNat).map fun (n : Nat) => D.int (lo - (n : Int))

/-! ### the evaluator -/
/-- the slots of a target -/
def tgs : Tg → List Nat
  | .nm i => [i]
  | .nl => []
  | .cs t ts => tgs t ++ tgs ts
def asgT : Tg → D → Sls → Option Sls
  | .nm i, d, σ => some (σ.set i (.im d))
  | .nl, .tup [], σ => some σ
  | .cs t ts, .tup (x :: xs), σ => (match asgT t x σ with
    | some σ1 => asgT ts (.tup xs) σ1
    | none => none)
  | _, _, _ => none
def asgS : Tg → Sl → Sls → Option Sls
  | .nm i, .im d, σ => some (σ.set i (.im d))
  | .nm i, .mu ds, σ => some (σ.set i (.mu ds))
  | t, .im d, σ => asgT t d σ
  | _, _, _ => none
/-- the data of a value; of an operand (a name is looked at late) -/
def wd {α : Type} (s : Sl) (f : D → R α) : R α := match s with
  | .im d => f d
  | .mu ds => f (.lst ds)
  | _ => .bad
/-- a bound of a slice -/
def bd {α : Type} (s : Sl) (f : Option Int → R α) : R α := match s with
  | .im .non => f none
  | .im (.int i) => f (some i)
  | _ => .bad
def wo {α : Type} (a : IE) (σ : Sls) (s : Sl) (f : D → R α) : R α := match a with
  | .lv i => (match σ[i]? with
    | some s => wd s f
    | none => .bad)
  | _ => wd s f
def ofO {α : Type} (o : Option α) (σ : Sls) : R α := match o with
  | some a => .ok a σ
  | none => .bad
def wipeD (σ : Sls) : List Nat → Sls
  | [] => σ
  | v :: vs => (wipeD σ vs).set v .un
/-- the slots at own as in σ -/
def backD (σ σ' : Sls) : List Nat → Sls
  | [] => σ'
  | v :: vs => (match σ[v]? with
    | some s => (backD σ σ' vs).set v s
    | none => backD σ σ' vs)
def compF (own : List Nat) (t : Tg) (tst el : Sls → R Sl) : List D → Sls → R (List D)
  | [], σ => .ok [] σ
  | d :: ds, σ => match asgT t d (wipeD σ own) with
    | none => .bad
    | some σ1 => match tst σ1 with
      | .ok (.im (.bl false)) σ2 => compF own t tst el ds (backD σ σ2 own)
      | .ok (.im (.bl true)) σ2 => (match el σ2 with
        | .ok s σ3 => wd s fun y => (match compF own t tst el ds (backD σ σ3 own) with
          | .ok ys σ4 => .ok (y :: ys) σ4
          | _ => .bad)
        | _ => .bad)
      | _ => .bad
def callR (r : FR) (σ : Sls) : R Sl := match r with
  | .ok s _ => .ok s σ
  | .exc x => .exc x σ
  | .bad => .bad
def cioR (r : FR) (j : Nat) (σ : Sls) : R Sl := match r with
  | .ok s (.mu cs) => .ok s (σ.set j (.mu cs))
  | .exc x => .exc x (σ.set j .un)
  | _ => .bad

/-- what a lambda answers -/
def cloV (r : R Sl) : Option (Xn ⊕ D) := match r with
  | .ok (.im d) _ => some (.inr d)
  | .exc x _ => some (.inl x)
  | _ => none
def cloR (r : Option (Xn ⊕ D)) (σ : Sls) : R Sl := match r with
  | some (.inr d) => .ok (.im d) σ
  | some (.inl x) => .exc x σ
  | none => .bad
/-- only data, at the slots that are told -/
def maskS (caps : List Nat) (σ : Sls) : Sls := σ.mapIdx fun i s => match s with
  | .im d => if caps.contains i then .im d else .un
  | _ => .un
/-- exception classes: which is a subclass of which -/
abbrev Sub := Nat → Nat → Bool
def evE (sb : Sub) (cf : Nat → List Sl → FR) : IE → Sls → R Sl
  | .cst d, σ => .ok (.im d) σ
  | .glo d, σ => .ok (.im d) σ
  | .var i, σ => (match σ[i]? with
    | some (.im d) => .ok (.im d) σ
    | some (.mu ds) => .ok (.im (.lst ds)) (σ.set i (.im (.lst ds)))
    | _ => .bad)
  | .lv i, σ => (match σ[i]? with
    | some (.im _) => .ok .un σ
    | some (.mu _) => .ok .un σ
    | _ => .bad)
  | .nil, σ => .ok (.mu []) σ
  | .cons e es, σ => (evE sb cf e σ).bind fun x σ1 => wd x fun d => (evE sb cf es σ1).bind fun y σ2 => match y with
    | .mu ds => .ok (.mu (d :: ds)) σ2
    | _ => .bad
  | .tup es, σ => (evE sb cf es σ).bind fun y σ1 => match y with
    | .mu ds => if ds.length ≤ sizeLine then .ok (.im (.tup ds)) σ1 else .bad
    | _ => .bad
  | .lst es, σ => (evE sb cf es σ).bind fun y σ1 => match y with
    | .mu ds => if ds.length ≤ sizeLine then .ok (.mu ds) σ1 else .bad
    | _ => .bad
  | .bin o a b, σ => (evE sb cf a σ).bind fun x σ1 => (evE sb cf b σ1).bind fun y σ2 => wo a σ2 x fun p => wo b σ2 y fun q => ofO (bopD o p q) σ2
  | .rep a b, σ => (evE sb cf a σ).bind fun x σ1 => (evE sb cf b σ1).bind fun y σ2 => wo b σ2 y fun q => (match x, q with
    | .mu ds, .int j => if (-(2 ^ 63) ≤ j ∧ j < 2 ^ 63) ∧ ds.length * j.toNat ≤ sizeLine then .ok (.mu (List.replicate j.toNat ds).flatten) σ2 else .bad
    | _, _ => .bad)
  | .neg a, σ => (evE sb cf a σ).bind fun x σ1 => wo a σ1 x fun p => (match p with
    | .int i => .ok (.im (.int (-i))) σ1
    | _ => .bad)
  | .cmp o a b, σ => (evE sb cf a σ).bind fun x σ1 => (evE sb cf b σ1).bind fun y σ2 => wo a σ2 x fun p => wo b σ2 y fun q => (match copD o p q with
    | some k => .ok (.im (.bl k)) σ2
    | none => .bad)
  | .chn o p a b c, σ => (evE sb cf a σ).bind fun x σ1 => (evE sb cf b σ1).bind fun y σ2 => wo a σ2 x fun d1 => wo b σ2 y fun d2 => match copD o d1 d2 with
    | some false => .ok (.im (.bl false)) σ2
    | some true => (evE sb cf c σ2).bind fun z σ3 => wo b σ3 y fun d2 => wo c σ3 z fun d3 => (match copD p d2 d3 with
      | some k => .ok (.im (.bl k)) σ3
      | none => .bad)
    | none => .bad
  | .nt a, σ => (evE sb cf a σ).bind fun x σ1 => (match x with
    | .im (.bl k) => .ok (.im (.bl (!k))) σ1
    | _ => .bad)
  | .an a b, σ => (evE sb cf a σ).bind fun x σ1 => (match x with
    | .im (.bl true) => evE sb cf b σ1
    | .im (.bl false) => .ok (.im (.bl false)) σ1
    | _ => .bad)
  | .orr a b, σ => (evE sb cf a σ).bind fun x σ1 => (match x with
    | .im (.bl true) => .ok (.im (.bl true)) σ1
    | .im (.bl false) => evE sb cf b σ1
    | _ => .bad)
  | .tr a, σ => (evE sb cf a σ).bind fun x σ1 => wo a σ1 x fun p => (match truD p with
    | some k => .ok (.im (.bl k)) σ1
    | none => .bad)
  | .ite c a b, σ => (evE sb cf c σ).bind fun x σ1 => (match x with
    | .im (.bl true) => evE sb cf a σ1
    | .im (.bl false) => evE sb cf b σ1
    | _ => .bad)
  | .idx a i, σ => (evE sb cf a σ).bind fun x σ1 => (evE sb cf i σ1).bind fun y σ2 => wo a σ2 x fun p => wo i σ2 y fun q => (match idxD p q with
    | some d => .ok (.im d) σ2
    | none => .bad)
  | .slc a lo hi, σ => (evE sb cf a σ).bind fun x σ1 => (evE sb cf lo σ1).bind fun y σ2 => bd y fun l => (evE sb cf hi σ2).bind fun z σ3 => bd z fun h => wo a σ3 x fun p => ofO (slcD p l h) σ3
  | .call f es, σ => (evE sb cf es σ).bind fun y σ1 => (match y with
    | .mu ds => callR (cf f (ds.map .im)) σ1
    | _ => .bad)
  | .cio f j es, σ => (match σ[j]? with
    | some (.mu _) => (evE sb cf es σ).bind fun y σ1 => (match y, σ1[j]? with
      | .mu ds, some (.mu cs) => cioR (cf f (.mu cs :: ds.map .im)) j σ1
      | _, _ => .bad)
    | _ => .bad)
  | .b1 f a, σ => (evE sb cf a σ).bind fun x σ1 => wo a σ1 x fun p => ofO (b1D f p) σ1
  | .b2 f a b, σ => (evE sb cf a σ).bind fun x σ1 => (evE sb cf b σ1).bind fun y σ2 => wo a σ2 x fun p => wo b σ2 y fun q => ofO (b2D f p q) σ2
  | .rng1 a, σ => (evE sb cf a σ).bind fun x σ1 => wd x fun p => (match p with
    | .int k => if rngIn k = true then .ok (.mu (rngL 0 k)) σ1 else .bad
    | _ => .bad)
  | .rng2 a b, σ => (evE sb cf a σ).bind fun x σ1 => wd x fun p => (evE sb cf b σ1).bind fun y σ2 => wd y fun q => (match p, q with
    | .int l, .int k => if rngIn l = true ∧ rngIn k = true then .ok (.mu (rngL l k)) σ2 else .bad
    | _, _ => .bad)
  | .lrg tp a b, σ => (evE sb cf a σ).bind fun x σ1 => wd x fun p => (evE sb cf b σ1).bind fun y σ2 => wd y fun q => (match p, q with
    | .int l, .int k => if (rngIn l = true ∧ rngIn k = true) ∧ (k - l).toNat ≤ 16777216 then .ok (if tp = true then .im (.tup (rngL l k)) else .mu (rngL l k)) σ2 else .bad
    | _, _ => .bad)
  | .enm a, σ => (evE sb cf a σ).bind fun x σ1 => wd x fun p => (match p.its? with
    | some ds => .ok (.mu (enmL 0 ds)) σ1
    | none => .bad)
  | .zip a b, σ => (evE sb cf a σ).bind fun x σ1 => wd x fun p => (evE sb cf b σ1).bind fun y σ2 => wd y fun q => (match p, q with
    | .tup xs, .tup ys => .ok (.mu (zipL xs ys)) σ2
    | .lst xs, .lst ys => .ok (.mu (zipL xs ys)) σ2
    | .tup xs, .lst ys => .ok (.mu (zipL xs ys)) σ2
    | _, _ => .bad)
  | .comp own t it c e, σ => (evE sb cf it σ).bind fun x σ1 => wd x fun p => (match p.its? with
    | some ds => (compF own t (fun σ => evE sb cf c σ) (fun σ => evE sb cf e σ) ds σ1).bind fun ys σ2 => if ys.length ≤ sizeLine then .ok (.mu ys) σ2 else .bad
    | none => .bad)
  | .pop i, σ => (match σ[i]? with
    | some (.mu ds) => (match ds.getLast? with
      | some x => .ok (.im x) (σ.set i (.mu ds.dropLast))
      | none => .bad)
    | _ => .bad)
  | .isx i c, σ => (match σ[i]? with
    | some (.exn ⟨x, none⟩) => .ok (.im (.bl (sb x c))) σ
    | _ => .bad)
  | .rev a, σ => (evE sb cf a σ).bind fun x σ1 => wo a σ1 x fun p => ofO (revD p) σ1
  | .popat i e, σ => (match σ[i]? with
    | some (.mu _) => (evE sb cf e σ).bind fun y σ1 => wd y fun q => (match σ1[i]?, q with
      | some (.mu ds), .int k => if rngIn k = true then (match L2.ixN ds.length k with
        | some n => (match ds[n]? with
          | some x => .ok (.im x) (σ1.set i (.mu (ds.eraseIdx n)))
          | none => .bad)
        | none => .bad) else .bad
      | _, _ => .bad)
    | _ => .bad)
  | .inx i e, σ => (match σ[i]? with
    | some (.mu _) => (evE sb cf e σ).bind fun y σ1 => wd y fun q => (match σ1[i]? with
      | some (.mu ds) => ofO (inxD ds q) σ1
      | _ => .bad)
    | _ => .bad)
  | .rngd a b, σ => (evE sb cf a σ).bind fun x σ1 => wd x fun p => (evE sb cf b σ1).bind fun y σ2 => wd y fun q => (match p, q with
    | .int l, .int k => if rngIn l = true ∧ rngIn k = true then .ok (.mu (rngdL l k)) σ2 else .bad
    | _, _ => .bad)
  | .xcd i, σ => (match σ[i]? with
    | some (.exn ⟨_, some d⟩) => .ok (.im d) σ
    | _ => .bad)
  | .clc i, σ => (match σ[i]? with
    | some (.clo f) => cloR (f []) σ
    | _ => .bad)
  | .hof f caps b, σ => (match cf f [.clo fun _ => cloV (evE sb cf b (maskS caps σ))] with
    | .ok s _ => .ok s σ
    | _ => .bad)

def unx : Sl → Sl
  | .exn _ => .un
  | s => s
def forF (t : Tg) (body : Sls → R Fl) : List D → Sls → R Fl
  | [], σ => .ok .nx σ
  | d :: ds, σ => match asgT t d σ with
    | none => .bad
    | some σ1 => match body σ1 with
      | .ok .nx σ2 => forF t body ds σ2
      | .ok .ct σ2 => forF t body ds σ2
      | .ok .bk σ2 => .ok .nx σ2
      | .ok (.rt s) σ2 => .ok (.rt s) σ2
      | .exc x σ2 => .exc x σ2
      | .bad => .bad
def whlF (c : Sls → R Sl) (body : Sls → R Fl) : Nat → Sls → R Fl
  | 0, _ => .bad
  | n + 1, σ => match c σ with
    | .ok (.im (.bl false)) σ1 => .ok .nx σ1
    | .ok (.im (.bl true)) σ1 => (match body σ1 with
      | .ok .nx σ2 => whlF c body n σ2
      | .ok .ct σ2 => whlF c body n σ2
      | .ok .bk σ2 => .ok .nx σ2
      | .ok (.rt s) σ2 => .ok (.rt s) σ2
      | .exc x σ2 => .exc x σ2
      | .bad => .bad)
    | .exc x σ2 => .exc x σ2
    | _ => .bad
def evS (W : Nat) (sb : Sub) (cf : Nat → List Sl → FR) : IS → Sls → R Fl
  | .skip, σ => .ok .nx σ
  | .seq a b, σ => (evS W sb cf a σ).bind fun f σ1 => (match f with
    | .nx => evS W sb cf b σ1
    | f => .ok f σ1)
  | .asg t e, σ => (evE sb cf e σ).bind fun x σ1 => (match asgS t x σ1 with
    | some σ2 => .ok .nx σ2
    | none => .bad)
  | .par i j a b, σ => (evE sb cf a σ).bind fun x σ1 => wd x fun p => (evE sb cf b σ1).bind fun y σ2 => wd y fun q => .ok .nx ((σ2.set i (.im p)).set j (.im q))
  | .aug i o e, σ => (match σ[i]? with
    | some (.im (.int a)) => (evE sb cf e σ).bind fun y σ1 => wd y fun q => (match bopD o (.int a) q with
      | some (.im (.int d)) => .ok .nx (σ1.set i (.im (.int d)))
      | _ => .bad)
    | _ => .bad)
  | .six i ix e, σ => (evE sb cf e σ).bind fun y σ1 => wd y fun q => (match σ1[i]? with
    | some (.mu _) => (evE sb cf ix σ1).bind fun z σ2 => wo ix σ2 z fun p => (match σ2[i]?, p with
      | some (.mu ds), .int k => (match L2.ixN ds.length k with
        | some n => .ok .nx (σ2.set i (.mu (ds.set n q)))
        | none => .bad)
      | _, _ => .bad)
    | _ => .bad)
  | .exp e, σ => (evE sb cf e σ).bind fun _ σ1 => .ok .nx σ1
  | .app i e, σ => (match σ[i]? with
    | some (.mu _) => (evE sb cf e σ).bind fun y σ1 => wd y fun q => (match σ1[i]? with
      | some (.mu ds) => if ds.length < sizeLine then .ok .nx (σ1.set i (.mu (ds ++ [q]))) else .bad
      | _ => .bad)
    | _ => .bad)
  | .ext i e, σ => (match σ[i]? with
    | some (.mu _) => (evE sb cf e σ).bind fun y σ1 => (match y, σ1[i]? with
      | .mu es, some (.mu ds) => if ds.length + es.length ≤ sizeLine then .ok .nx (σ1.set i (.mu (ds ++ es))) else .bad
      | _, _ => .bad)
    | _ => .bad)
  | .ags i ix o e, σ => (match σ[i]? with
    | some (.mu _) => (evE sb cf ix σ).bind fun z σ1 => wo ix σ1 z fun p => (match σ1[i]?, p with
      | some (.mu ds), .int k => (match L2.ixN ds.length k with
        | some n => (match ds[n]? with
          | some (.int x) => (evE sb cf e σ1).bind fun y σ2 => wd y fun q => (match bopD o (.int x) q, σ2[i]? with
            | some (.im (.int d)), some (.mu ds2) => if ds2.length = ds.length then .ok .nx (σ2.set i (.mu (ds2.set n (.int d)))) else .bad
            | _, _ => .bad)
          | _ => .bad)
        | none => .bad)
      | _, _ => .bad)
    | _ => .bad)
  | .cond c a b, σ => (evE sb cf c σ).bind fun x σ1 => (match x with
    | .im (.bl true) => evS W sb cf a σ1
    | .im (.bl false) => evS W sb cf b σ1
    | _ => .bad)
  | .whl c b, σ => whlF (fun σ => evE sb cf c σ) (fun σ => evS W sb cf b σ) W σ
  | .fr t it b, σ => (evE sb cf it σ).bind fun x σ1 => wd x fun p => (match p.its? with
    | some ds => forF t (fun σ => evS W sb cf b σ) ds σ1
    | none => .bad)
  | .ret e, σ => (evE sb cf e σ).bind fun x σ1 => .ok (.rt x) σ1
  | .rtv i, σ => (match σ[i]? with
    | some (.im d) => .ok (.rt (.im d)) σ
    | some (.mu ds) => .ok (.rt (.mu ds)) (σ.set i .un)
    | _ => .bad)
  | .rtn, σ => .ok (.rt (.im .non)) σ
  | .brk, σ => .ok .bk σ
  | .cnt, σ => .ok .ct σ
  | .rse x, σ => .exc ⟨x, none⟩ σ
  | .rsc x e, σ => (evE sb cf e σ).bind fun y σ1 => wd y fun d => .exc ⟨x, some d⟩ σ1
  | .try1 b c i h, σ => (match evS W sb cf b σ with
    | .exc x σ1 => if sb x.cls x.cls = true then (if sb x.cls c = true then (match i with
        | some i => (match evS W sb cf h (σ1.set i (.exn x)) with
          | .ok f σ2 => .ok f ((σ2.map unx).set i .un)
          | _ => .bad)
        | none => (match evS W sb cf h σ1 with
          | .ok f σ2 => .ok f (σ2.map unx)
          | _ => .bad)) else .exc x σ1) else .bad
    | r => r)

/-- a def: parameters, slots, whether its first parameter is changed by it, its body -/
structure FnI where
  np : Nat
  ns : Nat
  io : Bool
  body : IS
def callK (W : Nat) (sb : Sub) (prog : List FnI) : Nat → Nat → List Sl → FR
  | 0, _, _ => .bad
  | k + 1, fi, args => match prog[fi]? with
    | none => .bad
    | some f => if args.length = f.np then (match evS W sb (callK W sb prog k) f.body (args ++ List.replicate (f.ns - f.np) .un) with
      | .ok (.rt s) σ => .ok s (if f.io = true then (σ[0]?).getD .un else .un)
      | .ok .nx σ => .ok (.im .non) (if f.io = true then (σ[0]?).getD .un else .un)
      | .exc x _ => .exc x
      | _ => .bad) else .bad
end Rf
/-! R2: from the text to the small language. -/
namespace Rf
open PySem

/-- what a body's names mean -/
structure CE where
  N : List Str
  sc : Scope
  fns : List (Str × Nat × Bool)
  cst : List (Str × D)
  exs : List Str
  blt : List Str
  io : Bool
  hot : Bool := false
  /-- exceptions that are raised with a text -/
  rs : List Str := []
  /-- exceptions that keep a code -/
  rc : List Str := []
  /-- defs that get a lambda and call it -/
  hfs : List Str := []
  /-- the parameter of the def that is a lambda; whether the def makes lambdas -/
  clo : Option (Str × Nat) := none
  lam : Bool := false

def goodName (x : Str) : Bool := !(x == ("__debug__" : Str)) && !(x == ("__classdict__" : Str))
def visB (sc : Scope) (x : Str) : Bool := match sc.names.lookup x with
  | some .local => true
  | some .cell => true
  | some .free => true
  | _ => false
def locB (sc : Scope) (x : Str) : Bool := match sc.names.lookup x with
  | some .local => true
  | some .cell => true
  | _ => false
def glB (sc : Scope) (x : Str) : Bool := match sc.names.lookup x with
  | some .globalImplicit => true
  | _ => false
def ixS (x : Str) : List Str → Option Nat
  | [] => none
  | y :: r => if x = y then some 0 else (ixS x r).map (· + 1)
def CE.slot (c : CE) (x : Str) : Option Nat := if visB c.sc x && goodName x then ixS x c.N else none
def CE.tgt (c : CE) (x : Str) : Option Nat := if locB c.sc x && goodName x then
    (match ixS x c.N with
      | some i => if c.io && i == 0 then none else some i
      | none => none) else none
def CE.gl (c : CE) (x : Str) : Bool := glB c.sc x && goodName x
def ixF (x : Str) : List (Str × Nat × Bool) → Option (Nat × Nat × Bool)
  | [] => none
  | (y, m, b) :: r => if x = y then some (0, m, b) else (ixF x r).map fun q => (q.1 + 1, q.2)
def CE.fn (c : CE) (x : Str) : Option (Nat × Nat × Bool) := if c.gl x then ixF x c.fns else none
def CE.con (c : CE) (x : Str) : Option D := if c.gl x then c.cst.lookup x else none
def CE.isB (c : CE) (x : Str) : Bool := c.gl x && c.blt.contains x
def CE.exc (c : CE) (x : Str) : Option Nat := if c.gl x then ixS x c.exs else none

def cBin : Operator → Option BOp
  | .Add => some .add
  | .Sub => some .sub
  | .Mult => some .mul
  | .FloorDiv => some .fdv
  | .Mod => some .mod
  | .Pow => some .pow
  | _ => none
def cCmp : CmpOp → Option COp
  | .Eq => some .eq
  | .NotEq => some .ne
  | .Lt => some .lt
  | .LtE => some .le
  | .Gt => some .gt
  | .GtE => some .ge
  | .In => some .isin
  | .NotIn => some .notin
  | .Is => none
  | .IsNot => none
def isSet : Expr → Bool
  | .Set .. => true
  | _ => false
def isTupT : Expr → Bool
  | .Tuple .. => true
  | _ => false
def isSlice : Expr → Bool
  | .Slice .. => true
  | _ => false
def isStar : Expr → Bool
  | .Starred .. => true
  | _ => false
def isLc : Expr → Bool
  | .ListComp .. => true
  | .SetComp .. => true
  | .DictComp .. => true
  | _ => false
def bltTy (x : Str) : Option Blt := if x = "int" then some .isInt else if x = "bool" then some .isBool else if x = "tuple" then some .isTuple else if x = "str" then some .isStr else if x = "list" then some .isList else none
def blt1 (x : Str) : Option Blt :=
  if x = "len" then some .len else if x = "abs" then some .abs else if x = "int" then some .int else if x = "sum" then some .sum else if x = "all" then some .all
  else if x = "any" then some .any else if x = "tuple" then some .tuple else if x = "list" then some .list else if x = "sorted" then some .sorted else if x = "min" then some .min else if x = "max" then some .max else none
def blt2 (x : Str) : Option Blt := if x = "min" then some .min else if x = "max" then some .max else none
/-- the names of a comprehension's own, with their slots -/
def ownOf (N : List Str) : List (Str × NameKind) → List (Str × Nat)
  | [] => []
  | (x, .local) :: r => (match ixS x N with
    | some i => (x, i) :: ownOf N r
    | none => ownOf N r)
  | (x, .cell) :: r => (match ixS x N with
    | some i => (x, i) :: ownOf N r
    | none => ownOf N r)
  | _ :: r => ownOf N r

/-- a list of expressions -/
def listL (E : Expr → Option IE) : List Expr → Option IE
  | [] => some .nil
  | e :: es => if isStar e then none else match E e, listL E es with
    | some t, some ts => some (.cons t ts)
    | _, _ => none
def noLv : Option IE → Option IE
  | some (.lv _) => none
  | r => r
/-- an operand: a name is looked at late -/
def opA (c : CE) (E : Expr → Option IE) (e : Expr) : Option IE := match e with
  | .Name x _ => (match c.slot x with
    | some i => some (.lv i)
    | none => noLv (E e))
  | e => noLv (E e)
def listT (T : Expr → Option Tg) : List Expr → Option Tg
  | [] => some .nl
  | e :: es => if isStar e then none else match T e, listT T es with
    | some t, some ts => some (.cs t ts)
    | _, _ => none
def o2 (f : IE → IE → IE) : Option IE → Option IE → Option IE
  | some a, some b => some (f a b)
  | _, _ => none
def o3 (f : IE → IE → IE → IE) : Option IE → Option IE → Option IE → Option IE
  | some a, some b, some d => some (f a b d)
  | _, _, _ => none
/-- and, or: of any length -/
def chainB (f : IE → IE → IE) (E : Expr → Option IE) : List Expr → Option IE
  | [] => none
  | [e] => E e
  | e :: es => o2 f (E e) (chainB f E es)
def cTg : Nat → CE → Expr → Option Tg
  | 0, _, _ => none
  | _ + 1, c, .Name x _ => (c.tgt x).map .nm
  | n + 1, c, .Tuple es _ _ => if c.hot then none else listT (cTg n c) es
  | _, _, _ => none
/-- a call of a built-in of one argument, of two -/
def cB2 (c : CE) (E : Expr → Option IE) (f : Str) (e e2 : Expr) : Option IE :=
  if f = "isinstance" then (match e2 with
    | .Name t _ => if c.isB t then (match bltTy t with
        | some b => (opA c E e).map (.b1 b)
        | none => none)
      else (match c.exc t, e with
        | some k, .Name x _ => (c.slot x).map fun i => .isx i k
        | _, _ => none)
    | _ => none)
  else if f = "gcd" then o2 (.b2 .gcd) (opA c E e) (opA c E e2)
  else (match blt2 f with
    | some b => if c.hot then none else o2 (.b2 b) (opA c E e) (opA c E e2)
    | none => none)
def cCall (c : CE) (E : Expr → Option IE) (f : Str) (e : Expr) (es : List Expr) : Option IE := match c.fn f with
  | some (fi, np, io) => if c.hot || isStar e || np != es.length + 1 then none else if io then
      (match e with
        | .Name x _ => (match c.slot x with
          | some j => (listL E es).map (.cio fi j)
          | none => none)
        | _ => none)
    else (listL E (e :: es)).map (.call fi)
  | none => if c.isB f && !isStar e then (match es with
      | [] => (match blt1 f with
        | some b => if c.hot && (b == .min || b == .max || b == .sorted || b == .sum || b == .all || b == .any) then none else (opA c E e).map (.b1 b)
        | none => none)
      | [e2] => if isStar e2 then none else cB2 c E f e e2
      | _ => none)
    else none

/-- the slots of the names that a lambda takes from around it -/
def capsOf (N : List Str) : List (Str × NameKind) → List Nat
  | [] => []
  | (x, .free) :: r => (match ixS x N with
    | some i => i :: capsOf N r
    | none => capsOf N r)
  | _ :: r => capsOf N r
def noArgs (a : Arguments) : Bool := a.posonlyargs.isEmpty && a.args.isEmpty && a.vararg.isNone && a.kwonlyargs.isEmpty && a.kw_defaults.isEmpty && a.kwarg.isNone && a.defaults.isEmpty
def isRevSl : Expr → Bool
  | .Slice none none (some (.UnaryOp .USub (.Constant (.int 1) _ _) _)) _ => true
  | _ => false
/-- a list or a tuple of a range -/
def rgC (c : CE) (f r : Str) : Bool := c.isB f && c.isB r && (r == ("range" : Str)) && ((f == ("list" : Str)) || (f == ("tuple" : Str))) && !c.hot
mutual
def cE : Nat → CE → Expr → Option IE
  | 0, _, _ => none
  | n + 1, c, e => match e with
    | .Name x _ => (match c.slot x with
      | some i => some (.var i)
      | none => (c.con x).map .glo)
    | .Constant .none _ _ => some (.cst .non)
    | .Constant (.bool b) _ _ => some (.cst (.bl b))
    | .Constant (.int i) _ _ => some (.cst (.int i))
    | .Constant (.str s) _ _ => if PyData.strOk s then some (.cst (.str s)) else none
    | .Tuple es _ _ => (listL (cE n c) es).map .tup
    | .List es _ => (listL (cE n c) es).map .lst
    | .BinOp (.List es p) .Mult b _ => o2 .rep ((listL (cE n c) es).map .lst) (opA c (cE n c) b)
    | .BinOp a o b _ => (match cBin o with
      | some o => o2 (.bin o) (opA c (cE n c) a) (opA c (cE n c) b)
      | none => none)
    | .UnaryOp .USub a _ => (opA c (cE n c) a).map .neg
    | .UnaryOp .Not a _ => (opA c (cE n c) a).map fun a => .nt (.tr a)
    | .BoolOp .And es _ => chainB .an (cE n c) es
    | .BoolOp .Or es _ => chainB .orr (cE n c) es
    | .Compare a [.Is] [.Constant .none _ _] _ => (opA c (cE n c) a).map fun a => .cmp .isn a (.cst .non)
    | .Compare a [.IsNot] [.Constant .none _ _] _ => (opA c (cE n c) a).map fun a => .cmp .isnn a (.cst .non)
    | .Compare a [o] [b] _ => if isSet b then none else (match cCmp o with
      | some o => o2 (.cmp o) (opA c (cE n c) a) (opA c (cE n c) b)
      | none => none)
    | .Compare a [o, p] [b, d] _ => if isSet d then none else (match cCmp o, cCmp p with
      | some o, some p => o3 (.chn o p) (opA c (cE n c) a) (opA c (cE n c) b) (opA c (cE n c) d)
      | _, _ => none)
    | .IfExp t a b _ => o3 .ite (cT n c t) (cE n c a) (cE n c b)
    | .Subscript a (.Slice lo hi none _) _ => o3 .slc (opA c (cE n c) a) (match lo with
        | none => some (.cst .non)
        | some e => cE n c e) (match hi with
        | none => some (.cst .non)
        | some e => cE n c e)
    | .Subscript a (.Slice none none (some (.UnaryOp .USub (.Constant (.int 1) _ _) _)) _) _ => (opA c (cE n c) a).map .rev
    | .Subscript a i _ => if isSlice i then none else o2 .idx (opA c (cE n c) a) (opA c (cE n c) i)
    | .Attribute (.Name x _) m _ => if c.hot && m == ("code" : Str) then (match c.slot x with
        | some i => some (.xcd i)
        | none => none) else none
    | .Call (.Name f _) [] [] _ => (match c.clo with
        | some (a, i) => if f == a && !c.hot then some (.clc i) else none
        | none => (match c.fn f with
          | some (fi, np, io) => if np == 0 && !io && !c.hot then some (.call fi .nil) else none
          | none => none))
    | .Call (.Name f _) [.Lambda ps body scope _] [] _ => (match c.fn f with
        | some (fi, np, io) => if c.hfs.contains f && np == 1 && !io && c.lam && !c.hot && LamX.lamSB c.sc scope && noArgs ps then
            (cE n { c with sc := scope, clo := none, lam := false } body).map (.hof fi (capsOf c.N scope.names)) else none
        | none => none)
    | .Call (.Name f _) [.Call (.Name r rp) [a] [] cp] [] _ => if rgC c f r then (if isStar a then none else (cE n c a).map (.lrg (f == ("tuple" : Str)) (.cst (.int 0)))) else cCall c (cE n c) f (.Call (.Name r rp) [a] [] cp) []
    | .Call (.Name f _) [.Call (.Name r rp) [a, b] [] cp] [] _ => if rgC c f r then (if isStar a || isStar b then none else o2 (.lrg (f == ("tuple" : Str))) (cE n c a) (cE n c b)) else cCall c (cE n c) f (.Call (.Name r rp) [a, b] [] cp) []
    | .Call (.Name f _) (e :: es) [] _ => cCall c (cE n c) f e es
    | .Call (.Attribute (.Name x _) m apos) [] [] cpos => if m = "pop" && !c.hot && (apos.endLine == cpos.line) then (match c.slot x with
        | some i => some (.pop i)
        | none => none) else none
    | .Call (.Attribute (.Name x _) m apos) [a] [] cpos => if !c.hot && !isStar a && (apos.endLine == cpos.line) then (match c.slot x with
        | some i => if m = "pop" then (cE n c a).map (.popat i) else if m = "index" then (cE n c a).map (.inx i) else none
        | none => none) else none
    | .ListComp e [⟨t0, it, ifs, as⟩] scope _ =>
      if !(as == 0) || c.hot || isSet it || !L2.blkC c.N c.sc scope (ownOf c.N scope.names) || ((ownOf c.N scope.names).any fun p => c.io && p.2 == 0) then none
      else (match cTg n { c with sc := scope, clo := none, lam := false } t0, (match ifs with
          | [] => some (IE.cst (.bl true))
          | [q] => cT n { c with sc := scope, clo := none, lam := false } q
          | _ => none) with
        | some t, some q => if (tgs t).all fun i => ((ownOf c.N scope.names).map (·.2)).contains i then o2 (fun it e => .comp ((ownOf c.N scope.names).map (·.2)) t it q e) (cI n c (isTupT t0) it) (cE n { c with sc := scope, clo := none, lam := false } e) else none
        | _, _ => none)
    | _ => none
/-- a test -/
def cT : Nat → CE → Expr → Option IE
  | 0, _, _ => none
  | n + 1, c, e => match e with
    | .BoolOp .And es _ => chainB .an (cT n c) es
    | .BoolOp .Or es _ => chainB .orr (cT n c) es
    | .UnaryOp .Not a _ => (cT n c a).map .nt
    | .Compare a [.Is] [.Constant .none _ _] _ => (opA c (cE n c) a).map fun a => .cmp .isn a (.cst .non)
    | .Compare a [.IsNot] [.Constant .none _ _] _ => (opA c (cE n c) a).map fun a => .cmp .isnn a (.cst .non)
    | .Compare a [o] [b] _ => if isSet b then none else (match cCmp o with
      | some o => o2 (.cmp o) (opA c (cE n c) a) (opA c (cE n c) b)
      | none => none)
    | .Compare a [o, p] [b, d] _ => if isSet d then none else (match cCmp o, cCmp p with
      | some o, some p => o3 (.chn o p) (opA c (cE n c) a) (opA c (cE n c) b) (opA c (cE n c) d)
      | _, _ => none)
    | .Name x _ => (c.slot x).map fun i => .tr (.lv i)
    | .Call .. => (noLv (cE n c e)).map .tr
    | .Constant .. => (noLv (cE n c e)).map .tr
    | .Subscript .. => (noLv (cE n c e)).map .tr
    | .BinOp .. => (noLv (cE n c e)).map .tr
    | _ => none
/-- what a loop goes over (tt: by a tuple of names) -/
def cI : Nat → CE → Bool → Expr → Option IE
  | 0, _, _, _ => none
  | n + 1, c, tt, e => match e with
    | .Call (.Name f _) [a] [] _ => if c.isB f && (f == ("range" : Str)) then (if isStar a then none else (cE n c a).map .rng1)
      else if c.isB f && (f == ("enumerate" : Str)) then (if isStar a || c.hot || !tt then none else (cE n c a).map .enm)
      else cE n c e
    | .Call (.Name f _) [a, b] [] _ => if c.isB f && (f == ("range" : Str)) then (if isStar a || isStar b then none else o2 .rng2 (cE n c a) (cE n c b))
      else if c.isB f && (f == ("zip" : Str)) then (if isStar a || isStar b || c.hot || !tt then none else o2 .zip (cE n c a) (cE n c b))
      else cE n c e
    | e => cE n c e
end

/-! ### statements -/
def isTup : Expr → Bool
  | .Tuple .. => true
  | .List .. => true
  | _ => false
/-- «name = [.. for ..]» on one line is a statement of its own -/
def sameLine (py : Pos) (e : Expr) : Bool := py.line == e.pos.line
def ownName (y : Str) : Expr → Bool
  | .ListComp _ _ scope _ => scope.names.any fun q => q.1 == y && (q.2 == .local || q.2 == .cell)
  | _ => false
def parOf (ts : List Expr) (e : Expr) : Option (Str × Str × Expr × Expr) := match ts, e with
  | [.Name x _, .Name y _], .Tuple [a, b] _ _ => some (x, y, a, b)
  | _, _ => none
def _root_.L2.isFold (a b : Expr) : Bool := foldedForSure 8 a && foldedForSure 8 b
/-- the two names are stored from the right -/
def parC (c : CE) (x y : Str) (ts : List Expr) (a b : Expr) : Bool := match ts with
  | [.Name _ px, .Name _ py] => !(x == y) && !isStar a && !isStar b && c.sc.names.lookup x == some .local && c.sc.names.lookup y == some .local && py.line == px.line && !(L2.isFold a b) && !(constantsAlone 8 a && constantsAlone 8 b)
  | _ => false
def cAug : Operator → Option BOp
  | .Add => some .add
  | .Sub => some .sub
  | .Mult => some .mul
  | _ => none
def ssq (f : Stmt → Option IS) : List Stmt → Option IS
  | [] => some .skip
  | [s] => f s
  | s :: r => match f s, ssq f r with
    | some a, some b => some (.seq a b)
    | _, _ => none
/-- a suite behind except: names are set, a value is returned, nothing is called -/
def cHot1 (c : CE) : Stmt → Option IS
  | .Return (some e) _ => (cE 60 c e).map .ret
  | .Pass _ => some .skip
  | .Assign [.Name x _] e _ => if isLc e then none else (match c.tgt x, cE 60 c e with
    | some i, some e => some (.asg (.nm i) e)
    | _, _ => none)
  | _ => none
def cHot (c : CE) (l : List Stmt) : Option IS := ssq (cHot1 { c with hot := true }) l
def cS : Nat → CE → Stmt → Option IS
  | 0, _, _ => none
  | n + 1, c, st => match st with
    | .Assign [.Name x px] e pos => if isLc e then (if sameLine px e && !ownName x e then (if visB c.sc x && (c.sc.names.lookup x == some .local) then (match c.tgt x, cE 60 c e with
            | some i, some e => some (.asg (.nm i) e)
            | _, _ => none) else if c.sc.names.lookup x == some .cell then (match c.tgt x, cE 60 c e with
            | some i, some e => some (.asg (.nm i) e)
            | _, _ => none) else none) else none)
        else (match c.tgt x, cE 60 c e with
          | some i, some e => some (.asg (.nm i) e)
          | _, _ => none)
    | .Assign [.Tuple ts kt pt] e pos => if c.hot then none else (match parOf ts e with
      | some (x, y, a, b) => (match c.tgt x, c.tgt y with
        | some i, some j => if parC c x y ts a b then (match cE 60 c a, cE 60 c b with
            | some a, some b => some (.par i j a b)
            | _, _ => none) else if L2.isFold a b then (match cTg 60 c (.Tuple ts kt pt), cE 60 c e with
            | some t, some e => some (.asg t e)
            | _, _ => none) else none
        | _, _ => none)
      | none => if isTup e || isLc e then none else (match cTg 60 c (.Tuple ts kt pt), cE 60 c e with
        | some t, some e => some (.asg t e)
        | _, _ => none))
    | .Assign [.Subscript (.Name x _) i _] e pos => if isLc e || isSlice i then none else (match c.slot x, opA c (cE 60 c) i, cE 60 c e with
      | some j, some i, some e => some (.six j i e)
      | _, _, _ => none)
    | .AugAssign (.Name x _) o e _ => (match c.tgt x, cAug o, cE 60 c e with
      | some i, some o, some e => some (.aug i o e)
      | _, _, _ => none)
    | .AugAssign (.Subscript (.Name x _) ix _) o e _ => if isSlice ix then none else (match c.slot x, opA c (cE 60 c) ix, cAug o, cE 60 c e with
      | some i, some ix, some o, some e => some (.ags i ix o e)
      | _, _, _, _ => none)
    | .Expr (.Call (.Attribute (.Name x _) m apos) [a] [] cpos) _ => if m = "append" && !isStar a && (apos.endLine == cpos.line) then (match c.slot x, cE 60 c a with
        | some i, some a => some (.app i a)
        | _, _ => none) else if m = "extend" && !isStar a && (apos.endLine == cpos.line) then (match c.slot x, cE 60 c a with
        | some i, some a => some (.ext i a)
        | _, _ => none) else none
    | .Expr (.Call (.Name f p) (a :: as) [] q) _ => (cE 60 c (.Call (.Name f p) (a :: as) [] q)).map .exp
    | .If t a b _ => (match cT 60 c t, ssq (cS n c) a, ssq (cS n c) b with
      | some t, some a, some b => some (.cond t a b)
      | _, _, _ => none)
    | .While t b [] _ => (match cT 60 c t, ssq (cS n c) b with
      | some t, some b => some (.whl t b)
      | _, _ => none)
    | .For t it b [] _ => if isSet it || c.hot then none else (match cTg 60 c t, cI 60 c (isTupT t) it, ssq (cS n c) b with
      | some t, some it, some b => some (.fr t it b)
      | _, _, _ => none)
    | .Return (some (.Name x p)) _ => (match c.slot x with
      | some i => if c.io && i == 0 then none else some (.rtv i)
      | none => (cE 60 c (.Name x p)).map .ret)
    | .Return (some e) _ => (cE 60 c e).map .ret
    | .Return none _ => some .rtn
    | .Break _ => some .brk
    | .Continue _ => some .cnt
    | .Pass _ => some .skip
    | .Raise (some (.Call (.Name x _) [.Constant (.str s) k p] [] _)) none _ => if c.hot then none else if c.rs.contains x then (c.exc x).map .rse
        else if c.rc.contains x then (match c.exc x, cE 60 c (.Constant (.str s) k p) with
          | some i, some e => some (.rsc i e)
          | _, _ => none) else none
    | .Try b [.ExceptHandler (some (.Name x _)) nm (h :: hs) _] [] [] _ => if c.hot then none else (match c.exc x with
      | some k => (match ssq (cS n c) b, cHot c (h :: hs) with
        | some b, some h => (match nm with
          | none => some (.try1 b k none h)
          | some y => if c.sc.names.lookup y == some .local then (match c.tgt y with
            | some i => some (.try1 b k (some i) h)
            | none => none) else none)
        | _, _ => none)
      | none => none)
    | _ => none
def cB (c : CE) (b : List Stmt) : Option IS := ssq (cS 60 c) b
end Rf
/-! R3: data in the heap. -/
namespace Rf
open PySem PySem.Spec PyProof.Rows L2

/-- a list that is never written -/
def FrL (H : Hp) (a : Addr) (xs : List V) : Prop := ∃ o, H a = some (.frz o (.lst xs))
theorem FrL.rd {H : Hp} {a : Addr} {xs : List V} (h : FrL H a xs) : Rd H a (.lst xs) := .inr h
mutual
/-- immutable data stands in the heap -/
def Fz (K : PySem.W.Frag) (H : Hp) : D → V → Prop
  | .non, v => v = .non
  | .bl b, v => v = .bl b
  | .int i, v => v = .int i
  | .str s, v => v = .str s ∧ PyData.strOk s = true
  | .tup ds, v => ∃ a xs, v = .ref a ∧ SqT K H a xs ∧ FzL K H ds xs
  | .lst ds, v => ∃ a xs, v = .ref a ∧ FrL H a xs ∧ FzL K H ds xs
def FzL (K : PySem.W.Frag) (H : Hp) : List D → List V → Prop
  | [], xs => xs = []
  | d :: ds, xs => ∃ x r, xs = x :: r ∧ Fz K H d x ∧ FzL K H ds r
end
/-- what is no list under work stays -/
def Keep (H H' : Hp) : Prop := ∀ a o, H a = some o → (∀ xs, o ≠ .lst xs) → (∀ ps, o ≠ .tbl ps) → H' a = some o
section
variable {K : PySem.W.Frag} {H H' : Hp}
theorem Keep.sqT (k : Keep H H') {a : Addr} {xs : List V} (h : SqT K H a xs) : SqT K H' a xs := by
  rcases h with (h | ⟨o, h⟩) | h
  · exact .inl (.inl (k _ _ h (fun _ e => nomatch e) fun _ e => nomatch e))
  · exact .inl (.inr ⟨o, k _ _ h (fun _ e => nomatch e) fun _ e => nomatch e⟩)
  · exact .inr h
theorem Keep.frL (k : Keep H H') {a : Addr} {xs : List V} (h : FrL H a xs) : FrL H' a xs := by
  obtain ⟨o, h⟩ := h
  exact ⟨o, k _ _ h (fun _ e => nomatch e) fun _ e => nomatch e⟩
mutual
theorem Keep.fz (k : Keep H H') : ∀ (d : D) (v : V), Fz K H d v → Fz K H' d v
  | .non, _, h => h
  | .bl _, _, h => h
  | .int _, _, h => h
  | .str _, _, h => h
  | .tup ds, v, h => by
    obtain ⟨a, xs, e, s, l⟩ := h
    exact ⟨a, xs, e, k.sqT s, Keep.fzL k ds xs l⟩
  | .lst ds, v, h => by
    obtain ⟨a, xs, e, s, l⟩ := h
    exact ⟨a, xs, e, k.frL s, Keep.fzL k ds xs l⟩
theorem Keep.fzL (k : Keep H H') : ∀ (ds : List D) (xs : List V), FzL K H ds xs → FzL K H' ds xs
  | [], _, h => h
  | d :: ds, xs, h => by
    obtain ⟨x, r, e, hx, hr⟩ := h
    exact ⟨x, r, e, Keep.fz k d x hx, Keep.fzL k ds r hr⟩
end
theorem Keep.refl : Keep H H := fun _ _ h _ _ => h
theorem Keep.same (s : Same H H') : Keep H H' := fun a o h _ _ => s a o h
theorem Keep.trans {H1 : Hp} (a : Keep H H1) (b : Keep H1 H') : Keep H H' := fun c o h n m => b c o (a c o h n m) n m
/-- all but lists stays: tables, too -/
def KeepA (H H' : Hp) : Prop := ∀ a o, H a = some o → (∀ xs, o ≠ .lst xs) → H' a = some o
theorem KeepA.keep (k : KeepA H H') : Keep H H' := fun a o h n _ => k a o h n
theorem KeepA.same (s : Same H H') : KeepA H H' := fun a o h _ => s a o h
theorem codeO_lst {c : Addr} {q : Str} (xs : List V) : LamX.CodeO c q ≠ .lst xs := fun z => by
  unfold LamX.CodeO at z
  cases z
theorem KeepA.tabs {T : List (Addr × Str)} (k : KeepA H H') (t : LamX.Tabs T H) : LamX.Tabs T H' := fun p hp => by
  obtain ⟨ps, h1, h2, h3⟩ := t p hp
  refine ⟨ps, k _ _ h1 (fun _ e => nomatch e), h2, fun pos cv hc => ?_⟩
  obtain ⟨c, e1, e2⟩ := h3 pos cv hc
  exact ⟨c, e1, k _ _ e2 codeO_lst⟩
theorem same_new {a : Addr} {o : HO} (n : H a = none) : Same H (upd H a o) := fun b x e => by
  rw [upd_ne (ne_of_none e n)]
  exact e
theorem FzL.length : ∀ {ds : List D} {xs : List V}, FzL K H ds xs → xs.length = ds.length
  | [], _, h => by rw [h]; rfl
  | d :: ds, xs, h => by
    obtain ⟨x, r, e, _, hr⟩ := h
    rw [e, List.length_cons, List.length_cons, FzL.length hr]
theorem FzL.get : ∀ {ds : List D} {xs : List V} {i : Nat} {d : D}, FzL K H ds xs → ds[i]? = some d → ∃ x, xs[i]? = some x ∧ Fz K H d x
  | [], _, _, _, _, e => by simp at e
  | d :: ds, xs, 0, d', h, e => by
    obtain ⟨x, r, e1, hx, _⟩ := h
    have e2 : d = d' := by simpa using e
    exact ⟨x, by rw [e1]; rfl, e2 ▸ hx⟩
  | d :: ds, xs, i + 1, d', h, e => by
    obtain ⟨x, r, e1, _, hr⟩ := h
    obtain ⟨y, g, z⟩ := FzL.get (i := i) hr (by simpa using e)
    exact ⟨y, by rw [e1]; simpa using g, z⟩
theorem FzL.get' : ∀ {ds : List D} {xs : List V} {i : Nat} {x : V}, FzL K H ds xs → xs[i]? = some x → ∃ d, ds[i]? = some d ∧ Fz K H d x := by
  intro ds xs i x h e
  have hl := h.length
  obtain ⟨hi, _⟩ := List.getElem?_eq_some_iff.mp e
  obtain ⟨y, g, z⟩ := h.get (i := i) (d := ds[i]'(by omega)) (List.getElem?_eq_getElem _)
  rw [e] at g; cases g
  exact ⟨_, List.getElem?_eq_getElem _, z⟩
theorem FzL.append : ∀ {ds es : List D} {xs ys : List V}, FzL K H ds xs → FzL K H es ys → FzL K H (ds ++ es) (xs ++ ys)
  | [], _, _, _, h, g => by rw [h]; exact g
  | d :: ds, es, xs, ys, h, g => by
    obtain ⟨x, r, e1, hx, hr⟩ := h
    subst e1
    exact ⟨x, r ++ ys, rfl, hx, FzL.append hr g⟩
theorem FzL.drop : ∀ (n : Nat) {ds : List D} {xs : List V}, FzL K H ds xs → FzL K H (ds.drop n) (xs.drop n)
  | 0, _, _, h => h
  | n + 1, [], _, h => by rw [h]; exact rfl
  | n + 1, d :: ds, _, h => by
    obtain ⟨x, r, e1, _, hr⟩ := h
    subst e1
    exact FzL.drop n hr
theorem FzL.take : ∀ (n : Nat) {ds : List D} {xs : List V}, FzL K H ds xs → FzL K H (ds.take n) (xs.take n)
  | 0, _, _, h => rfl
  | n + 1, [], _, h => by rw [h]; exact rfl
  | n + 1, d :: ds, _, h => by
    obtain ⟨x, r, e1, hx, hr⟩ := h
    subst e1
    exact ⟨x, r.take n, rfl, hx, FzL.take n hr⟩
theorem FzL.set {d : D} {x : V} (hx : Fz K H d x) : ∀ (n : Nat) {ds : List D} {xs : List V}, FzL K H ds xs → FzL K H (ds.set n d) (xs.set n x)
  | _, [], _, h => by rw [h]; exact rfl
  | 0, e :: ds, _, h => by
    obtain ⟨y, r, e1, _, hr⟩ := h
    subst e1
    exact ⟨x, r, rfl, hx, hr⟩
  | n + 1, e :: ds, _, h => by
    obtain ⟨y, r, e1, hy, hr⟩ := h
    subst e1
    exact ⟨y, r.set n x, rfl, hy, FzL.set hx n hr⟩
theorem FzL.one {d : D} {x : V} (h : Fz K H d x) : FzL K H [d] [x] := ⟨x, [], rfl, h, rfl⟩
theorem FzL.cut (lo hi : Option Int) {ds : List D} {xs : List V} (h : FzL K H ds xs) : FzL K H (cutD ds lo hi) (cutV xs lo hi) := by
  have e := h.length
  unfold cutD cutV
  rw [e]
  exact (h.drop _).take _
/-! ### data for comparisons -/
mutual
theorem Fz.dp : ∀ (d : D) (v : V), Fz K H d v → Dp K H v d.py
  | .non, _, h => by rw [h]; exact .non
  | .bl b, _, h => by rw [h]; exact .bl b
  | .int i, _, h => by rw [h]; exact .int i
  | .str s, _, h => by rw [h.1]; exact .str s
  | .tup ds, v, h => by
    obtain ⟨a, xs, e, s, l⟩ := h
    rw [e]
    exact .tup s (FzL.dps ds xs l)
  | .lst ds, v, h => by
    obtain ⟨a, xs, e, s, l⟩ := h
    rw [e]
    exact .lst (.inl s.rd) (FzL.dps ds xs l)
theorem FzL.dps : ∀ (ds : List D) (xs : List V), FzL K H ds xs → DpAll K H xs (D.pys ds)
  | [], _, h => by rw [h]; exact .nil
  | d :: ds, xs, h => by
    obtain ⟨x, r, e, hx, hr⟩ := h
    rw [e]
    exact .cons (Fz.dp d x hx) (FzL.dps ds r hr)
end
mutual
theorem Fz.lay : ∀ (d : D) (v : V), Fz K H d v → d.py.canLay0 = true
  | .non, _, h => by simp [D.py, PyData.canLay0]
  | .bl b, _, h => by simp [D.py, PyData.canLay0]
  | .int i, _, h => by simp [D.py, PyData.canLay0]
  | .str s, _, h => by simpa [D.py, PyData.canLay0] using h.2
  | .tup ds, v, h => by
    obtain ⟨a, xs, e, s, l⟩ := h
    simpa [D.py, PyData.canLay0] using FzL.lays ds xs l
  | .lst ds, v, h => by
    obtain ⟨a, xs, e, s, l⟩ := h
    simpa [D.py, PyData.canLay0] using FzL.lays ds xs l
theorem FzL.lays : ∀ (ds : List D) (xs : List V), FzL K H ds xs → PyData.canLayAll0 (D.pys ds) = true
  | [], _, h => by simp [D.pys, PyData.canLayAll0]
  | d :: ds, xs, h => by
    obtain ⟨x, r, e, hx, hr⟩ := h
    simp only [D.pys, PyData.canLayAll0, Fz.lay d x hx, FzL.lays ds r hr, Bool.and_self]
end
/-- data that can be read: immutable, or a list under work -/
def See (K : PySem.W.Frag) (H : Hp) : D → V → Prop
  | .lst ds, v => ∃ a xs, v = .ref a ∧ Rd H a (.lst xs) ∧ FzL K H ds xs
  | d, v => Fz K H d v
theorem Fz.see : ∀ {d : D} {v : V}, Fz K H d v → See K H d v
  | .non, _, h => h
  | .bl _, _, h => h
  | .int _, _, h => h
  | .str _, _, h => h
  | .tup _, _, h => h
  | .lst _, _, h => by
    obtain ⟨a, xs, e, s, l⟩ := h
    exact ⟨a, xs, e, s.rd, l⟩
theorem See.dp : ∀ {d : D} {v : V}, See K H d v → Dp K H v d.py
  | .non, _, h => Fz.dp .non _ h
  | .bl _, _, h => Fz.dp (.bl _) _ h
  | .int _, _, h => Fz.dp (.int _) _ h
  | .str _, _, h => Fz.dp (.str _) _ h
  | .tup _, _, h => Fz.dp (.tup _) _ h
  | .lst _, _, h => by
    obtain ⟨a, xs, e, s, l⟩ := h
    rw [e]
    exact .lst (.inl s) (FzL.dps _ xs l)
theorem See.lay : ∀ {d : D} {v : V}, See K H d v → d.py.canLay0 = true
  | .non, _, h => Fz.lay (K := K) (H := H) .non _ h
  | .bl _, _, h => Fz.lay (K := K) (H := H) (.bl _) _ h
  | .int _, _, h => Fz.lay (K := K) (H := H) (.int _) _ h
  | .str _, _, h => Fz.lay (K := K) (H := H) (.str _) _ h
  | .tup _, _, h => Fz.lay (K := K) (H := H) (.tup _) _ h
  | .lst _, _, h => by
    obtain ⟨a, xs, e, s, l⟩ := h
    simpa [D.py, PyData.canLay0] using FzL.lays _ xs l
end

/-! ### a list under work is locked -/
section
variable {X : Cx} {pins : List (Addr × Obj)} {σ : L2.St} {H : Hp} {s : Shared}
theorem frz_hok {P : Program} {w : World} {h : Heap} {a : Addr} {xs : List V} {o : Obj} (x : HOk P w H h) (e : H a = some (.lst xs)) (ho : h.get? a = some o) : HOk P w (upd H a (.frz o (.lst xs))) h := fun b u q => by
  by_cases hb : b = a
  · subst hb
    rw [upd_same] at q; cases q
    exact ⟨ho, x b _ e⟩
  · rw [upd_ne hb] at q
    refine (x b u q).stay (fun c v _ r => r) (fun c r => ?_) fun c ys r => ?_
    · rw [upd_ne (ne_of r e (by intro z; cases z))]
      exact r
    · rw [upd_ne (ne_of r e (by intro z; cases z))]
      exact r
theorem Inv.frzL (I : Inv X pins σ H s) {a : Addr} {xs : List V} (e : H a = some (.lst xs)) : ∃ o, Inv X pins σ (upd H a (.frz o (.lst xs))) s := by
  obtain ⟨z, its, n, r, ho⟩ := I.hok a _ e
  refine ⟨_, ⟨I.ok, I.os, I.bare, ⟨I.base.keep, I.base.slot, fun b o e1 n1 hx => ?_, I.base.there, fun b xs q => ?_, fun b o u q => ?_, fun b ps q => ?_⟩, I.loc, I.cell, ?_, fun x c h => ?_, fun p hp => ?_, frz_hok I.hok e ho, I.len⟩⟩
  · have f := I.base.free b o e1 n1 hx
    rw [upd_ne (show b ≠ a from fun q => by rw [q, e] at f; cases f)]
    exact f
  · have f := I.base.tups b xs q
    rw [upd_ne (ne_of f e (by intro z; cases z))]
    exact f
  · have f := I.base.frzs b o u q
    rw [upd_ne (ne_of f e (by intro z; cases z))]
    exact f
  · obtain ⟨m, f⟩ := I.base.tbls b ps q
    refine ⟨m, ?_⟩
    rw [upd_ne (ne_of f e (by intro z; cases z))]
    exact f
  · rw [upd_ne (Ne.symm (ne_of_none e I.free))]
    exact I.free
  · rw [upd_ne (Ne.symm (ne_of_none e (I.freeC x c h)))]
    exact I.freeC x c h
  · obtain ⟨p1, p2, p3, p4, p5⟩ := I.pin p hp
    refine ⟨p1, ?_, p3, p4, p5⟩
    rw [upd_ne (Ne.symm (ne_of_none e p2))]
    exact p2
/-- a wish that may lock the value -/
def FrzQ (Q : VK) : VK := fun v H1 => Q v H1 ∨ ∃ a xs, H1 a = some (.lst xs) ∧ ∀ o, Q v (upd H1 a (.frz o (.lst xs)))
theorem pe_frz {e : Expr} {t : TE} (h : PE X e t) : PE X e (fun σ H Q => t σ H (FrzQ Q)) := by
  refine ⟨fun pins s σ H Q I hw => thn (h.run pins s σ H _ I hw) fun u s1 ⟨v, H1, I1, r, q⟩ => ?_⟩
  rcases q with q | ⟨a, xs, e, q⟩
  · exact ⟨v, H1, I1, r, q⟩
  · obtain ⟨o, I2⟩ := Inv.frzL I1 e
    exact ⟨v, _, I2, r, q o⟩
theorem _root_.L2.PE.weak {e : Expr} {t t' : TE} (h : PE X e t) (w : ∀ σ H Q, t' σ H Q → t σ H Q) : PE X e t' := ⟨fun pins s σ H Q I hw => h.run pins s σ H Q I (w σ H Q hw)⟩
theorem _root_.L2.PT.weak {e : Expr} {t t' : TT} (h : PT X e t) (w : ∀ σ H Q, t' σ H Q → t σ H Q) : PT X e t' := ⟨fun pins s σ H Q I hw => h.run pins s σ H Q I (w σ H Q hw)⟩
theorem _root_.L2.PA.weak {e : List Expr} {t t' : TA} (h : PA X e t) (w : ∀ σ H Q, t' σ H Q → t σ H Q) : PA X e t' := ⟨fun pos pins s σ H Q I hw => h.run pos pins s σ H Q I (w σ H Q hw)⟩
theorem _root_.L2.PS.weak {e : Stmt} {t t' : TS} (h : PS X e t) (w : ∀ D σ H, t' D σ H → t D σ H) : PS X e t' := ⟨fun pins s σ H D I hw => h.run pins s σ H D I (w D σ H hw)⟩
theorem _root_.L2.PSs.weak {e : List Stmt} {t t' : TS} (h : PSs X e t) (w : ∀ D σ H, t' D σ H → t D σ H) : PSs X e t' := ⟨fun pins s σ H D I hw => h.run pins s σ H D I (w D σ H hw)⟩
theorem _root_.L2.PG.weak {e : Expr} {t t' : TG} (h : PG X e t) (w : ∀ v σ H Q, t' v σ H Q → t v σ H Q) : PG X e t' := ⟨fun pins s σ H v u Q I r hw => h.run pins s σ H v u Q I r (w v σ H Q hw)⟩
theorem _root_.L2.PI.weak {tg e : Expr} {t t' : TI} (h : PI X tg e t) (w : ∀ σ H Q, t' σ H Q → t σ H Q) : PI X tg e t' := ⟨fun pins s σ H Q I hw => h.run pins s σ H Q I (w σ H Q hw)⟩
theorem _root_.L2.PI.or {tg e : Expr} {t t' : TI} (h : PI X tg e t) (h' : PI X tg e t') : PI X tg e (fun σ H R => t σ H R ∨ t' σ H R) :=
  ⟨fun pins s σ H Q I hw => hw.elim (h.run pins s σ H Q I) (h'.run pins s σ H Q I)⟩
end
end Rf
/-! S2: tuple * 1, tuple * 0. -/
namespace Rf
open PySem PySem.Spec PyProof.Rows L2
theorem tuple_mul1 (l : Addr) (items : Array Value) (n : Nat) (dd : Option Addr) (sl : Array (Option Value)) (u : Tok) :
    Meets (Builtin.«tuple.__mul__» ⟨[.ref l, .int 1 u], []⟩) (fun _ R s => s.heap.get? l = some { cls := .type "tuple", dict := dd, data := .seq items n, slots := sl } ∧ R (.ok (.ret (Value.ref l))) { s with heap := s.heap, toks := s.toks }) :=
  .of_wp fun prog w A R s h => by
    obtain ⟨hp, g, d, tk, os⟩ := s
    obtain ⟨hl, h⟩ := h
    have f1 := AutoSeq1.idx_int
    have hc1 : (items.isEmpty || (1 : Int) == 1) = true := by simp
    wp_walk using wpAny_loadPart' hl
    all_goals try (exact ⟨_, rfl, h⟩)
theorem tuple_mul0 (l : Addr) (items : Array Value) (n : Nat) (dd : Option Addr) (sl : Array (Option Value)) (u : Tok) (c1 : (items.isEmpty || (0 : Int) == 1) = false) :
    Meets (Builtin.«tuple.__mul__» ⟨[.ref l, .int 0 u], []⟩) (fun _ R s => s.heap.get? l = some { cls := .type "tuple", dict := dd, data := .seq items n, slots := sl } ∧ R (.ok (.ret (Value.ref s.heap.objs.size))) { s with heap := s.heap.push { cls := Value.type "tuple", data := Data.seq #[] }, toks := s.toks }) :=
  .of_wp fun prog w A R s h => by
    obtain ⟨hp, g, d, tk, os⟩ := s
    obtain ⟨hl, h⟩ := h
    have f1 := AutoSeq1.idx_int
    wp_walk using wpAny_loadPart' hl
    repeat (first
      | (refine wpAny_ite_false (decide_eq_false (by rw [c1]; exact Bool.false_ne_true)) ?_; wp_walk using wpAny_loadPart' hl)
      | (refine wpAny_ite_true (decide_eq_true (by simp)) ?_; wp_walk using wpAny_loadPart' hl))
    all_goals try (exact ⟨_, rfl, h⟩)
def rRepU (K : PySem.W.Frag) : R2 := fun x y H Q => ∃ l k xs, x = .ref l ∧ y = .int k ∧ SqT K H l xs ∧ xs ≠ [] ∧ ((k = 1 ∧ Q (.ref l) H) ∨ (k = 0 ∧ ∀ p, H p = none → Q (.ref p) (upd H p (.tup []))))
section
variable {X : Cx}
theorem op_repU : OpR X (binaryOp .Mult) (rRepU X.K) := by
  intro pins s σ H x y v u Q I rx ry h
  obtain ⟨l, k, xs, rfl, rfl, hT, hne, h⟩ := h
  cases rx
  obtain ⟨t, rfl⟩ := ry
  obtain ⟨its, r, ⟨⟨cls, dd, data, sl⟩, ho, hc, n, hd⟩, hs⟩ := I.tuple hT
  simp only at hc hd
  subst hc hd
  have hle : its.length = xs.length := r.length.symm
  have hn : its ≠ [] := fun e => hne (by
    rw [e] at hle
    exact List.eq_nil_of_length_eq_zero hle.symm)
  have hi : its.toArray.isEmpty = false := by
    cases its with
    | nil => exact absurd rfl hn
    | cons a b => rfl
  rcases h with ⟨rfl, q⟩ | ⟨rfl, q⟩
  · exact wpAny_binaryOp_repeat_ref (T := "tuple") (U := "int") (by decide) ⟨_, ho, rfl⟩ (fun s' => typeIs_int s' 1 t) noFill_tuple_mul F.fills_int_mul F.slot_int_rmul repeat_tuple F.slot_int_index.lookup
      (call_meets F.slot_int_rmul (typeIs_int s 1 t) F.entry_int_rmul (F.args_int_rmul_2 _ _) (int_rmul_tuple 1 t l its.toArray n dd sl)
        ⟨ho, rfl, ⟨_, ho, rfl⟩, call_meets F.slot_tuple_mul ⟨_, ho, rfl⟩ F.entry_tuple_mul (F.args_tuple_mul_2 _ _) (tuple_mul1 l its.toArray n dd sl t) ⟨ho, .ref l, H, I, rfl, q⟩⟩)
  · refine wpAny_binaryOp_repeat_ref (T := "tuple") (U := "int") (by decide) ⟨_, ho, rfl⟩ (fun s' => typeIs_int s' 0 t) noFill_tuple_mul F.fills_int_mul F.slot_int_rmul repeat_tuple F.slot_int_index.lookup
      (call_meets F.slot_int_rmul (typeIs_int s 0 t) F.entry_int_rmul (F.args_int_rmul_2 _ _) (int_rmul_tuple 0 t l its.toArray n dd sl)
        ⟨ho, rfl, ⟨_, ho, rfl⟩, call_meets F.slot_tuple_mul ⟨_, ho, rfl⟩ F.entry_tuple_mul (F.args_tuple_mul_2 _ _) (tuple_mul0 l its.toArray n dd sl t (by rw [hi]; rfl)) ⟨ho, ?_⟩⟩)
    refine ⟨.ref s.heap.objs.size, _, I.laid (t' := s.toks) (o := .tup []) (fun b ob q => Heap.get?_push_of_some _ q) (Nat.le_refl _) ?_, rfl, q _ (I.hok.fresh (Nat.le_refl _))⟩
    exact ⟨by rw [sizeLine_eq]; exact Nat.zero_le _, [], .nil, IsTup.new _ _⟩
end
end Rf
/-! S3: sorted of a tuple of ints. -/
namespace Rf
open PySem PySem.Spec PyProof.Rows L2
def rSortedTI (K : PySem.W.Frag) : List V → Hp → VK → Prop := fun vs H Q => ∃ (a : Addr) (ns : List Int), vs = [V.ref a] ∧ SqT K H a (ns.map V.int) ∧ ∀ (ns' : List Int) (p : Addr), ns'.Perm ns → ns'.Pairwise (· ≤ ·) → H p = none → Q (.ref p) (upd H p (.lst (ns'.map V.int)))
section
variable {X : Cx}
theorem cr_sortedTI : CallR X (.builtin "sorted") (rSortedTI X.K) := by
  intro pins s σ H vs us Q I r h
  obtain ⟨a, ns, rfl, hs, q⟩ := h
  obtain ⟨its, rv, ⟨⟨cls, dd, data, sl⟩, ho, hc, n, hd⟩, hz⟩ := I.tuple hs
  rw [Vals.ref1 r]
  have hi := rv.ints
  have hz' : its.length ≤ sizeLine := by rw [← rv.length]; exact hz
  refine Calls.call_function_entry kind_sorted plain_sorted entry_sorted (args_sorted1 _) ?_
  unfold Builtin.«sorted»
  refine wpAny_bind (m := checkCount "sorted" 1 1 _) (wpAny_pure ?_)
  refine wpAny_bind (wpAny_collect_seq a (T := "tuple") (.inr rfl) ho hc hd (fun h' keep => ?_) (by rw [List.size_toArray]; exact hz'))
  have I2 : Inv X pins σ H { s with heap := h' } := I.kept keep
  refine wpAny_bind (wpAny_newList ?_ hz')
  have hoL : (h'.push (seqObj "list" its.toArray 0)).get? h'.objs.size = some (seqObj "list" its.toArray 0) := Heap.get?_push_size _ rfl
  show wpAny _ _ _ _ _ { s with heap := h'.push (seqObj "list" its.toArray 0) }
  refine wpAny_bind (wpAny_holding (wpAny_call_entry slot_list_sort ⟨_, hoL, rfl⟩ entry_list_sort (SrtO.list_sort_ord SrtO.swo_int hoL hz' (fun h2 => SrtO.ints_sortable hi h2) fun out h1 h2 => ⟨_, rfl, ?_⟩) (args_list_sort _)))
  obtain ⟨k1, k2, k3⟩ := SrtO.ints_out hi h1 h2
  obtain ⟨ep, he'⟩ := PyProof.Rows.sortedHeap_at (vs := its) (out := out.toArray) hoL
  have hlen : ((out.map SrtO.iv).map V.int).length ≤ sizeLine := by
    rw [List.length_map, k2.length_eq]
    rw [List.length_map] at hz
    exact hz
  refine wpAny_pure ⟨_, rfl, ?_⟩
  exact ⟨.ref _, upd H h'.objs.size (.lst ((out.map SrtO.iv).map V.int)), I2.laid (t' := s.toks) (fun b u hu => by
    rw [PyProof.Rows.sortedHeap_old (Nat.ne_of_lt (Heap.lt_size hu)) (Heap.lt_size (Heap.get?_push_of_some _ hu))]
    exact Heap.get?_push_of_some _ hu) (Nat.le_refl _) ⟨hlen, out, ep, vals_of_ints k1, he'⟩, rfl, q _ _ k2 k3 (I2.hok.fresh (Nat.le_refl _))⟩
end
end Rf
/-! R4: operations on data. -/
namespace Rf
open PySem PySem.Spec PyProof.Rows L2

/-- a result: nothing that stood is changed -/
def ResR (K : PySem.W.Frag) (H : Hp) (s : Sl) (v : V) (H' : Hp) : Prop := Same H H' ∧ match s with
  | .im d => Fz K H' d v
  | .mu ds => ∃ a xs, v = .ref a ∧ H a = none ∧ H' a = some (.lst xs) ∧ FzL K H' ds xs
  | _ => False
def rD (K : PySem.W.Frag) (g : D → D → Option Sl) : R2 := fun x y H Q => ∃ d e s, See K H d x ∧ See K H e y ∧ g d e = some s ∧ ∀ v H', ResR K H s v H' → Q v H'
def rDB (K : PySem.W.Frag) (g : D → D → Option Bool) : R2 := fun x y H Q => ∃ d e k, See K H d x ∧ See K H e y ∧ g d e = some k ∧ Q (.bl k) H
def rD1 (K : PySem.W.Frag) (g : D → Option Sl) : List V → Hp → VK → Prop := fun xs H Q => ∃ d s x, xs = [x] ∧ See K H d x ∧ g d = some s ∧ ∀ v H', ResR K H s v H' → Q v H'
def rD2 (K : PySem.W.Frag) (g : D → D → Option Sl) : List V → Hp → VK → Prop := fun xs H Q => ∃ d e s x y, xs = [x, y] ∧ See K H d x ∧ See K H e y ∧ g d e = some s ∧ ∀ v H', ResR K H s v H' → Q v H'
section
variable {K : PySem.W.Frag} {H : Hp}
theorem res_im {d : D} {v : V} (h : Fz K H d v) : ResR K H (.im d) v H := ⟨fun _ _ h => h, h⟩
theorem res_int {i : Int} : ResR K H (.im (.int i)) (.int i) H := res_im rfl
theorem res_bl {b : Bool} : ResR K H (.im (.bl b)) (.bl b) H := res_im rfl
theorem res_tup {ds : List D} {xs : List V} (h : FzL K H ds xs) (p : Addr) (n : H p = none) : ResR K H (.im (.tup ds)) (.ref p) (upd H p (.tup xs)) :=
  ⟨same_new n, p, xs, rfl, .inl (.inl upd_same), Keep.fzL (Keep.same (same_new n)) ds xs h⟩
theorem res_lst {ds : List D} {xs : List V} (h : FzL K H ds xs) (p : Addr) (n : H p = none) : ResR K H (.mu ds) (.ref p) (upd H p (.lst xs)) :=
  ⟨same_new n, p, xs, rfl, n, upd_same, Keep.fzL (Keep.same (same_new n)) ds xs h⟩
theorem FzL.nil_iff {ds : List D} {xs : List V} (h : FzL K H ds xs) : xs = [] ↔ ds = [] := by
  have e := h.length
  constructor
  · intro z; rw [z] at e; exact List.eq_nil_of_length_eq_zero e.symm
  · intro z; rw [z] at e; exact List.eq_nil_of_length_eq_zero e
theorem strOk_app {x y : Str} (hx : PyData.strOk x = true) (hy : PyData.strOk y = true) : PyData.strOk (x ++ y) = true := by
  have e : (x ++ y).cps = x.cps ++ y.cps := rfl
  unfold PyData.strOk at *
  rw [e, Array.all_append, hx, hy]; rfl
theorem FzL.rep {ds : List D} {xs : List V} (h : FzL K H ds xs) : ∀ n : Nat, FzL K H (List.replicate n ds).flatten (List.replicate n xs).flatten
  | 0 => rfl
  | n + 1 => by
    rw [List.replicate_succ, List.replicate_succ, List.flatten_cons, List.flatten_cons]
    exact h.append (FzL.rep h n)
end
section
variable {X : Cx}
theorem cat_ok {pins : List (Addr × Obj)} {s : Shared} {σ : L2.St} {H : Hp} {Q : VK} {a b : Addr} {xs ys : List V} (I : Inv X pins σ H s) (ha : Rd H a (.lst xs)) (hb : Rd H b (.lst ys)) (hz : xs.length + ys.length ≤ sizeLine)
    (q : ∀ p, H p = none → Q (.ref p) (upd H p (.lst (xs ++ ys)))) : wpAny (model X.prog X.w) X.A (binaryOp .Add (.ref a) (.ref b)) (EP X pins σ Q) X.xe s := by
  obtain ⟨_, i1, n1, r1, e1⟩ := ha.ok I.hok
  obtain ⟨_, i2, n2, r2, e2⟩ := hb.ok I.hok
  have l1 := r1.length
  have l2 := r2.length
  refine PySem.P.add_list e1 e2 ?_ (by rw [List.size_toArray, List.size_toArray, ← l1, ← l2]; exact hz)
  have z : i1.toArray ++ i2.toArray = (i1 ++ i2).toArray := by simp
  rw [z]
  exact ⟨.ref _, _, I.lnew (t' := s.toks) (r1.append r2) (by rw [List.length_append]; exact hz), rfl, q _ I.fresh⟩
theorem bop_add : OpR X (binaryOp .Add) (rD X.K (bopD .add)) := by
  intro pins s σ H x y v u Q I rx ry h
  obtain ⟨d, e, r, hd, he, hg, q⟩ := h
  cases d <;> cases e <;> simp only [bopD] at hg <;> first | (cases hg; done) | skip
  case int.int i j =>
    cases hg
    exact op_add pins s σ H x y v u Q I rx ry ⟨i, j, hd, he, q _ _ res_int⟩
  case str.str i j =>
    split at hg
    · rename_i hz
      cases hg
      exact op_add_str pins s σ H x y v u Q I rx ry ⟨i, j, hd.1, he.1, hz, q _ _ (res_im ⟨rfl, strOk_app hd.2 he.2⟩)⟩
    · cases hg
  case tup.tup ds es =>
    split at hg
    · rename_i hz
      cases hg
      obtain ⟨a, xs, ea, sa, la⟩ := hd
      obtain ⟨b, ys, eb, sb, lb⟩ := he
      refine op_catA pins s σ H x y v u Q I rx ry ⟨a, b, xs, ys, ea, eb, sa, sb, by rw [la.length, lb.length]; exact hz, fun z => ?_, fun _ z => ?_, fun _ _ p n => q _ _ (res_tup (la.append lb) p n)⟩
      · have z2 := la.nil_iff.mp z
        subst z2
        exact q _ _ (res_im ⟨b, ys, rfl, sb, by simpa using lb⟩)
      · have z2 := lb.nil_iff.mp z
        subst z2
        exact q _ _ (res_im ⟨a, xs, rfl, sa, by simpa using la⟩)
    · cases hg
  case lst.lst ds es =>
    split at hg
    · rename_i hz
      cases hg
      obtain ⟨a, xs, ea, sa, la⟩ := hd
      obtain ⟨b, ys, eb, sb, lb⟩ := he
      subst ea eb
      cases rx
      cases ry
      exact cat_ok I sa sb (by rw [la.length, lb.length]; exact hz) fun p n => q _ _ (res_lst (la.append lb) p n)
    · cases hg
theorem bop_sub : OpR X (binaryOp .Sub) (rD X.K (bopD .sub)) := by
  intro pins s σ H x y v u Q I rx ry h
  obtain ⟨d, e, r, hd, he, hg, q⟩ := h
  cases d <;> cases e <;> simp only [bopD] at hg <;> first | (cases hg; done) | skip
  case int.int i j =>
    cases hg
    exact op_sub pins s σ H x y v u Q I rx ry ⟨i, j, hd, he, q _ _ res_int⟩
theorem bop_mul : OpR X (binaryOp .Mult) (rD X.K (bopD .mul)) := by
  intro pins s σ H x y v u Q I rx ry h
  obtain ⟨d, e, r, hd, he, hg, q⟩ := h
  cases d <;> cases e <;> simp only [bopD] at hg <;> first | (cases hg; done) | skip
  case int.int i j =>
    split at hg
    · rename_i hz
      cases hg
      exact op_mulW pins s σ H x y v u Q I rx ry ⟨i, j, hd, he, show i.natAbs.log2 + j.natAbs.log2 < 1000000 from of_decide_eq_true hz, q _ _ res_int⟩
    · cases hg
  case tup.int ds j =>
    split at hg
    · rename_i hz
      cases hg
      obtain ⟨⟨h1, h2⟩, h3, h4⟩ := hz
      obtain ⟨a, xs, ea, sa, la⟩ := hd
      have hne : xs ≠ [] := fun z => h3 (la.nil_iff.mp z)
      rcases (show j = 0 ∨ j = 1 ∨ 2 ≤ j by omega) with rfl | rfl | h5
      · exact op_repU pins s σ H x y v u Q I rx ry ⟨a, 0, xs, ea, he, sa, hne, .inr ⟨rfl, fun p n => q _ _ (res_tup (la.rep 0) p n)⟩⟩
      · refine op_repU pins s σ H x y v u Q I rx ry ⟨a, 1, xs, ea, he, sa, hne, .inl ⟨rfl, q _ _ (res_im ?_)⟩⟩
        have e : (List.replicate (1 : Int).toNat ds).flatten = ds := by simp
        rw [e]
        exact ⟨a, xs, rfl, sa, la⟩
      · exact op_repT pins s σ H x y v u Q I rx ry ⟨a, j, xs, ea, he, sa, hne, h5, h2, by rw [la.length]; exact h4, fun p n => q _ _ (res_tup (la.rep _) p n)⟩
    · cases hg
theorem bop_fdv : OpR X (binaryOp .FloorDiv) (rD X.K (bopD .fdv)) := by
  intro pins s σ H x y v u Q I rx ry h
  obtain ⟨d, e, r, hd, he, hg, q⟩ := h
  cases d <;> cases e <;> simp only [bopD] at hg <;> first | (cases hg; done) | skip
  case int.int i j =>
    split at hg
    · rename_i hz
      cases hg
      exact op_fdivW pins s σ H x y v u Q I rx ry ⟨i, j, hd, he, show 0 < j ∧ j.natAbs.log2 < 9000 from of_decide_eq_true hz, q _ _ res_int⟩
    · cases hg
theorem bop_mod : OpR X (binaryOp .Mod) (rD X.K (bopD .mod)) := by
  intro pins s σ H x y v u Q I rx ry h
  obtain ⟨d, e, r, hd, he, hg, q⟩ := h
  cases d <;> cases e <;> simp only [bopD] at hg <;> first | (cases hg; done) | skip
  case int.int i j =>
    split at hg
    · rename_i hz
      cases hg
      exact op_mod pins s σ H x y v u Q I rx ry ⟨i, j, hd, he, hz, q _ _ res_int⟩
    · cases hg
theorem bop_pow : OpR X (binaryOp .Pow) (rD X.K (bopD .pow)) := by
  intro pins s σ H x y v u Q I rx ry h
  obtain ⟨d, e, r, hd, he, hg, q⟩ := h
  cases d <;> cases e <;> simp only [bopD] at hg <;> first | (cases hg; done) | skip
  case int.int i j =>
    split at hg
    · rename_i hz
      cases hg
      exact op_pow pins s σ H x y v u Q I rx ry ⟨i, j, hd, he, show 0 ≤ j ∧ j ≤ 1000000 ∧ i.natAbs < 2 ^ 64 from of_decide_eq_true hz, q _ _ res_int⟩
    · cases hg
theorem bop_ok {op : Operator} {o : BOp} (h : cBin op = some o) : OpR X (binaryOp op) (rD X.K (bopD o)) := by
  cases op <;> simp only [cBin] at h <;> cases h
  · exact bop_add
  · exact bop_sub
  · exact bop_mul
  · exact bop_mod
  · exact bop_pow
  · exact bop_fdv
/-! ### comparisons -/
theorem eq_room {a b : D} {A : Around} (h : eqOk a b = true) (hu : A.units + 300 < cLine) : A.units + min a.py.depth b.py.depth < cLine := by
  have h1 : a.deep ≤ 200 ∨ b.deep ≤ 200 := of_decide_eq_true h
  unfold D.deep at h1
  have h2 := Nat.min_le_left a.py.depth b.py.depth
  have h3 := Nat.min_le_right a.py.depth b.py.depth
  omega
theorem depthAll_le {m : Nat} : ∀ {ys : List D}, (∀ y ∈ ys, y.deep ≤ m) → PyData.depthAll (D.pys ys) ≤ m
  | [], _ => by simp [D.pys, PyData.depthAll]
  | y :: ys, h => by
    have h1 : y.py.depth ≤ m := h y (List.mem_cons_self ..)
    have h2 := depthAll_le fun z hz => h z (List.mem_cons_of_mem _ hz)
    simp only [D.pys, PyData.depthAll]
    omega
theorem in_room {a : D} {ys : List D} {A : Around} (h : ys.all (eqOk a) = true) (hu : A.units + 300 < cLine) : A.units + 1 + min (PyData.depthAll (D.pys ys)) a.py.depth < cLine := by
  by_cases ha : a.deep ≤ 200
  · have h2 := Nat.min_le_right (PyData.depthAll (D.pys ys)) a.py.depth
    unfold D.deep at ha
    omega
  · have h1 := depthAll_le (m := 200) (ys := ys) fun y hy => by
      have := of_decide_eq_true (List.all_eq_true.mp h y hy)
      omega
    have h2 := Nat.min_le_left (PyData.depthAll (D.pys ys)) a.py.depth
    omega
theorem any_py (f : PyData → Bool) : ∀ ys : List D, (D.pys ys).any f = ys.any fun y => f y.py
  | [] => rfl
  | y :: ys => by rw [D.pys, List.any_cons, List.any_cons, any_py f ys]
theorem ord_room {a b : D} {A : Around} (h : decide (a.deep ≤ 200 ∨ b.deep ≤ 200) = true) (hu : A.units + 300 < cLine) : A.units + min a.py.depth b.py.depth < cLine := by
  have h := of_decide_eq_true h
  unfold D.deep at h
  have := Nat.min_le_left a.py.depth b.py.depth
  have := Nat.min_le_right a.py.depth b.py.depth
  rcases h with h | h <;> omega
theorem cop_eq (hu : X.A.units + 300 < cLine) : OpR X (compareOp .Eq) (rDB X.K (copD .eq)) := by
  intro pins s σ H x y v u Q I rx ry h
  obtain ⟨d, e, k, hd, he, hg, q⟩ := h
  simp only [copD] at hg
  split at hg
  · rename_i hz
    cases hg
    obtain ⟨as, r1⟩ := Dp.reads I _ x v hd.dp rx
    obtain ⟨bs, r2⟩ := Dp.reads I _ y u he.dp ry
    exact SeqAt.compareEq_reads r1 r2 hd.lay he.lay (eq_room hz hu) ⟨.bl _, H, I, rfl, q⟩
  · cases hg
theorem cop_ne (hu : X.A.units + 300 < cLine) : OpR X (compareOp .NotEq) (rDB X.K (copD .ne)) := by
  intro pins s σ H x y v u Q I rx ry h
  obtain ⟨d, e, k, hd, he, hg, q⟩ := h
  simp only [copD] at hg
  split at hg
  · rename_i hz
    cases hg
    obtain ⟨as, r1⟩ := Dp.reads I _ x v hd.dp rx
    obtain ⟨bs, r2⟩ := Dp.reads I _ y u he.dp ry
    exact SeqAt.compareNe_reads r1 r2 hd.lay he.lay (eq_room hz hu) ⟨.bl _, H, I, rfl, q⟩
  · cases hg
theorem cop_lt (hu : X.A.units + 300 < cLine) : OpR X (compareOp .Lt) (rDB X.K (copD .lt)) := by
  intro pins s σ H x y v u Q I rx ry h
  obtain ⟨d, e, r, hd, he, hg, q⟩ := h
  cases d <;> cases e <;> simp only [copD] at hg <;> first | (cases hg; done) | skip
  case int.int i j => cases hg; exact op_lt pins s σ H x y v u Q I rx ry ⟨i, j, hd, he, q⟩
  case tup.tup ds es =>
    split at hg
    · rename_i hz
      cases hg
      obtain ⟨as, r1⟩ := Dp.reads I _ x v (See.dp (d := .tup ds) hd) rx
      obtain ⟨bs, r2⟩ := Dp.reads I _ y u (See.dp (d := .tup es) he) ry
      have hz := Bool.and_eq_true_iff.mp hz
      exact PySem.W.lt_data r1 r2 hz.1 (fun z => by simp [D.py] at z) (ord_room hz.2 hu) ⟨.bl _, H, I, rfl, q⟩
    · cases hg
theorem cop_le (hu : X.A.units + 300 < cLine) : OpR X (compareOp .LtE) (rDB X.K (copD .le)) := by
  intro pins s σ H x y v u Q I rx ry h
  obtain ⟨d, e, r, hd, he, hg, q⟩ := h
  cases d <;> cases e <;> simp only [copD] at hg <;> first | (cases hg; done) | skip
  case int.int i j => cases hg; exact op_le pins s σ H x y v u Q I rx ry ⟨i, j, hd, he, q⟩
  case tup.tup ds es =>
    split at hg
    · rename_i hz
      cases hg
      obtain ⟨as, r1⟩ := Dp.reads I _ x v (See.dp (d := .tup ds) hd) rx
      obtain ⟨bs, r2⟩ := Dp.reads I _ y u (See.dp (d := .tup es) he) ry
      have hz := Bool.and_eq_true_iff.mp hz
      exact PySem.W.le_data r1 r2 hz.1 (fun z => by simp [D.py] at z) (ord_room hz.2 hu) ⟨.bl _, H, I, rfl, q⟩
    · cases hg
theorem cop_gt (hu : X.A.units + 300 < cLine) : OpR X (compareOp .Gt) (rDB X.K (copD .gt)) := by
  intro pins s σ H x y v u Q I rx ry h
  obtain ⟨d, e, r, hd, he, hg, q⟩ := h
  cases d <;> cases e <;> simp only [copD] at hg <;> first | (cases hg; done) | skip
  case int.int i j => cases hg; exact op_gt pins s σ H x y v u Q I rx ry ⟨i, j, hd, he, q⟩
  case tup.tup ds es =>
    split at hg
    · rename_i hz
      cases hg
      obtain ⟨as, r1⟩ := Dp.reads I _ x v (See.dp (d := .tup ds) hd) rx
      obtain ⟨bs, r2⟩ := Dp.reads I _ y u (See.dp (d := .tup es) he) ry
      have hz := Bool.and_eq_true_iff.mp hz
      exact PySem.W.gt_data r1 r2 hz.1 (fun z => by simp [D.py] at z) (ord_room hz.2 hu) ⟨.bl _, H, I, rfl, q⟩
    · cases hg
theorem cop_ge (hu : X.A.units + 300 < cLine) : OpR X (compareOp .GtE) (rDB X.K (copD .ge)) := by
  intro pins s σ H x y v u Q I rx ry h
  obtain ⟨d, e, r, hd, he, hg, q⟩ := h
  cases d <;> cases e <;> simp only [copD] at hg <;> first | (cases hg; done) | skip
  case int.int i j => cases hg; exact op_ge pins s σ H x y v u Q I rx ry ⟨i, j, hd, he, q⟩
  case tup.tup ds es =>
    split at hg
    · rename_i hz
      cases hg
      obtain ⟨as, r1⟩ := Dp.reads I _ x v (See.dp (d := .tup ds) hd) rx
      obtain ⟨bs, r2⟩ := Dp.reads I _ y u (See.dp (d := .tup es) he) ry
      have hz := Bool.and_eq_true_iff.mp hz
      exact PySem.W.ge_data r1 r2 hz.1 (fun z => by simp [D.py] at z) (ord_room hz.2 hu) ⟨.bl _, H, I, rfl, q⟩
    · cases hg
theorem cop_in (hu : X.A.units + 300 < cLine) : OpR X (compareOp .In) (rDB X.K (copD .isin)) := by
  intro pins s σ H x y v u Q I rx ry h
  obtain ⟨d, e, r, hd, he, hg, q⟩ := h
  obtain ⟨as, r1⟩ := Dp.reads I _ x v hd.dp rx
  obtain ⟨bs, r2⟩ := Dp.reads I _ y u he.dp ry
  have l2 := he.lay
  cases e <;> simp only [copD] at hg <;> first | (cases hg; done) | skip
  case lst ys =>
    split at hg
    · rename_i hz
      cases hg
      exact SeqAt.in_list_reads r2 r1 (by simpa [D.py, PyData.canLay0] using l2) hd.lay (in_room hz hu) ⟨.bl _, H, I, rfl, by rw [any_py]; exact q⟩
    · cases hg
  case tup ys =>
    split at hg
    · rename_i hz
      cases hg
      exact SeqAt.in_tuple_reads r2 r1 (by simpa [D.py, PyData.canLay0] using l2) hd.lay (in_room hz hu) ⟨.bl _, H, I, rfl, by rw [any_py]; exact q⟩
    · cases hg
theorem cop_notin (hu : X.A.units + 300 < cLine) : OpR X (compareOp .NotIn) (rDB X.K (copD .notin)) := by
  intro pins s σ H x y v u Q I rx ry h
  obtain ⟨d, e, r, hd, he, hg, q⟩ := h
  obtain ⟨as, r1⟩ := Dp.reads I _ x v hd.dp rx
  obtain ⟨bs, r2⟩ := Dp.reads I _ y u he.dp ry
  have l2 := he.lay
  cases e <;> simp only [copD] at hg <;> first | (cases hg; done) | skip
  case lst ys =>
    split at hg
    · rename_i hz
      cases hg
      exact SeqAt.notIn_list_reads r2 r1 (by simpa [D.py, PyData.canLay0] using l2) hd.lay (in_room hz hu) ⟨.bl _, H, I, rfl, by rw [any_py]; exact q⟩
    · cases hg
  case tup ys =>
    split at hg
    · rename_i hz
      cases hg
      exact SeqAt.notIn_tuple_reads r2 r1 (by simpa [D.py, PyData.canLay0] using l2) hd.lay (in_room hz hu) ⟨.bl _, H, I, rfl, by rw [any_py]; exact q⟩
    · cases hg
theorem cop_ok (hu : X.A.units + 300 < cLine) {op : CmpOp} {o : COp} (h : cCmp op = some o) : OpR X (compareOp op) (rDB X.K (copD o)) := by
  cases op <;> simp only [cCmp] at h <;> cases h
  · exact cop_eq hu
  · exact cop_ne hu
  · exact cop_lt hu
  · exact cop_le hu
  · exact cop_gt hu
  · exact cop_ge hu
  · exact cop_in hu
  · exact cop_notin hu
theorem cop_isn : OpR X (compareOp .Is) (rDB X.K (copD .isn)) := by
  intro pins s σ H x y v u Q I rx ry h
  obtain ⟨d, e, r, hd, he, hg, q⟩ := h
  have fin : ∀ k : Bool, y = .non → k = decide (x = .non) → Q (.bl k) H → wpAny (model X.prog X.w) X.A (compareOp .Is v u) (EP X pins σ Q) X.xe s := fun k hy hk q => op_isN pins s σ H x y v u Q I rx ry ⟨hy, by rw [← hk]; exact q⟩
  cases e <;> (try (cases d <;> simp only [copD] at hg <;> cases hg; done))
  have hy : y = .non := he
  cases d <;> simp only [copD] at hg <;> cases hg
  · exact fin _ hy (by rw [show x = .non from hd]; rfl) q
  · exact fin _ hy (by rw [show x = .bl _ from hd]; rfl) q
  · exact fin _ hy (by rw [show x = .int _ from hd]; rfl) q
  · exact fin _ hy (by rw [show x = .str _ from hd.1]; rfl) q
  · obtain ⟨a, xs, ea, _⟩ := hd
    exact fin _ hy (by rw [ea]; rfl) q
  · obtain ⟨a, xs, ea, _⟩ := hd
    exact fin _ hy (by rw [ea]; rfl) q
theorem cop_isnn : OpR X (compareOp .IsNot) (rDB X.K (copD .isnn)) := by
  intro pins s σ H x y v u Q I rx ry h
  obtain ⟨d, e, r, hd, he, hg, q⟩ := h
  have fin : ∀ k : Bool, y = .non → k = !decide (x = .non) → Q (.bl k) H → wpAny (model X.prog X.w) X.A (compareOp .IsNot v u) (EP X pins σ Q) X.xe s := fun k hy hk q => op_notN pins s σ H x y v u Q I rx ry ⟨hy, by rw [← hk]; exact q⟩
  cases e <;> (try (cases d <;> simp only [copD] at hg <;> cases hg; done))
  have hy : y = .non := he
  cases d <;> simp only [copD] at hg <;> cases hg
  · exact fin _ hy (by rw [show x = .non from hd]; rfl) q
  · exact fin _ hy (by rw [show x = .bl _ from hd]; rfl) q
  · exact fin _ hy (by rw [show x = .int _ from hd]; rfl) q
  · exact fin _ hy (by rw [show x = .str _ from hd.1]; rfl) q
  · obtain ⟨a, xs, ea, _⟩ := hd
    exact fin _ hy (by rw [ea]; rfl) q
  · obtain ⟨a, xs, ea, _⟩ := hd
    exact fin _ hy (by rw [ea]; rfl) q
/-! ### subscripts, slices -/
theorem atI_fz {K : PySem.W.Frag} {H : Hp} {ds : List D} {xs : List V} {i : Int} {d : D} (h : FzL K H ds xs) (e : atI ds i = some d) : ∃ x, atI xs i = some x ∧ Fz K H d x := by
  unfold atI at *
  rw [h.length]
  cases q : ixN ds.length i with
  | none => rw [q] at e; cases e
  | some j =>
    rw [q] at e
    exact h.get (i := j) e
theorem strOk_sub {x : Str} {l : List Nat} (hx : PyData.strOk x = true) (h : ∀ c ∈ l, c ∈ x.cps.toList) : PyData.strOk ⟨l.toArray⟩ = true := by
  unfold PyData.strOk at *
  rw [Array.all_eq_true_iff_forall_mem] at *
  intro c hc
  exact hx c (by simpa using h c (by simpa using hc))
def rIxD (K : PySem.W.Frag) : R2 := fun x y H Q => ∃ d e r, See K H d x ∧ See K H e y ∧ idxD d e = some r ∧ ∀ v, Fz K H r v → Q v H
theorem ix_ok : IxR X (rIxD X.K) := by
  intro value slice pins s σ H x y v u Q I rx ry h hs
  obtain ⟨d, e, r, hd, he, hg, q⟩ := h
  cases d <;> cases e <;> simp only [idxD] at hg <;> first | (cases hg; done) | skip
  case tup.int ds i =>
    obtain ⟨a, xs, ea, sa, la⟩ := hd
    obtain ⟨z, hz, fz⟩ := atI_fz la hg
    exact ix_tup value slice pins s σ H x y v u Q I rx ry ⟨a, xs, i, z, ea, he, sa, hz, q z fz⟩ hs
  case lst.int ds i =>
    obtain ⟨a, xs, ea, sa, la⟩ := hd
    obtain ⟨z, hz, fz⟩ := atI_fz la hg
    exact ix_list value slice pins s σ H x y v u Q I rx ry ⟨a, xs, i, z, ea, he, .inl sa, hz, q z fz⟩ hs
  case str.int z i =>
    split at hg
    · rename_i hz
      cases e : atI z.cps.toList i with
      | none => rw [e] at hg; cases hg
      | some c =>
        rw [e] at hg
        cases hg
        refine ix_str value slice pins s σ H x y v u Q I rx ry ⟨z, i, c, hd.1, he, hz, e, q _ ⟨rfl, strOk_sub (l := [c]) hd.2 fun b hb => ?_⟩⟩ hs
        have eb : b = c := by simpa using hb
        unfold atI at e
        obtain ⟨j, _, h2⟩ := Option.bind_eq_some_iff.mp e
        rw [eb]
        exact List.mem_of_getElem? h2
    · cases hg
def rSlD (K : PySem.W.Frag) : V → Option Int → Option Int → Hp → VK → Prop := fun x lo hi H Q => ∃ d r, See K H d x ∧ slcD d lo hi = some r ∧ ∀ v H', ResR K H r v H' → Q v H'
theorem sl_ok : SlR X (rSlD X.K) := by
  intro pins s σ H x v vl vu lo hi sl Q I rx hs pl pu h
  obtain ⟨d, r, hd, hg, q⟩ := h
  cases d <;> simp only [slcD] at hg <;> first | (cases hg; done) | skip
  case tup ds =>
    cases hg
    obtain ⟨a, xs, ea, sa, la⟩ := hd
    refine sl_tupA pins s σ H x v vl vu lo hi sl Q I rx hs pl pu ⟨a, xs, ea, sa, fun z => q _ _ (res_im ⟨a, xs, rfl, sa, ?_⟩), fun _ p n => q _ _ (res_tup (la.cut lo hi) p n)⟩
    obtain ⟨z1, z2⟩ := z
    have e := la.cut lo hi
    have e2 : cutV xs lo hi = xs := by
      unfold cutV
      rw [z1, z2, List.drop_zero, Nat.sub_zero, List.take_length]
    rw [e2] at e
    exact e
  case lst ds =>
    cases hg
    obtain ⟨a, xs, ea, sa, la⟩ := hd
    exact sl_list pins s σ H x v vl vu lo hi sl Q I rx hs pl pu ⟨a, xs, ea, .inl sa, fun p n => q _ _ (res_lst (la.cut lo hi) p n)⟩
  case str z =>
    split at hg
    · rename_i hz
      cases hg
      refine sl_str pins s σ H x v vl vu lo hi sl Q I rx hs pl pu ⟨z, hd.1, hz, q _ _ (res_im ⟨rfl, strOk_sub hd.2 fun c hc => ?_⟩)⟩
      exact List.mem_of_mem_drop (List.mem_of_mem_take hc)
    · cases hg
/-! ### truth -/
theorem tru_see {H : Hp} {d : D} {x : V} {k : Bool} (h : See X.K H d x) (e : truD d = some k) : TruV X.K x H k := by
  cases d <;> simp only [truD] at e
  case non => cases e; rw [show x = .non from h]; rfl
  case bl b => cases e; rw [show x = .bl _ from h]; rfl
  case int i => cases e; rw [show x = .int i from h]; rfl
  case str z =>
    split at e
    · rename_i hz
      cases e
      rw [show x = .str z from h.1]
      exact ⟨hz, by rw [Bool.eq_iff_iff]; simp⟩
    · cases e
  case tup ds =>
    cases e
    obtain ⟨a, xs, ea, sa, la⟩ := h
    rw [ea]
    refine .inr (.inl ⟨xs, sa, ?_⟩)
    cases ds <;> cases xs <;> first | rfl | (have := la.length; simp at this)
  case lst ds =>
    cases e
    obtain ⟨a, xs, ea, sa, la⟩ := h
    rw [ea]
    refine .inl ⟨xs, .inl sa, ?_⟩
    cases ds <;> cases xs <;> first | rfl | (have := la.length; simp at this)
/-! ### built-ins -/
theorem allO_int {K : PySem.W.Frag} {H : Hp} : ∀ {ds : List D} {xs : List V} {ns : List Int}, FzL K H ds xs → allO D.i? ds = some ns → xs = ns.map V.int ∧ ds = ns.map D.int
  | [], _, _, h, e => by cases e; rw [h]; exact ⟨rfl, rfl⟩
  | d :: ds, xs, ns, h, e => by
    obtain ⟨x, r, e1, hx, hr⟩ := h
    simp only [allO] at e
    cases q : d.i? with
    | none => rw [q] at e; cases e
    | some i =>
      cases q2 : allO D.i? ds with
      | none => rw [q, q2] at e; cases e
      | some ms =>
        rw [q, q2] at e
        cases e
        obtain ⟨z1, z2⟩ := allO_int hr q2
        have z3 : d = .int i := by cases d <;> simp only [D.i?] at q <;> cases q; rfl
        subst z3
        rw [e1, show x = .int i from hx, z1, z2]
        exact ⟨rfl, rfl⟩
theorem allO_bl {K : PySem.W.Frag} {H : Hp} : ∀ {ds : List D} {xs : List V} {ns : List Bool}, FzL K H ds xs → allO D.b? ds = some ns → xs = ns.map V.bl
  | [], _, _, h, e => by cases e; rw [h]; rfl
  | d :: ds, xs, ns, h, e => by
    obtain ⟨x, r, e1, hx, hr⟩ := h
    simp only [allO] at e
    cases q : d.b? with
    | none => rw [q] at e; cases e
    | some i =>
      cases q2 : allO D.b? ds with
      | none => rw [q, q2] at e; cases e
      | some ms =>
        rw [q, q2] at e
        cases e
        have z1 := allO_bl hr q2
        have z3 : d = .bl i := by cases d <;> simp only [D.b?] at q <;> cases q; rfl
        subst z3
        rw [e1, show x = .bl i from hx, z1]
        rfl
theorem FzL.ints {K : PySem.W.Frag} {H : Hp} : ∀ ns : List Int, FzL K H (ns.map D.int) (ns.map V.int)
  | [] => rfl
  | n :: ns => ⟨_, _, rfl, rfl, FzL.ints ns⟩
theorem b1_len : CallR X (.builtin "len") (rD1 X.K (b1D .len)) := by
  intro pins s σ H xs us Q I r h
  obtain ⟨d, t, x, rfl, hd, hg, q⟩ := h
  cases d <;> simp only [b1D] at hg <;> first | (cases hg; done) | skip
  case tup ds =>
    cases hg
    obtain ⟨a, ys, ea, sa, la⟩ := hd
    exact call_len_seq pins s σ H _ us Q I r ⟨a, ys, by rw [ea], .inr sa, q _ _ (by rw [la.length]; exact res_int)⟩
  case lst ds =>
    cases hg
    obtain ⟨a, ys, ea, sa, la⟩ := hd
    exact call_len_seq pins s σ H _ us Q I r ⟨a, ys, by rw [ea], .inl (.inl sa), q _ _ (by rw [la.length]; exact res_int)⟩
  case str z =>
    split at hg
    · rename_i hz
      cases hg
      exact call_len pins s σ H _ us Q I r ⟨x, z.length, rfl, by rw [show x = .str z from hd.1]; exact ⟨hz, rfl⟩, q _ _ res_int⟩
    · cases hg
theorem b1_abs : CallR X (.builtin "abs") (rD1 X.K (b1D .abs)) := by
  intro pins s σ H xs us Q I r h
  obtain ⟨d, t, x, rfl, hd, hg, q⟩ := h
  cases d <;> simp only [b1D] at hg <;> first | (cases hg; done) | skip
  case int i =>
    cases hg
    exact call_abs pins s σ H _ us Q I r ⟨i, by rw [show x = .int i from hd], q _ _ res_int⟩
theorem b1_int : CallR X (.type "int") (rD1 X.K (b1D .int)) := by
  intro pins s σ H xs us Q I r h
  obtain ⟨d, t, x, rfl, hd, hg, q⟩ := h
  cases d <;> simp only [b1D] at hg <;> first | (cases hg; done) | skip
  case int i =>
    cases hg
    exact call_int1 pins s σ H _ us Q I r (.inl ⟨i, by rw [show x = .int i from hd], q _ _ res_int⟩)
  case bl i =>
    cases hg
    exact call_int1 pins s σ H _ us Q I r (.inr ⟨i, by rw [show x = .bl i from hd], q _ _ res_int⟩)
theorem b1_tuple : CallR X (.type "tuple") (rD1 X.K (b1D .tuple)) := by
  intro pins s σ H xs us Q I r h
  obtain ⟨d, t, x, rfl, hd, hg, q⟩ := h
  cases d <;> simp only [b1D] at hg <;> first | (cases hg; done) | skip
  case tup ds =>
    cases hg
    obtain ⟨a, ys, ea, sa, la⟩ := hd
    exact call_tuple_of pins s σ H _ us Q I r ⟨a, ys, by rw [ea], .inr ⟨sa, q _ _ (res_im ⟨a, ys, rfl, sa, la⟩)⟩⟩
  case lst ds =>
    cases hg
    obtain ⟨a, ys, ea, sa, la⟩ := hd
    exact call_tuple_of pins s σ H _ us Q I r ⟨a, ys, by rw [ea], .inl ⟨.inl sa, fun p n => q _ _ (res_tup la p n)⟩⟩
theorem b1_list : CallR X (.type "list") (rD1 X.K (b1D .list)) := by
  intro pins s σ H xs us Q I r h
  obtain ⟨d, t, x, rfl, hd, hg, q⟩ := h
  cases d <;> simp only [b1D] at hg <;> first | (cases hg; done) | skip
  case tup ds =>
    cases hg
    obtain ⟨a, ys, ea, sa, la⟩ := hd
    exact call_list_of pins s σ H _ us Q I r ⟨a, ys, by rw [ea], .inr sa, fun p n => q _ _ (res_lst la p n)⟩
  case lst ds =>
    cases hg
    obtain ⟨a, ys, ea, sa, la⟩ := hd
    exact call_list_of pins s σ H _ us Q I r ⟨a, ys, by rw [ea], .inl (.inl sa), fun p n => q _ _ (res_lst la p n)⟩
/-- sum of a tuple of ints -/
theorem cr_sumT (hc : X.calm = true) : CallR X (.builtin "sum") (fun vs H Q => ∃ (a : Addr) (ns : List Int), vs = [V.ref a] ∧ SqT X.K H a (ns.map V.int) ∧ Q (.int ns.sum) H) := by
  intro pins s σ H vs us Q I r h
  obtain ⟨a, ns, rfl, hs, q⟩ := h
  obtain ⟨its, rv, hl, _⟩ := I.tuple hs
  rw [Vals.ref1 r]
  have hi := rv.ints
  obtain ⟨xs, hx⟩ := hi.allInts.items
  have hl : s.heap.IsTuple a its.toArray := hl
  have hn : numsOf its.toArray.toList = ns := by rw [show its.toArray.toList = its from rfl, hi.numsOf]
  rw [hx] at hl hn
  rw [nums_intItems] at hn
  refine PySem.W.ktm_sumG (I.ok.hd hc) hl fun h' tk t' hk => ?_
  refine ⟨.int ns.sum, H, I.kept hk, ?_, q⟩
  rw [preSum_eq, List.take_of_length_le (by simp), hn]
  exact ⟨_, rfl⟩
theorem b1_sum (hc : X.calm = true) : CallR X (.builtin "sum") (rD1 X.K (b1D .sum)) := by
  intro pins s σ H xs us Q I r h
  obtain ⟨d, t, x, rfl, hd, hg, q⟩ := h
  cases d <;> simp only [b1D] at hg <;> first | (cases hg; done) | skip
  case lst ds =>
    obtain ⟨a, ys, ea, sa, la⟩ := hd
    obtain ⟨ns, e1, e2⟩ := Option.map_eq_some_iff.mp hg
    obtain ⟨rfl, _⟩ := allO_int la e1
    cases e2
    exact cr_sum hc pins s σ H _ us Q I r ⟨a, ns, by rw [ea], .inl sa, q _ _ res_int⟩
  case tup ds =>
    obtain ⟨a, ys, ea, sa, la⟩ := hd
    obtain ⟨ns, e1, e2⟩ := Option.map_eq_some_iff.mp hg
    obtain ⟨rfl, _⟩ := allO_int la e1
    cases e2
    exact cr_sumT hc pins s σ H _ us Q I r ⟨a, ns, by rw [ea], sa, q _ _ res_int⟩
theorem b1_all (hc : X.calm = true) : CallR X (.builtin "all") (rD1 X.K (b1D .all)) := by
  intro pins s σ H xs us Q I r h
  obtain ⟨d, t, x, rfl, hd, hg, q⟩ := h
  cases d <;> simp only [b1D] at hg <;> first | (cases hg; done) | skip
  case lst ds =>
    obtain ⟨a, ys, ea, sa, la⟩ := hd
    obtain ⟨ns, e1, e2⟩ := Option.map_eq_some_iff.mp hg
    obtain rfl := allO_bl la e1
    cases e2
    exact cr_all hc pins s σ H _ us Q I r ⟨a, ns, by rw [ea], .inl sa, q _ _ res_bl⟩
theorem b1_any (hc : X.calm = true) : CallR X (.builtin "any") (rD1 X.K (b1D .any)) := by
  intro pins s σ H xs us Q I r h
  obtain ⟨d, t, x, rfl, hd, hg, q⟩ := h
  cases d <;> simp only [b1D] at hg <;> first | (cases hg; done) | skip
  case lst ds =>
    obtain ⟨a, ys, ea, sa, la⟩ := hd
    obtain ⟨ns, e1, e2⟩ := Option.map_eq_some_iff.mp hg
    obtain rfl := allO_bl la e1
    cases e2
    exact cr_any hc pins s σ H _ us Q I r ⟨a, ns, by rw [ea], .inl sa, q _ _ res_bl⟩
theorem minI_le : ∀ (ns : List Int) (m : Int), minI m ns ≤ m ∧ (∀ y ∈ ns, minI m ns ≤ y) ∧ (minI m ns = m ∨ minI m ns ∈ ns)
  | [], m => ⟨Int.le_refl _, (fun _ h => by simp at h), .inl rfl⟩
  | n :: ns, m => by
    obtain ⟨h1, h2, h3⟩ := minI_le ns (if n < m then n else m)
    simp only [minI]
    refine ⟨?_, fun y hy => ?_, ?_⟩
    · split at h1 <;> split <;> omega
    · rcases List.mem_cons.mp hy with rfl | hy
      · split at h1 <;> split <;> omega
      · exact h2 y hy
    · rcases h3 with h3 | h3
      · by_cases z : n < m
        · rw [if_pos z] at h3 ⊢
          exact .inr (by rw [h3]; exact List.mem_cons_self ..)
        · rw [if_neg z] at h3 ⊢
          exact .inl h3
      · exact .inr (List.mem_cons_of_mem _ h3)
theorem maxI_le : ∀ (ns : List Int) (m : Int), m ≤ maxI m ns ∧ (∀ y ∈ ns, y ≤ maxI m ns) ∧ (maxI m ns = m ∨ maxI m ns ∈ ns)
  | [], m => ⟨Int.le_refl _, (fun _ h => by simp at h), .inl rfl⟩
  | n :: ns, m => by
    obtain ⟨h1, h2, h3⟩ := maxI_le ns (if m < n then n else m)
    simp only [maxI]
    refine ⟨?_, fun y hy => ?_, ?_⟩
    · split at h1 <;> split <;> omega
    · rcases List.mem_cons.mp hy with rfl | hy
      · split at h1 <;> split <;> omega
      · exact h2 y hy
    · rcases h3 with h3 | h3
      · by_cases z : m < n
        · rw [if_pos z] at h3 ⊢
          exact .inr (by rw [h3]; exact List.mem_cons_self ..)
        · rw [if_neg z] at h3 ⊢
          exact .inl h3
      · exact .inr (List.mem_cons_of_mem _ h3)
theorem b2_min (hc : X.calm = true) : CallR X (.builtin "min") (rD2 X.K (b2D .min)) := by
  intro pins s σ H xs us Q I r h
  obtain ⟨d, e, t, x, y, rfl, hd, he, hg, q⟩ := h
  cases d <;> cases e <;> simp only [b2D] at hg <;> first | (cases hg; done) | skip
  case int.int i j =>
    cases hg
    exact call_min2 hc pins s σ H _ us Q I r ⟨i, j, by rw [show x = .int i from hd, show y = .int j from he], q _ _ res_int⟩
theorem b2_max (hc : X.calm = true) : CallR X (.builtin "max") (rD2 X.K (b2D .max)) := by
  intro pins s σ H xs us Q I r h
  obtain ⟨d, e, t, x, y, rfl, hd, he, hg, q⟩ := h
  cases d <;> cases e <;> simp only [b2D] at hg <;> first | (cases hg; done) | skip
  case int.int i j =>
    cases hg
    exact call_max2 hc pins s σ H _ us Q I r ⟨i, j, by rw [show x = .int i from hd, show y = .int j from he], q _ _ res_int⟩
theorem b2_gcd : CallR X (.builtin "math.gcd") (rD2 X.K (b2D .gcd)) := by
  intro pins s σ H xs us Q I r h
  obtain ⟨d, e, t, x, y, rfl, hd, he, hg, q⟩ := h
  cases d <;> cases e <;> simp only [b2D] at hg <;> first | (cases hg; done) | skip
  case int.int i j =>
    cases hg
    exact cr_gcd pins s σ H _ us Q I r ⟨i, j, by rw [show x = .int i from hd, show y = .int j from he], q _ _ res_int⟩
theorem insI_perm (x : Int) : ∀ l : List Int, (insI x l).Perm (x :: l)
  | [] => .refl _
  | y :: ys => by
    unfold insI
    split
    · exact .refl _
    · exact ((insI_perm x ys).cons y).trans (.swap x y ys)
theorem sortI_perm : ∀ l : List Int, (sortI l).Perm l
  | [] => .refl _
  | x :: xs => (insI_perm x (sortI xs)).trans ((sortI_perm xs).cons x)
theorem insI_up (x : Int) : ∀ l : List Int, l.Pairwise (· ≤ ·) → (insI x l).Pairwise (· ≤ ·)
  | [], _ => by simp [insI]
  | y :: ys, h => by
    obtain ⟨h1, h2⟩ := List.pairwise_cons.mp h
    unfold insI
    split
    · rename_i hxy
      refine List.pairwise_cons.mpr ⟨fun z hz => ?_, h⟩
      rcases List.mem_cons.mp hz with rfl | hz
      · exact hxy
      · exact Int.le_trans hxy (h1 z hz)
    · rename_i hxy
      refine List.pairwise_cons.mpr ⟨fun z hz => ?_, insI_up x ys h2⟩
      have hz2 := (insI_perm x ys).mem_iff.mp hz
      rcases List.mem_cons.mp hz2 with rfl | hz2
      · omega
      · exact h1 z hz2
theorem sortI_up : ∀ l : List Int, (sortI l).Pairwise (· ≤ ·)
  | [] => List.Pairwise.nil
  | x :: xs => insI_up x _ (sortI_up xs)
theorem sorted_one {l m : List Int} (hp : l.Perm m) (hl : l.Pairwise (· ≤ ·)) (hm : m.Pairwise (· ≤ ·)) : l = m :=
  hp.eq_of_pairwise (fun _ _ _ _ h1 h2 => Int.le_antisymm h1 h2) hl hm
/-! sorting, least and greatest, of data -/
mutual
theorem py_inj : ∀ a b : D, a.py = b.py → a = b
  | .non, b, h => by cases b <;> simp [D.py] at h ⊢
  | .bl _, b, h => by cases b <;> simp [D.py] at h ⊢; exact h
  | .int _, b, h => by cases b <;> simp [D.py] at h ⊢; exact h
  | .str _, b, h => by cases b <;> simp [D.py] at h ⊢; exact h
  | .tup xs, b, h => by
    cases b <;> simp only [D.py, PyData.tuple.injEq, reduceCtorEq] at h
    rw [pys_inj xs _ h]
  | .lst xs, b, h => by
    cases b <;> simp only [D.py, PyData.list.injEq, reduceCtorEq] at h
    rw [pys_inj xs _ h]
theorem pys_inj : ∀ xs ys : List D, D.pys xs = D.pys ys → xs = ys
  | [], ys, h => by cases ys <;> simp [D.pys] at h ⊢
  | x :: xs, ys, h => by
    cases ys with
    | nil => simp [D.pys] at h
    | cons y ys =>
      simp only [D.pys, List.cons.injEq] at h
      rw [py_inj x y h.1, pys_inj xs ys h.2]
end
theorem pys_map : ∀ ds : List D, D.pys ds = ds.map D.py
  | [] => rfl
  | d :: ds => by rw [D.pys, pys_map ds]; rfl
theorem alikeL_iff {xs : List D} (h : alikeL xs = true) : (∀ a ∈ xs, ∀ b ∈ xs, PySem.W.alike a.py b.py = true) ∧ ∀ a ∈ xs, a.deep ≤ 200 := by
  unfold alikeL at h
  simp only [Bool.and_eq_true, List.all_eq_true, decide_eq_true_eq] at h
  exact h
theorem dAll200 : ∀ {xs : List D}, (∀ a ∈ xs, a.deep ≤ 200) → PyData.depthAll (D.pys xs) ≤ 200
  | [], _ => by simp [D.pys, PyData.depthAll]
  | x :: xs, h => by
    have h1 := dAll200 (xs := xs) fun a ha => h a (List.mem_cons_of_mem _ ha)
    have h2 : x.py.depth ≤ 200 := h x (List.mem_cons_self ..)
    simp only [D.pys, PyData.depthAll]
    omega
theorem minT_py : ∀ (xs : List D) (x : D), (minT x xs).py = PySem.W.minD x.py (D.pys xs)
  | [], x => rfl
  | y :: ys, x => by
    unfold minT
    rw [minT_py ys]
    unfold PySem.W.minD
    rw [D.pys, List.foldl_cons]
    unfold D.lt
    split <;> rfl
theorem maxT_py : ∀ (xs : List D) (x : D), (maxT x xs).py = PySem.W.maxD x.py (D.pys xs)
  | [], x => rfl
  | y :: ys, x => by
    unfold maxT
    rw [maxT_py ys]
    unfold PySem.W.maxD
    rw [D.pys, List.foldl_cons]
    unfold D.lt
    split <;> rfl
section
variable {pins : List (Addr × Obj)} {s : Shared} {σ : L2.St} {H : Hp} {Q : VK}
theorem reads_all (I : Inv X pins σ H s) {ds : List D} {ys : List V} {its : List Value} (l : FzL X.K H ds ys) (r : Vals ys its) : ∃ as, ReadsAll s.heap its (D.pys ds) as := Dp.readsAll I _ _ its (FzL.dps ds ys l) r
theorem pick_fz (I : Inv X pins σ H s) {ds : List D} {ys : List V} {its : List Value} (l : FzL X.K H ds ys) (r : Vals ys its) {m : D} {i : Nat} {v : Value} {h' : Heap} {bs : List Addr} (hv : its[i]? = some v) (hr : Reads h' v m.py bs) (hk : ∀ b o, s.heap.get? b = some o → h'.get? b = some o)
    (al : ∀ a ∈ ds, PySem.W.alike a.py m.py = true) : ∃ x, RelV x v ∧ Fz X.K H m x := by
  have hl := r.length
  have hi : i < its.length := (List.getElem?_eq_some_iff.mp hv).1
  obtain ⟨x, hx⟩ : ∃ x, ys[i]? = some x := ⟨_, List.getElem?_eq_getElem (by omega)⟩
  obtain ⟨d, hd, fz⟩ := l.get' hx
  have rx : RelV x v := by
    obtain ⟨v', e1, e2⟩ := r.get hx
    rw [hv] at e1
    cases e1
    exact e2
  obtain ⟨as, r1⟩ := Dp.reads I _ x v (Fz.dp d x fz) rx
  have e := PySem.W.alike_unique _ _ _ _ _ (al d (List.mem_of_getElem? hd)) (Reads.keeps hk r1) hr
  rw [← py_inj _ _ e]
  exact ⟨x, rx, fz⟩
end
theorem minT_mem : ∀ (xs : List D) (x : D), minT x xs ∈ x :: xs
  | [], x => List.mem_cons_self ..
  | y :: ys, x => by
    unfold minT
    have := minT_mem ys (if y.lt x = true then y else x)
    rcases List.mem_cons.mp this with h | h
    · rw [h]
      split
      · exact List.mem_cons_of_mem _ (List.mem_cons_self ..)
      · exact List.mem_cons_self ..
    · exact List.mem_cons_of_mem _ (List.mem_cons_of_mem _ h)
theorem maxT_mem : ∀ (xs : List D) (x : D), maxT x xs ∈ x :: xs
  | [], x => List.mem_cons_self ..
  | y :: ys, x => by
    unfold maxT
    have := maxT_mem ys (if x.lt y = true then y else x)
    rcases List.mem_cons.mp this with h | h
    · rw [h]
      split
      · exact List.mem_cons_of_mem _ (List.mem_cons_self ..)
      · exact List.mem_cons_self ..
    · exact List.mem_cons_of_mem _ (List.mem_cons_of_mem _ h)
theorem alikeAll_of {xs : List D} (h : minOk xs = true) : PySem.W.AlikeAll (D.pys xs) := by
  unfold minOk at h
  obtain ⟨h1, h2⟩ := Bool.and_eq_true_iff.mp h
  have h3 := alikeL_iff h1
  rw [pys_map]
  refine ⟨fun x hx y hy => ?_, fun x hx => ?_⟩
  · obtain ⟨a, ha, rfl⟩ := List.mem_map.mp hx
    obtain ⟨b, hb, rfl⟩ := List.mem_map.mp hy
    exact h3.1 a ha b hb
  · obtain ⟨a, ha, rfl⟩ := List.mem_map.mp hx
    have := List.all_eq_true.mp h2 a ha
    cases a <;> simp [D.isNon, D.py] at this ⊢
section
variable {pins : List (Addr × Obj)} {s : Shared} {σ : L2.St} {H : Hp} {Q : VK}
theorem minx_run (hc : X.calm = true) (hu : X.A.units + 300 < cLine) (I : Inv X pins σ H s) {ds : List D} {a : Addr} {ys : List V} (sa : SqL X.K H a ys ∨ SqT X.K H a ys) (l : FzL X.K H ds ys) {r : Sl} (e : minX ds = some r) (q : ∀ v H', ResR X.K H r v H' → Q v H') :
    wpAny (model X.prog X.w) X.A (call (.builtin "min") [.ref a]) (EP X pins σ Q) X.xe s := by
  cases ds with
  | nil => cases e
  | cons x r0 =>
    have e : (if minOk (x :: r0) = true then some (Sl.im (minT x r0)) else none) = some r := e
    split at e
    · rename_i hz
      cases e
      have al := alikeAll_of hz
      have hd : ∀ a ∈ x :: r0, a.deep ≤ 200 := (alikeL_iff (Bool.and_eq_true_iff.mp hz).1).2
      have hd2 := dAll200 hd
      have hmem := minT_mem r0 x
      have fin : ∀ (its : List Value), Vals ys its → ∀ (i : Nat) v h' tk bs, its[i]? = some v → Reads h' v (PySem.W.minD x.py (D.pys r0)) bs → (∀ b o, s.heap.get? b = some o → h'.get? b = some o) → EP X pins σ Q v { s with heap := h', toks := tk } := by
        intro its rv i v h' tk bs hv hr hk
        rw [← minT_py] at hr
        obtain ⟨y, ry, fy⟩ := pick_fz I l rv hv hr hk fun b hb => (alikeL_iff (Bool.and_eq_true_iff.mp hz).1).1 b hb _ hmem
        exact ⟨y, H, I.kept hk, ry, q _ _ (res_im fy)⟩
      rcases sa with sa | sa
      · obtain ⟨its, rv, hl, _⟩ := I.list sa
        obtain ⟨as, ra⟩ := reads_all I l rv
        exact PySem.W.min_list_data (I.ok.hd hc) hl.isList (x := x.py) (xs := D.pys r0) (by simpa [D.pys] using ra) (by simpa [D.pys] using al) (by simp only [D.pys] at hd2; omega) fun i v h' tk bs hv hr hk => fin its rv i v h' tk bs (by simpa using hv) hr hk
      · obtain ⟨its, rv, hl, _⟩ := I.tuple sa
        obtain ⟨as, ra⟩ := reads_all I l rv
        exact PySem.W.min_tuple_data (I.ok.hd hc) hl (x := x.py) (xs := D.pys r0) (by simpa [D.pys] using ra) (by simpa [D.pys] using al) (by simp only [D.pys] at hd2; omega) fun i v h' tk bs hv hr hk => fin its rv i v h' tk bs (by simpa using hv) hr hk
    · cases e
theorem maxx_run (hc : X.calm = true) (hu : X.A.units + 300 < cLine) (I : Inv X pins σ H s) {ds : List D} {a : Addr} {ys : List V} (sa : SqL X.K H a ys ∨ SqT X.K H a ys) (l : FzL X.K H ds ys) {r : Sl} (e : maxX ds = some r) (q : ∀ v H', ResR X.K H r v H' → Q v H') :
    wpAny (model X.prog X.w) X.A (call (.builtin "max") [.ref a]) (EP X pins σ Q) X.xe s := by
  cases ds with
  | nil => cases e
  | cons x r0 =>
    have e : (if minOk (x :: r0) = true then some (Sl.im (maxT x r0)) else none) = some r := e
    split at e
    · rename_i hz
      cases e
      have al := alikeAll_of hz
      have hd : ∀ a ∈ x :: r0, a.deep ≤ 200 := (alikeL_iff (Bool.and_eq_true_iff.mp hz).1).2
      have hd2 := dAll200 hd
      have hmem := maxT_mem r0 x
      have fin : ∀ (its : List Value), Vals ys its → ∀ (i : Nat) v h' tk bs, its[i]? = some v → Reads h' v (PySem.W.maxD x.py (D.pys r0)) bs → (∀ b o, s.heap.get? b = some o → h'.get? b = some o) → EP X pins σ Q v { s with heap := h', toks := tk } := by
        intro its rv i v h' tk bs hv hr hk
        rw [← maxT_py] at hr
        obtain ⟨y, ry, fy⟩ := pick_fz I l rv hv hr hk fun b hb => (alikeL_iff (Bool.and_eq_true_iff.mp hz).1).1 b hb _ hmem
        exact ⟨y, H, I.kept hk, ry, q _ _ (res_im fy)⟩
      rcases sa with sa | sa
      · obtain ⟨its, rv, hl, _⟩ := I.list sa
        obtain ⟨as, ra⟩ := reads_all I l rv
        exact PySem.W.max_list_data (I.ok.hd hc) hl.isList (x := x.py) (xs := D.pys r0) (by simpa [D.pys] using ra) (by simpa [D.pys] using al) (by simp only [D.pys] at hd2; omega) fun i v h' tk bs hv hr hk => fin its rv i v h' tk bs (by simpa using hv) hr hk
      · obtain ⟨its, rv, hl, _⟩ := I.tuple sa
        obtain ⟨as, ra⟩ := reads_all I l rv
        exact PySem.W.max_tuple_data (I.ok.hd hc) hl (x := x.py) (xs := D.pys r0) (by simpa [D.pys] using ra) (by simpa [D.pys] using al) (by simp only [D.pys] at hd2; omega) fun i v h' tk bs hv hr hk => fin its rv i v h' tk bs (by simpa using hv) hr hk
    · cases e
end
/-! sorted, of data -/
theorem each_of_vals {R : Value → V → Prop} : ∀ {ys : List V} {its : List Value}, Vals ys its → (∀ y v, RelV y v → y ∈ ys → R v y) → PySem.W.EachIs R its ys := by
  intro ys its r
  induction r with
  | nil => intro _; exact .nil
  | cons h _ ih => intro w; exact .cons (w _ _ h (List.mem_cons_self ..)) (ih fun y v a b => w y v a (List.mem_cons_of_mem _ b))
theorem each_pairs {K : PySem.W.Frag} {H : Hp} : ∀ {ds : List D} {ys : List V} {its : List Value}, FzL K H ds ys → Vals ys its → PySem.W.EachIs (fun v (p : D × V) => RelV p.2 v ∧ Fz K H p.1 p.2) its (ds.zip ys)
  | [], _, _, h, r => by rw [h] at r; cases r; exact .nil
  | d :: ds, ys, its, h, r => by
    obtain ⟨x, q, e, hx, hr⟩ := h
    subst e
    cases r with
    | cons h1 h2 => exact .cons ⟨h1, hx⟩ (each_pairs hr h2)
theorem each_back {K : PySem.W.Frag} {H : Hp} : ∀ {its : List Value} {ps : List (D × V)}, PySem.W.EachIs (fun v (p : D × V) => RelV p.2 v ∧ Fz K H p.1 p.2) its ps → FzL K H (ps.map Prod.fst) (ps.map Prod.snd) ∧ Vals (ps.map Prod.snd) its
  | _, _, .nil => ⟨rfl, .nil⟩
  | _, _, .cons h t => ⟨⟨_, _, rfl, h.2, (each_back t).1⟩, .cons h.1 (each_back t).2⟩
theorem zip_fst : ∀ {ds : List D} {ys : List V}, ds.length = ys.length → (ds.zip ys).map Prod.fst = ds
  | [], [], _ => rfl
  | [], _ :: _, h => by simp at h
  | _ :: _, [], h => by simp at h
  | d :: ds, y :: ys, h => by
    rw [List.zip_cons_cons, List.map_cons, zip_fst (by simpa using h)]
theorem sorted_data (hu : X.A.units + 300 < cLine) {pins : List (Addr × Obj)} {s : Shared} {σ : L2.St} {H : Hp} {Q : VK} (I : Inv X pins σ H s) {ds : List D} {a : Addr} {ys : List V} (sa : SqL X.K H a ys) (l : FzL X.K H ds ys) (hz : sortOk ds = true) (q : ∀ v H', ResR X.K H (.mu (sortD ds)) v H' → Q v H') :
    wpAny (model X.prog X.w) X.A (call (.builtin "sorted") [.ref a]) (EP X pins σ Q) X.xe s := by
  obtain ⟨its, rv, hl, hsz⟩ := I.list sa
  obtain ⟨h1, h2⟩ := Bool.and_eq_true_iff.mp hz
  have h3 := alikeL_iff h1
  have hlen := rv.length
  have e : PySem.W.EachIs (fun v (d : PyData) => ∃ as, Reads (PySem.W.sortingHeap (PySem.W.copyHeap s.heap its) (s.heap.objs.size + 1) its) v d as) its (ds.map D.py) := by
    have ep := each_pairs l rv
    have hl2 := l.length
    clear hl hsz hlen sa
    have keep : ∀ b o, s.heap.get? b = some o → (PySem.W.sortingHeap (PySem.W.copyHeap s.heap its) (s.heap.objs.size + 1) its).get? b = some o := fun b o e => PySem.W.sorting_copy_old e
    generalize (PySem.W.sortingHeap (PySem.W.copyHeap s.heap its) (s.heap.objs.size + 1) its) = h' at keep
    have go : ∀ {its : List Value} {ps : List (D × V)}, PySem.W.EachIs (fun v (p : D × V) => RelV p.2 v ∧ Fz X.K H p.1 p.2) its ps → PySem.W.EachIs (fun v (d : PyData) => ∃ as, Reads h' v d as) its ((ps.map Prod.fst).map D.py) := by
      intro its ps h
      induction h with
      | nil => exact .nil
      | cons h _ ih =>
        obtain ⟨as, r1⟩ := Dp.reads I _ _ _ (Fz.dp _ _ h.2) h.1
        exact .cons ⟨as, Reads.keeps keep r1⟩ ih
    have := go ep
    rw [zip_fst hl2.symm] at this
    exact this
  have hal : PySem.W.AllAlike (ds.map D.py) := fun x hx y hy => by
    obtain ⟨a, ha, rfl⟩ := List.mem_map.mp hx
    obtain ⟨b, hb, rfl⟩ := List.mem_map.mp hy
    exact h3.1 a ha b hb
  have htup : ∀ d, d ∈ ds.map D.py → ∃ xs, d = .tuple xs := fun x hx => by
    obtain ⟨a, ha, rfl⟩ := List.mem_map.mp hx
    have := List.all_eq_true.mp h2 a ha
    cases a <;> simp [D.isTup] at this
    exact ⟨_, by rw [D.py]⟩
  have hdep : ∀ d, d ∈ ds.map D.py → X.A.in1.in1.units + d.depth < cLine := fun x hx => by
    obtain ⟨a, ha, rfl⟩ := List.mem_map.mp hx
    have := h3.2 a ha
    unfold D.deep at this
    show X.A.units + 1 + 1 + a.py.depth < cLine
    omega
  have S := PySem.W.SortsAt.tups (prog := X.prog) (w := X.w) (A := X.A.in1.in1) (s := { s with heap := PySem.W.sortingHeap (PySem.W.copyHeap s.heap its) (s.heap.objs.size + 1) its }) e hal htup hdep
  refine PySem.W.sorted_vals hl.isList S (by rw [← hlen]; exact hsz) ?_
  have hk : PySem.W.EachIs (fun v (p : D × V) => (PySem.W.dataKind (PySem.W.sortingHeap (PySem.W.copyHeap s.heap its) (s.heap.objs.size + 1) its) (ds.map D.py)).keyOf v = some (PySem.W.keyToks p.1.py)) its (ds.zip ys) := by
    have go : ∀ {is : List Value} {es : List D} {zs : List V}, es.length = zs.length → (∀ d ∈ es, d ∈ ds) → PySem.W.EachIs (fun v (d : PyData) => ∃ as, Reads (PySem.W.sortingHeap (PySem.W.copyHeap s.heap its) (s.heap.objs.size + 1) its) v d as) is (es.map D.py) →
        PySem.W.EachIs (fun v (p : D × V) => (PySem.W.dataKind (PySem.W.sortingHeap (PySem.W.copyHeap s.heap its) (s.heap.objs.size + 1) its) (ds.map D.py)).keyOf v = some (PySem.W.keyToks p.1.py)) is (es.zip zs) := by
      intro is es
      induction es generalizing is with
      | nil => intro zs _ _ h; cases h; exact .nil
      | cons d es ih =>
        intro zs hz hm h
        cases zs with
        | nil => simp at hz
        | cons z zs =>
          cases h with
          | cons h t =>
            obtain ⟨as, r⟩ := h
            exact .cons (PySem.W.dataKind_some hal (List.mem_map_of_mem (hm d (List.mem_cons_self ..))) r) (ih (by simpa using hz) (fun d hd => hm d (List.mem_cons_of_mem _ hd)) t)
    exact go l.length.symm (fun _ h => h) e
  have eo := PySem.W.sortVals_each (κ := PySem.W.dataKind (PySem.W.sortingHeap (PySem.W.copyHeap s.heap its) (s.heap.objs.size + 1) its) (ds.map D.py)) (rev := false) (fun p : D × V => (PySem.W.keyToks p.1.py : List (Int ⊕ List Nat))) (each_pairs l rv) hk
  obtain ⟨o1, o2⟩ := each_back eo
  have es : ((ds.zip ys).mergeSort (PySem.W.sortLe (PySem.W.dataKind (PySem.W.sortingHeap (PySem.W.copyHeap s.heap its) (s.heap.objs.size + 1) its) (ds.map D.py)).toKeyOrd false fun p : D × V => PySem.W.keyToks p.1.py)).map Prod.fst = sortD ds := by
    unfold sortD
    refine (PySem.W.sort_maps (s := fun a b : D => !(b.lt a)) Prod.fst (fun a _ b _ => ?_)).trans ?_
    · rfl
    · rw [zip_fst l.length.symm]
  rw [es] at o1
  obtain ⟨n, hn⟩ := PyProof.Rows.sortedAll_at s.heap its (PySem.W.sortVals (PySem.W.dataKind (PySem.W.sortingHeap (PySem.W.copyHeap s.heap its) (s.heap.objs.size + 1) its) (ds.map D.py)) false its its).toArray
  have hl3 : (((ds.zip ys).mergeSort (PySem.W.sortLe (PySem.W.dataKind (PySem.W.sortingHeap (PySem.W.copyHeap s.heap its) (s.heap.objs.size + 1) its) (ds.map D.py)).toKeyOrd false fun p : D × V => PySem.W.keyToks p.1.py)).map Prod.snd).length ≤ sizeLine := by
    rw [o2.length, PySem.W.sortVals_length false rfl, ← hlen]
    exact hsz
  exact ⟨.ref _, upd H (s.heap.objs.size + 1) (.lst _), I.laid (t' := s.toks) (fun _ _ => PyProof.Rows.sortedAll_old) (Nat.le_succ _) ⟨hl3, _, n, o2, hn⟩, rfl, q _ _ (res_lst o1 _ (I.hok.fresh (Nat.le_succ _)))⟩
theorem b1_min (hc : X.calm = true) (hu : X.A.units + 300 < cLine) : CallR X (.builtin "min") (rD1 X.K (b1D .min)) := by
  intro pins s σ H xs us Q I r h
  obtain ⟨d, t, x, rfl, hd, hg, q⟩ := h
  cases d <;> simp only [b1D] at hg <;> first | (cases hg; done) | skip
  case tup ds =>
    obtain ⟨a, ys, ea, sa, la⟩ := hd
    subst ea
    obtain ⟨u, rfl, ru⟩ := vals1 r
    obtain rfl : u = Value.ref a := ru
    exact minx_run hc hu I (.inr sa) la hg q
  case lst ds =>
    obtain ⟨a, ys, ea, sa, la⟩ := hd
    have gen : minX ds = some t → wpAny (model X.prog X.w) X.A (call (.builtin "min") us) (EP X pins σ Q) X.xe s := fun hg => by
      subst ea
      obtain ⟨u, rfl, ru⟩ := vals1 r
      obtain rfl : u = Value.ref a := ru
      exact minx_run hc hu I (.inl (.inl sa)) la hg q
    cases e1 : allO D.i? ds with
    | none => rw [e1] at hg; exact gen hg
    | some ns =>
      rw [e1] at hg
      cases ns with
      | nil => exact gen hg
      | cons n ns =>
        cases hg
        obtain ⟨rfl, _⟩ := allO_int la e1
        refine cr_min hc pins s σ H _ us Q I r ⟨a, n :: ns, by rw [ea], .inl sa, by simp, fun m h1 h2 => ?_⟩
        obtain ⟨g1, g2, g3⟩ := minI_le ns n
        have e : m = minI n ns := by
          have a1 : minI n ns ≤ m := by
            rcases List.mem_cons.mp h1 with rfl | h1
            · exact g1
            · exact g2 m h1
          have a2 : m ≤ minI n ns := by
            rcases g3 with g3 | g3
            · rw [g3]; exact h2 n (List.mem_cons_self ..)
            · exact h2 _ (List.mem_cons_of_mem _ g3)
          omega
        rw [e]
        exact q _ _ res_int
theorem b1_max (hc : X.calm = true) (hu : X.A.units + 300 < cLine) : CallR X (.builtin "max") (rD1 X.K (b1D .max)) := by
  intro pins s σ H xs us Q I r h
  obtain ⟨d, t, x, rfl, hd, hg, q⟩ := h
  cases d <;> simp only [b1D] at hg <;> first | (cases hg; done) | skip
  case tup ds =>
    obtain ⟨a, ys, ea, sa, la⟩ := hd
    subst ea
    obtain ⟨u, rfl, ru⟩ := vals1 r
    obtain rfl : u = Value.ref a := ru
    exact maxx_run hc hu I (.inr sa) la hg q
  case lst ds =>
    obtain ⟨a, ys, ea, sa, la⟩ := hd
    have gen : maxX ds = some t → wpAny (model X.prog X.w) X.A (call (.builtin "max") us) (EP X pins σ Q) X.xe s := fun hg => by
      subst ea
      obtain ⟨u, rfl, ru⟩ := vals1 r
      obtain rfl : u = Value.ref a := ru
      exact maxx_run hc hu I (.inl (.inl sa)) la hg q
    cases e1 : allO D.i? ds with
    | none => rw [e1] at hg; exact gen hg
    | some ns =>
      rw [e1] at hg
      cases ns with
      | nil => exact gen hg
      | cons n ns =>
        cases hg
        obtain ⟨rfl, _⟩ := allO_int la e1
        refine cr_max hc pins s σ H _ us Q I r ⟨a, n :: ns, by rw [ea], .inl sa, by simp, fun m h1 h2 => ?_⟩
        obtain ⟨g1, g2, g3⟩ := maxI_le ns n
        have e : m = maxI n ns := by
          have a1 : m ≤ maxI n ns := by
            rcases List.mem_cons.mp h1 with rfl | h1
            · exact g1
            · exact g2 m h1
          have a2 : maxI n ns ≤ m := by
            rcases g3 with g3 | g3
            · rw [g3]; exact h2 n (List.mem_cons_self ..)
            · exact h2 _ (List.mem_cons_of_mem _ g3)
          omega
        rw [e]
        exact q _ _ res_int
theorem b1_sorted (hu : X.A.units + 300 < cLine) : CallR X (.builtin "sorted") (rD1 X.K (b1D .sorted)) := by
  intro pins s σ H xs us Q I r h
  obtain ⟨d, t, x, rfl, hd, hg, q⟩ := h
  cases d <;> simp only [b1D] at hg <;> first | (cases hg; done) | skip
  case lst ds =>
    obtain ⟨a, ys, ea, sa, la⟩ := hd
    cases e1 : allO D.i? ds with
    | none =>
      rw [e1] at hg
      dsimp only at hg
      split at hg
      · rename_i hz
        cases hg
        subst ea
        obtain ⟨u, rfl, ru⟩ := vals1 r
        obtain rfl : u = Value.ref a := ru
        exact sorted_data hu I (.inl sa) la hz q
      · cases hg
    | some ns =>
      rw [e1] at hg
      cases hg
      obtain ⟨rfl, _⟩ := allO_int la e1
      refine cr_sortedI pins s σ H _ us Q I r ⟨a, ns, by rw [ea], .inl sa, fun ns' p hp hup n => q _ _ ?_⟩
      rw [sorted_one (hp.trans (sortI_perm ns).symm) hup (sortI_up ns)]
      exact res_lst (FzL.ints _) p n
  case tup ds =>
    obtain ⟨a, ys, ea, sa, la⟩ := hd
    cases e1 : allO D.i? ds with
    | none =>
      rw [e1] at hg
      cases hg
    | some ns =>
      rw [e1] at hg
      cases hg
      obtain ⟨rfl, _⟩ := allO_int la e1
      refine cr_sortedTI pins s σ H _ us Q I r ⟨a, ns, by rw [ea], sa, fun ns' p hp hup n => q _ _ ?_⟩
      rw [sorted_one (hp.trans (sortI_perm ns).symm) hup (sortI_up ns)]
      exact res_lst (FzL.ints _) p n
end
end Rf
/-! R5: the state and its data; readings. -/
namespace Rf
open PySem PySem.Spec PyProof.Rows L2

structure ExF where
  e : Addr → Xn → Prop
  T : List (Addr × Str)
  J : Hp → Prop
  JK : ∀ H H' : Hp, Keep H H' → J H → J H'
  cl : Option (Addr × (List D → Option (Xn ⊕ D)))
instance : CoeFun ExF (fun _ => Addr → Xn → Prop) := ⟨ExF.e⟩
/-- nothing but the tables -/
def ExF.of (T : List (Addr × Str)) : ExF := ⟨fun _ _ => False, T, fun _ => True, fun _ _ _ h => h, none⟩
def ExF.TJ (ex : ExF) (H : Hp) : Prop := LamX.Tabs ex.T H ∧ ex.J H
theorem KeepA.tj {ex : ExF} {H H' : Hp} (k : KeepA H H') (t : ex.TJ H) : ex.TJ H' := ⟨k.tabs t.1, ex.JK _ _ k.keep t.2⟩
def SlR (K : PySem.W.Frag) (ex : ExF) (H : Hp) : Sl → Option (Option V) → Prop
  | .un, _ => True
  | .im d, o => ∃ v, o = some (some v) ∧ Fz K H d v
  | .mu ds, o => ∃ a xs, o = some (some (.ref a)) ∧ H a = some (.lst xs) ∧ FzL K H ds xs
  | .exn x, o => ∃ a, o = some (some (.ref a)) ∧ ex a x
  | .clo f, o => ∃ a, o = some (some (.ref a)) ∧ ex.cl = some (a, f)
/-- a slot's own list stands at a -/
def Own (σd : Sls) (σ : L2.St) (a : Addr) : Prop := ∃ (i : Nat) (ds : List D), σd[i]? = some (.mu ds) ∧ σ[i]? = some (some (.ref a))
structure RS (K : PySem.W.Frag) (ex : ExF) (H : Hp) (σd : Sls) (σ : L2.St) : Prop where
  len : σd.length = σ.length
  at_ : ∀ (i : Nat) (s : Sl), σd[i]? = some s → SlR K ex H s σ[i]?
  inj : ∀ (i j : Nat) (ds es : List D) (a : Addr), σd[i]? = some (.mu ds) → σd[j]? = some (.mu es) → σ[i]? = some (some (.ref a)) → σ[j]? = some (some (.ref a)) → i = j
  tab : ex.TJ H
structure Nx (K : PySem.W.Frag) (ex : ExF) (σd : Sls) (σ : L2.St) (H : Hp) (σd' : Sls) (σ' : L2.St) (H' : Hp) : Prop where
  rs : RS K ex H' σd' σ'
  ext : ∀ a o, H a = some o → ¬ Own σd σ a → (∀ ps, o ≠ .tbl ps) → H' a = some o
  own : ∀ a, Own σd' σ' a → Own σd σ a ∨ H a = none
  dom : ∀ a o, H a = some o → ∃ o', H' a = some o'
section
variable {K : PySem.W.Frag} {ex : ExF} {σd σd' σd2 : Sls} {σ σ' σ2 : L2.St} {H H' H2 : Hp}
theorem RS.own_lst (r : RS K ex H σd σ) {a : Addr} (h : Own σd σ a) : ∃ xs, H a = some (.lst xs) := by
  obtain ⟨i, ds, h1, h2⟩ := h
  obtain ⟨b, xs, e, hb, _⟩ := r.at_ i _ h1
  rw [e] at h2; cases h2
  exact ⟨xs, hb⟩
theorem Nx.refl (r : RS K ex H σd σ) : Nx K ex σd σ H σd σ H := ⟨r, fun _ _ h _ _ => h, fun _ h => .inl h, fun _ _ h => ⟨_, h⟩⟩
theorem Nx.trans (a : Nx K ex σd σ H σd' σ' H') (b : Nx K ex σd' σ' H' σd2 σ2 H2) : Nx K ex σd σ H σd2 σ2 H2 where
  rs := b.rs
  ext := fun c o h n m => b.ext c o (a.ext c o h n m) (fun h2 => (a.own c h2).elim n fun z => by rw [z] at h; cases h) m
  own := fun c h => by
    rcases b.own c h with h | h
    · exact a.own c h
    · cases q : H c with
      | none => exact .inr rfl
      | some o =>
        obtain ⟨o', e⟩ := a.dom c o q
        rw [h] at e; cases e
  dom := fun c o h => by
    obtain ⟨o', e⟩ := a.dom c o h
    exact b.dom c o' e
theorem Nx.keep (r : RS K ex H σd σ) (n : Nx K ex σd σ H σd' σ' H') : Keep H H' := fun a o h hn hm => n.ext a o h (fun z => by
  obtain ⟨xs, e⟩ := r.own_lst z
  rw [e] at h; cases h
  exact hn xs rfl) hm
/-- nothing that stood is changed -/
theorem RS.same (r : RS K ex H σd σ) (s : Same H H') : RS K ex H' σd σ where
  len := r.len
  at_ := fun i sl h => by
    have z := r.at_ i sl h
    cases sl with
    | un => exact True.intro
    | im d => obtain ⟨v, e, f⟩ := z; exact ⟨v, e, Keep.fz (Keep.same s) d v f⟩
    | mu ds => obtain ⟨a, xs, e, h1, f⟩ := z; exact ⟨a, xs, e, s _ _ h1, Keep.fzL (Keep.same s) ds xs f⟩
    | exn x => exact z
    | clo x => exact z
  inj := r.inj
  tab := KeepA.tj (KeepA.same s) r.tab
theorem Nx.same (r : RS K ex H σd σ) (s : Same H H') : Nx K ex σd σ H σd σ H' := ⟨r.same s, fun a o h _ _ => s a o h, fun _ h => .inl h, fun a o h => ⟨o, s a o h⟩⟩
/-- a value that has come: P of a new list -/
def ValR (K : PySem.W.Frag) (P : Addr → Prop) (H' : Hp) (σd' : Sls) (σ' : L2.St) : Sl → V → Prop
  | .un, _ => True
  | .im d, v => Fz K H' d v
  | .mu ds, v => ∃ a xs, v = .ref a ∧ H' a = some (.lst xs) ∧ FzL K H' ds xs ∧ ¬ Own σd' σ' a ∧ P a
  | .exn _, _ => False
  | .clo _, _ => False
theorem ValR.step {P : Addr → Prop} {s : Sl} {v : V} (h : ValR K P H σd σ s v) (r : RS K ex H σd σ) (n : Nx K ex σd σ H σd' σ' H') : ValR K P H' σd' σ' s v := by
  cases s with
  | un => exact True.intro
  | im d => exact Keep.fz (n.keep r) d v h
  | mu ds =>
    obtain ⟨a, xs, e, h1, f, no, p⟩ := h
    refine ⟨a, xs, e, n.ext a _ h1 no (fun _ e => nomatch e), Keep.fzL (n.keep r) ds xs f, fun z => ?_, p⟩
    rcases n.own a z with z | z
    · exact no z
    · rw [z] at h1; cases h1
  | exn x => exact h
  | clo x => exact h
/-- an operand's value -/
def ValA (K : PySem.W.Frag) (P : Addr → Prop) (H' : Hp) (σd' : Sls) (σ' : L2.St) (a : IE) (s : Sl) (v : V) : Prop := match a with
  | .lv i => σ'[i]? = some (some v)
  | _ => ValR K P H' σd' σ' s v
theorem ValA.step {P : Addr → Prop} {s : Sl} {v : V} {a : IE} (h : ValA K P H σd σ a s v) (r : RS K ex H σd σ) (n : Nx K ex σd σ H σd' σ H') : ValA K P H' σd' σ a s v := by
  cases a with
  | lv i => exact h
  | _ => exact ValR.step h r n
theorem ResR.nx {s : Sl} {v : V} (r : RS K ex H σd σ) (h : ResR K H s v H') : Nx K ex σd σ H σd σ H' := .same r h.1
theorem ResR.val {s : Sl} {v : V} {H0 : Hp} {σd0 : Sls} (n : Nx K ex σd0 σ H0 σd σ H) (h : ResR K H s v H') : ValR K (fun a => H0 a = none) H' σd σ s v := by
  obtain ⟨sm, h⟩ := h
  cases s with
  | un => exact True.intro
  | im d => exact h
  | mu ds =>
    obtain ⟨a, xs, e, hn, h1, f⟩ := h
    refine ⟨a, xs, e, h1, f, fun z => ?_, ?_⟩
    · obtain ⟨ys, q⟩ := n.rs.own_lst z
      rw [hn] at q; cases q
    · cases q : H0 a with
      | none => exact q
      | some o =>
        obtain ⟨o', e⟩ := n.dom a o q
        rw [hn] at e; cases e
  | exn x => exact h
  | clo x => exact h
/-- a new list is locked -/
theorem Nx.frz {σd0 : Sls} {σ0 : L2.St} {H0 : Hp} {a : Addr} {xs : List V} (n : Nx K ex σd0 σ0 H0 σd σ H) (e : H a = some (.lst xs)) (no : ¬ Own σd σ a) (p : H0 a = none) (o : Obj) : Nx K ex σd0 σ0 H0 σd σ (upd H a (.frz o (.lst xs))) := by
  have keepA : KeepA H (upd H a (.frz o (.lst xs))) := fun b u h hn => by
    rw [upd_ne (ne_of h e (hn xs))]
    exact h
  have keep := keepA.keep
  refine ⟨⟨n.rs.len, fun i s h => ?_, n.rs.inj, keepA.tj n.rs.tab⟩, fun b u h hn hm => ?_, n.own, fun b u h => ?_⟩
  · have z := n.rs.at_ i s h
    cases s with
    | un => exact True.intro
    | im d => obtain ⟨v, e1, f⟩ := z; exact ⟨v, e1, keep.fz d v f⟩
    | mu ds =>
      obtain ⟨b, ys, e1, h1, f⟩ := z
      refine ⟨b, ys, e1, ?_, keep.fzL ds ys f⟩
      rw [upd_ne fun z => no ⟨i, ds, h, by rw [e1, z]⟩]
      exact h1
    | exn x => exact z
    | clo x => exact z
  · rw [upd_ne (ne_of_none h p)]
    exact n.ext b u h hn hm
  · obtain ⟨o', e1⟩ := n.dom b u h
    rw [upd_ne (ne_of_none h p)]
    exact ⟨o', e1⟩
theorem fz_frz {a : Addr} {xs : List V} {ds : List D} (e : H a = some (.lst xs)) (f : FzL K H ds xs) (o : Obj) : Fz K (upd H a (.frz o (.lst xs))) (.lst ds) (.ref a) := by
  have keep : Keep H (upd H a (.frz o (.lst xs))) := fun b u h hn _ => by
    rw [upd_ne (ne_of h e (hn xs))]
    exact h
  exact ⟨a, xs, rfl, ⟨o, upd_same⟩, keep.fzL ds xs f⟩
end

/-! ### outcomes -/
/-- an exception's own dict -/
def XcR (K : PySem.W.Frag) (H' : Hp) (x : Xn) (d : Option Addr) : Prop := (x.code = none → d = none) ∧ ∀ c, x.code = some c → ∃ dx v, d = some dx ∧ H' dx = some (.xd [("code", v)]) ∧ Fz K H' c v
section
variable (K : PySem.W.Frag) (ex : ExF) (ca : Nat → Addr) (W : WX)
def Res {α : Type} (σd0 : Sls) (σ : L2.St) (H0 : Hp) (r : R α) (ok : α → Sls → Prop) : Prop := match r with
  | .ok a σd' => ok a σd'
  | .exc x σd' => ∀ d H', Nx K ex σd0 σ H0 σd' σ H' → XcR K H' x d → W (.ref (ca x.cls)) d σ H'
  | .bad => False
def tE (r : Sls → R Sl) : TE := fun σ H Q => ∃ σd, RS K ex H σd σ ∧ Res K ex ca W σd σ H (r σd) fun s σd' => ∀ v H', Nx K ex σd σ H σd' σ H' → ValR K (fun a => H a = none) H' σd' σ s v → Q v H'
def tA (a : IE) (r : Sls → R Sl) : TE := fun σ H Q => ∃ σd, RS K ex H σd σ ∧ Res K ex ca W σd σ H (r σd) fun s σd' => ∀ v H', Nx K ex σd σ H σd' σ H' → ValA K (fun a => H a = none) H' σd' σ a s v → Q v H'
def tL (r : Sls → R Sl) : TA := fun σ H Q => ∃ σd, RS K ex H σd σ ∧ Res K ex ca W σd σ H (r σd) fun s σd' => ∃ ds, s = .mu ds ∧ ∀ vs H', Nx K ex σd σ H σd' σ H' → FzL K H' ds vs → Q vs H'
def tT (r : Sls → R Sl) : TT := fun σ H Q => ∃ σd, RS K ex H σd σ ∧ Res K ex ca W σd σ H (r σd) fun s σd' => ∃ k, s = .im (.bl k) ∧ ∀ H', Nx K ex σd σ H σd' σ H' → Q k H'
end
section
variable {K : PySem.W.Frag} {ex : ExF} {ca : Nat → Addr} {W : WX} {σd0 σd1 : Sls} {σ : L2.St} {H0 H1 : Hp} {α β : Type}
theorem Res.bind {r : R α} {f : α → Sls → R β} {ok : β → Sls → Prop} (h : Res K ex ca W σd0 σ H0 (r.bind f) ok) : Res K ex ca W σd0 σ H0 r fun a σd1 => Res K ex ca W σd0 σ H0 (f a σd1) ok := by
  cases r <;> exact h
theorem Res.imp {r : R α} {ok ok' : α → Sls → Prop} (h : Res K ex ca W σd0 σ H0 r ok) (w : ∀ a σd', ok a σd' → ok' a σd') : Res K ex ca W σd0 σ H0 r ok' := by
  cases r with
  | ok a s => exact w a s h
  | exc x s => exact h
  | bad => exact h
/-- from a later state -/
theorem Res.re {r : R α} {ok ok' : α → Sls → Prop} (n : Nx K ex σd0 σ H0 σd1 σ H1) (h : Res K ex ca W σd0 σ H0 r ok) (w : ∀ a σd', ok a σd' → ok' a σd') : Res K ex ca W σd1 σ H1 r ok' := by
  cases r with
  | ok a s => exact w a s h
  | exc x s => exact fun d H' n2 c => h d H' (n.trans n2) c
  | bad => exact h
theorem Res.ofO {o : Option α} {ok : α → Sls → Prop} (h : Res K ex ca W σd0 σ H0 (ofO o σd1) ok) : ∃ a, o = some a ∧ ok a σd1 := by
  cases o with
  | none => exact h.elim
  | some a => exact ⟨a, rfl, h⟩
theorem ValR.see {P : Addr → Prop} {s : Sl} {v : V} {F : D → R α} {ok : α → Sls → Prop} (h : ValR K P H1 σd1 σ s v) (q : Res K ex ca W σd0 σ H0 (wd s F) ok) : ∃ p, See K H1 p v ∧ Res K ex ca W σd0 σ H0 (F p) ok := by
  cases s with
  | un => exact q.elim
  | im d => exact ⟨d, Fz.see h, q⟩
  | mu ds =>
    obtain ⟨a, xs, e, h1, f, _⟩ := h
    exact ⟨.lst ds, ⟨a, xs, e, .inl h1, f⟩, q⟩
  | exn x => exact q.elim
  | clo x => exact q.elim
theorem ValA.see {P : Addr → Prop} {a : IE} {s : Sl} {v : V} {F : D → R α} {ok : α → Sls → Prop} (r : RS K ex H1 σd1 σ) (h : ValA K P H1 σd1 σ a s v) (q : Res K ex ca W σd0 σ H0 (wo a σd1 s F) ok) : ∃ p, See K H1 p v ∧ Res K ex ca W σd0 σ H0 (F p) ok := by
  cases a with
  | lv i =>
    simp only [wo] at q
    cases e : σd1[i]? with
    | none => rw [e] at q; exact q.elim
    | some t =>
      rw [e] at q
      have z := r.at_ i t e
      have h' : σ[i]? = some (some v) := h
      cases t with
      | un => exact q.elim
      | im d =>
        obtain ⟨w, e1, f⟩ := z
        rw [h'] at e1; cases e1
        exact ⟨d, f.see, q⟩
      | mu ds =>
        obtain ⟨b, xs, e1, h1, f⟩ := z
        rw [h'] at e1; cases e1
        exact ⟨.lst ds, ⟨b, xs, rfl, .inl h1, f⟩, q⟩
      | exn x => exact q.elim
      | clo x => exact q.elim
  | _ => exact ValR.see h q
/-- the value is locked, where it is a new list -/
theorem ValR.lock {s : Sl} {v : V} {F : D → R α} {ok : α → Sls → Prop} (n : Nx K ex σd0 σ H0 σd1 σ H1) (h : ValR K (fun a => H0 a = none) H1 σd1 σ s v) (q : Res K ex ca W σd0 σ H0 (wd s F) ok) :
    ∃ d, Res K ex ca W σd0 σ H0 (F d) ok ∧ ∀ Q : VK, (∀ H', Nx K ex σd0 σ H0 σd1 σ H' → Fz K H' d v → Q v H') → FrzQ Q v H1 := by
  cases s with
  | un => exact q.elim
  | im d => exact ⟨d, q, fun Q g => .inl (g H1 n h)⟩
  | mu ds =>
    obtain ⟨a, xs, e, h1, f, no, p⟩ := h
    subst e
    exact ⟨.lst ds, q, fun Q g => .inr ⟨a, xs, h1, fun o => g _ (n.frz h1 no p o) (fz_frz h1 f o)⟩⟩
  | exn x => exact q.elim
  | clo x => exact q.elim
end
end Rf
/-! R6: constructs, one by one. -/
namespace Rf
open PySem PySem.Spec PyProof.Rows L2

section
variable {X : Cx} {ex : ExF} {ca : Nat → Addr} {W : WX} {e a b c : Expr} {ra rb rc : Sls → R Sl} {ia ib ic : IE} {pos : Pos}
theorem tA_of {r : Sls → R Sl} (h : PE X e (tE X.K ex ca W r)) (n : ∀ i, ia ≠ .lv i) : PE X e (tA X.K ex ca W ia r) := by
  refine h.weak fun σ H Q ⟨σd, rs, q⟩ => ⟨σd, rs, q.imp fun s σd' g v H' nx hv => g v H' nx ?_⟩
  cases ia with
  | lv i => exact absurd rfl (n i)
  | _ => exact hv
/-- a value that is known -/
theorem s_cst {d : D} {v : V} (h : PE X e (tC v)) (f : ∀ H, Fz X.K H d v) : PE X e (tE X.K ex ca W fun σ => .ok (.im d) σ) :=
  h.weak fun σ H Q ⟨σd, rs, q⟩ => q v H (.refl rs) (f H)
/-- a name, its list locked -/
theorem s_var {i : Nat} {x : Str} (hN : X.N[i]? = some x) (hv : Vis X.env.scope x) (hd : (x == ("__debug__" : Str)) = false) (hcd : (x == ("__classdict__" : Str)) = false) :
    PE X (.Name x pos) (tE X.K ex ca W fun σ => match σ[i]? with
      | some (.im d) => .ok (.im d) σ
      | some (.mu ds) => .ok (.im (.lst ds)) (σ.set i (.im (.lst ds)))
      | _ => .bad) := by
  refine (pe_frz (pe_var hN hv hd hcd)).weak fun σ H Q ⟨σd, rs, q⟩ => ?_
  dsimp only at q
  cases e : σd[i]? with
  | none => rw [e] at q; exact q.elim
  | some s =>
    rw [e] at q
    have z := rs.at_ i s e
    cases s with
    | un => exact q.elim
    | exn x => exact q.elim
    | clo x => exact q.elim
    | im d =>
      obtain ⟨v, e1, f⟩ := z
      exact ⟨v, e1, .inl (q v H (.refl rs) f)⟩
    | mu ds =>
      obtain ⟨a, xs, e1, h1, f⟩ := z
      refine ⟨.ref a, e1, .inr ⟨a, xs, h1, fun o => q _ _ ?_ (fz_frz h1 f o)⟩⟩
      have hi : i < σd.length := (List.getElem?_eq_some_iff.mp e).1
      have keepA : KeepA H (upd H a (.frz o (.lst xs))) := fun b u h hn => by
        rw [upd_ne (ne_of h h1 (hn xs))]
        exact h
      have keep := keepA.keep
      refine ⟨⟨by rw [List.length_set]; exact rs.len, fun j s hj => ?_, fun j k ds' es' b h2 h3 => ?_, keepA.tj rs.tab⟩, fun b u h hn _ => ?_, fun b h => ?_, fun b u h => ?_⟩
      · by_cases hij : i = j
        · subst hij
          rw [List.getElem?_set_self hi] at hj
          cases hj
          exact ⟨_, e1, fz_frz h1 f o⟩
        · rw [List.getElem?_set_ne hij] at hj
          have z := rs.at_ j s hj
          cases s with
          | un => exact True.intro
          | im d => obtain ⟨v, e2, f2⟩ := z; exact ⟨v, e2, keep.fz d v f2⟩
          | exn x => exact z
          | clo x => exact z
          | mu es =>
            obtain ⟨b, ys, e2, h2, f2⟩ := z
            refine ⟨b, ys, e2, ?_, keep.fzL es ys f2⟩
            rw [upd_ne fun z => hij (rs.inj i j ds es a e hj e1 (by rw [e2, z]))]
            exact h2
      · by_cases hij : i = j
        · subst hij; rw [List.getElem?_set_self hi] at h2; cases h2
        · by_cases hik : i = k
          · subst hik; rw [List.getElem?_set_self hi] at h3; cases h3
          · rw [List.getElem?_set_ne hij] at h2
            rw [List.getElem?_set_ne hik] at h3
            exact rs.inj j k ds' es' b h2 h3
      · rw [upd_ne fun z => hn ⟨i, ds, e, by rw [e1, z]⟩]
        exact h
      · obtain ⟨j, es, h2, h3⟩ := h
        by_cases hij : i = j
        · subst hij; rw [List.getElem?_set_self hi] at h2; cases h2
        · rw [List.getElem?_set_ne hij] at h2
          exact .inl ⟨j, es, h2, h3⟩
      · by_cases hb : b = a
        · subst hb; exact ⟨_, upd_same⟩
        · rw [upd_ne hb]; exact ⟨u, h⟩
/-- a name, looked at late -/
theorem s_lv {i : Nat} {x : Str} (hN : X.N[i]? = some x) (hv : Vis X.env.scope x) (hd : (x == ("__debug__" : Str)) = false) (hcd : (x == ("__classdict__" : Str)) = false) :
    PE X (.Name x pos) (tA X.K ex ca W (.lv i) fun σ => match σ[i]? with
      | some (.im _) => .ok .un σ
      | some (.mu _) => .ok .un σ
      | _ => .bad) := by
  refine (pe_var hN hv hd hcd).weak fun σ H Q ⟨σd, rs, q⟩ => ?_
  dsimp only at q
  cases e : σd[i]? with
  | none => rw [e] at q; exact q.elim
  | some s =>
    rw [e] at q
    have z := rs.at_ i s e
    cases s with
    | un => exact q.elim
    | exn x => exact q.elim
    | clo x => exact q.elim
    | im d =>
      obtain ⟨v, e1, f⟩ := z
      exact ⟨v, e1, q v H (.refl rs) e1⟩
    | mu ds =>
      obtain ⟨a, xs, e1, h1, f⟩ := z
      exact ⟨_, e1, q _ H (.refl rs) e1⟩
/-! ### lists of expressions -/
theorem s_nil : PA X [] (tL X.K ex ca W fun σ => .ok (.mu []) σ) :=
  pa_nil.weak fun σ H Q ⟨σd, rs, ds, e, q⟩ => by
    cases e
    exact q [] H (.refl rs) rfl
theorem s_cons {es : List Expr} (ha : PE X e (tE X.K ex ca W ra)) (hb : PA X es (tL X.K ex ca W rb)) (hs : isStar e = false) :
    PA X (e :: es) (tL X.K ex ca W fun σ => (ra σ).bind fun x σ1 => wd x fun d => (rb σ1).bind fun y σ2 => match y with
      | .mu ds => .ok (.mu (d :: ds)) σ2
      | _ => .bad) := by
  refine (pa_cons (pe_frz ha) hb (by cases e <;> first | rfl | cases hs)).weak fun σ H Q ⟨σd, rs, q⟩ => ?_
  refine ⟨σd, rs, q.bind.imp fun x σ1 q1 v H1 n1 v1 => ?_⟩
  obtain ⟨d, q2, lock⟩ := v1.lock n1 q1
  refine lock _ fun H2 n2 f2 => ⟨σ1, n2.rs, q2.bind.re n2 fun y σ2 q3 => ?_⟩
  cases y with
  | mu ds =>
    obtain ⟨ds', e1, q3⟩ := q3
    cases e1
    refine ⟨ds, rfl, fun vs H3 n3 f3 => q3 _ _ (n2.trans n3) ⟨v, vs, rfl, Keep.fz (n3.keep n2.rs) d v f2, f3⟩⟩
  | _ => exact q3.elim
theorem s_tup {es : List Expr} {k} (h : PA X es (tL X.K ex ca W ra)) : PE X (.Tuple es k pos) (tE X.K ex ca W fun σ => (ra σ).bind fun y σ1 => match y with
    | .mu ds => if ds.length ≤ sizeLine then .ok (.im (.tup ds)) σ1 else .bad
    | _ => .bad) := by
  refine (pe_tup h).weak fun σ H Q ⟨σd, rs, q⟩ => ⟨σd, rs, q.bind.imp fun y σ1 q1 => ?_⟩
  cases y with
  | mu ds =>
    refine ⟨ds, rfl, fun vs H1 n1 f1 => ?_⟩
    simp only at q1
    split at q1
    · rename_i hz
      refine ⟨by rw [f1.length]; exact hz, fun p hp => ?_⟩
      have r := res_tup f1 p hp
      exact q1 _ _ (n1.trans (.same n1.rs r.1)) r.2
    · exact q1.elim
  | _ => exact q1.elim
theorem s_lst {es : List Expr} (h : PA X es (tL X.K ex ca W ra)) : PE X (.List es pos) (tE X.K ex ca W fun σ => (ra σ).bind fun y σ1 => match y with
    | .mu ds => if ds.length ≤ sizeLine then .ok (.mu ds) σ1 else .bad
    | _ => .bad) := by
  refine (pe_lst h).weak fun σ H Q ⟨σd, rs, q⟩ => ⟨σd, rs, q.bind.imp fun y σ1 q1 => ?_⟩
  cases y with
  | mu ds =>
    refine ⟨ds, rfl, fun vs H1 n1 f1 => ?_⟩
    simp only at q1
    split at q1
    · rename_i hz
      refine ⟨by rw [f1.length]; exact hz, fun p hp => ?_⟩
      have r := res_lst f1 p hp
      exact q1 _ _ (n1.trans (.same n1.rs r.1)) (r.val n1)
    · exact q1.elim
  | _ => exact q1.elim
/-! ### operators -/
theorem s_bin {op : Operator} {o : BOp} (ho : cBin op = some o) (ha : PE X a (tA X.K ex ca W ia ra)) (hb : PE X b (tA X.K ex ca W ib rb)) :
    PE X (.BinOp a op b pos) (tE X.K ex ca W fun σ => (ra σ).bind fun x σ1 => (rb σ1).bind fun y σ2 => wo ia σ2 x fun p => wo ib σ2 y fun q => ofO (bopD o p q) σ2) := by
  refine (pe_op (bop_ok ho) ha hb).weak fun σ H Q ⟨σd, rs, q⟩ => ?_
  refine ⟨σd, rs, q.bind.imp fun x σ1 q1 v H1 n1 v1 => ⟨σ1, n1.rs, q1.bind.re n1 fun y σ2 q2 w H2 n2 w2 => ?_⟩⟩
  obtain ⟨p, sp, q3⟩ := (v1.step n1.rs n2).see n2.rs q2
  obtain ⟨p', sp', q4⟩ := w2.see n2.rs q3
  obtain ⟨s, e, q5⟩ := q4.ofO
  exact ⟨p, p', s, sp, sp', e, fun u H' r => q5 u H' ((n1.trans n2).trans (r.nx n2.rs)) (r.val (n1.trans n2))⟩
theorem s_neg (ha : PE X a (tA X.K ex ca W ia ra)) : PE X (.UnaryOp .USub a pos) (tE X.K ex ca W fun σ => (ra σ).bind fun x σ1 => wo ia σ1 x fun p => (match p with
    | .int i => .ok (.im (.int (-i))) σ1
    | _ => .bad)) := by
  refine (pe_un un_neg ha).weak fun σ H Q ⟨σd, rs, q⟩ => ?_
  refine ⟨σd, rs, q.bind.imp fun x σ1 q1 v H1 n1 v1 => ?_⟩
  obtain ⟨p, sp, q2⟩ := v1.see n1.rs q1
  cases p with
  | int i => exact ⟨i, sp, q2 _ _ n1 rfl⟩
  | _ => exact q2.elim
theorem s_cmp' {op : CmpOp} {o : COp} (hm : behindInMarks op b = false) (ho : OpR X (compareOp op) (rDB X.K (copD o))) (ha : PE X a (tA X.K ex ca W ia ra)) (hb : PE X b (tA X.K ex ca W ib rb)) :
    PE X (.Compare a [op] [b] pos) (tE X.K ex ca W fun σ => (ra σ).bind fun x σ1 => (rb σ1).bind fun y σ2 => wo ia σ2 x fun p => wo ib σ2 y fun q => (match copD o p q with
      | some k => .ok (.im (.bl k)) σ2
      | none => .bad)) := by
  refine (pe_cmpR ho ha hb hm).weak fun σ H Q ⟨σd, rs, q⟩ => ?_
  refine ⟨σd, rs, q.bind.imp fun x σ1 q1 v H1 n1 v1 => ⟨σ1, n1.rs, q1.bind.re n1 fun y σ2 q2 w H2 n2 w2 => ?_⟩⟩
  obtain ⟨p, sp, q3⟩ := (v1.step n1.rs n2).see n2.rs q2
  obtain ⟨p', sp', q4⟩ := w2.see n2.rs q3
  cases e : copD o p p' with
  | none => rw [e] at q4; exact q4.elim
  | some k => rw [e] at q4; exact ⟨p, p', k, sp, sp', e, q4 _ _ (n1.trans n2) rfl⟩
theorem t_cmp' {op : CmpOp} {o : COp} (hm : behindInMarks op b = false) (ho : OpR X (compareOp op) (rDB X.K (copD o))) (ha : PE X a (tA X.K ex ca W ia ra)) (hb : PE X b (tA X.K ex ca W ib rb)) :
    PT X (.Compare a [op] [b] pos) (tT X.K ex ca W fun σ => (ra σ).bind fun x σ1 => (rb σ1).bind fun y σ2 => wo ia σ2 x fun p => wo ib σ2 y fun q => (match copD o p q with
      | some k => .ok (.im (.bl k)) σ2
      | none => .bad)) := by
  refine (pt_cmpR ho ha hb hm).weak fun σ H Q ⟨σd, rs, q⟩ => ?_
  refine ⟨σd, rs, q.bind.imp fun x σ1 q1 v H1 n1 v1 => ⟨σ1, n1.rs, q1.bind.re n1 fun y σ2 q2 w H2 n2 w2 => ?_⟩⟩
  obtain ⟨p, sp, q3⟩ := (v1.step n1.rs n2).see n2.rs q2
  obtain ⟨p', sp', q4⟩ := w2.see n2.rs q3
  cases e : copD o p p' with
  | none => rw [e] at q4; exact q4.elim
  | some k =>
    rw [e] at q4
    obtain ⟨k', e2, q5⟩ := q4
    cases e2
    exact ⟨p, p', k, sp, sp', e, k, rfl, q5 _ (n1.trans n2)⟩
theorem s_chn {op op' : CmpOp} {o o' : COp} (hm : behindInMarks op' c = false) (ho : OpR X (compareOp op) (rDB X.K (copD o))) (ho' : OpR X (compareOp op') (rDB X.K (copD o')))
    (ha : PE X a (tA X.K ex ca W ia ra)) (hb : PE X b (tA X.K ex ca W ib rb)) (hc : PE X c (tA X.K ex ca W ic rc)) :
    PE X (.Compare a [op, op'] [b, c] pos) (tE X.K ex ca W fun σ => (ra σ).bind fun x σ1 => (rb σ1).bind fun y σ2 => wo ia σ2 x fun d1 => wo ib σ2 y fun d2 => match copD o d1 d2 with
      | some false => .ok (.im (.bl false)) σ2
      | some true => (rc σ2).bind fun z σ3 => wo ib σ3 y fun d2 => wo ic σ3 z fun d3 => (match copD o' d2 d3 with
        | some k => .ok (.im (.bl k)) σ3
        | none => .bad)
      | none => .bad) := by
  refine (pe_chain ho ho' ha hb hc hm).weak fun σ H Q ⟨σd, rs, q⟩ => ?_
  refine ⟨σd, rs, q.bind.imp fun x σ1 q1 v H1 n1 v1 => ⟨σ1, n1.rs, q1.bind.re n1 fun y σ2 q2 w H2 n2 w2 => ?_⟩⟩
  obtain ⟨p, sp, q3⟩ := (v1.step n1.rs n2).see n2.rs q2
  obtain ⟨p', sp', q4⟩ := w2.see n2.rs q3
  have n12 := n1.trans n2
  cases e : copD o p p' with
  | none => rw [e] at q4; exact q4.elim
  | some k =>
    rw [e] at q4
    refine ⟨p, p', k, sp, sp', e, k, rfl, ?_⟩
    cases k with
    | false => exact q4 _ _ n12 rfl
    | true =>
      rw [if_pos rfl]
      refine ⟨σ2, n2.rs, (Res.bind q4).re n12 fun z σ3 q5 u H3 n3 u3 => ?_⟩
      obtain ⟨p2, sp2, q6⟩ := (w2.step n2.rs n3).see n3.rs q5
      obtain ⟨p3, sp3, q7⟩ := u3.see n3.rs q6
      cases e2 : copD o' p2 p3 with
      | none => rw [e2] at q7; exact q7.elim
      | some k2 => rw [e2] at q7; exact ⟨p2, p3, k2, sp2, sp3, e2, q7 _ _ (n12.trans n3) rfl⟩
theorem t_chn {op op' : CmpOp} {o o' : COp} (hm : behindInMarks op' c = false) (ho : OpR X (compareOp op) (rDB X.K (copD o))) (ho' : OpR X (compareOp op') (rDB X.K (copD o')))
    (ha : PE X a (tA X.K ex ca W ia ra)) (hb : PE X b (tA X.K ex ca W ib rb)) (hc : PE X c (tA X.K ex ca W ic rc)) :
    PT X (.Compare a [op, op'] [b, c] pos) (tT X.K ex ca W fun σ => (ra σ).bind fun x σ1 => (rb σ1).bind fun y σ2 => wo ia σ2 x fun d1 => wo ib σ2 y fun d2 => match copD o d1 d2 with
      | some false => .ok (.im (.bl false)) σ2
      | some true => (rc σ2).bind fun z σ3 => wo ib σ3 y fun d2 => wo ic σ3 z fun d3 => (match copD o' d2 d3 with
        | some k => .ok (.im (.bl k)) σ3
        | none => .bad)
      | none => .bad) := by
  refine (pt_chain ho ho' ha hb hc hm).weak fun σ H Q ⟨σd, rs, q⟩ => ?_
  refine ⟨σd, rs, q.bind.imp fun x σ1 q1 v H1 n1 v1 => ⟨σ1, n1.rs, q1.bind.re n1 fun y σ2 q2 w H2 n2 w2 => ?_⟩⟩
  obtain ⟨p, sp, q3⟩ := (v1.step n1.rs n2).see n2.rs q2
  obtain ⟨p', sp', q4⟩ := w2.see n2.rs q3
  have n12 := n1.trans n2
  cases e : copD o p p' with
  | none => rw [e] at q4; exact q4.elim
  | some k =>
    rw [e] at q4
    refine ⟨p, p', k, sp, sp', e, k, rfl, ?_⟩
    cases k with
    | false =>
      obtain ⟨k', e2, q5⟩ := q4
      cases e2
      exact ⟨_, rfl, q5 _ n12⟩
    | true =>
      rw [if_pos rfl]
      refine ⟨σ2, n2.rs, (Res.bind q4).re n12 fun z σ3 q5 u H3 n3 u3 => ?_⟩
      obtain ⟨p2, sp2, q6⟩ := (w2.step n2.rs n3).see n3.rs q5
      obtain ⟨p3, sp3, q7⟩ := u3.see n3.rs q6
      cases e2 : copD o' p2 p3 with
      | none => rw [e2] at q7; exact q7.elim
      | some k2 =>
        rw [e2] at q7
        obtain ⟨k', e3, q8⟩ := q7
        cases e3
        exact ⟨p2, p3, k2, sp2, sp3, e2, k2, rfl, q8 _ (n12.trans n3)⟩
end
end Rf
/-! R7: further constructs. -/
namespace Rf
open PySem PySem.Spec PyProof.Rows L2

section
variable {X : Cx} {ex : ExF} {ca : Nat → Addr} {W : WX} {e a b c : Expr} {ra rb rc : Sls → R Sl} {ia ib ic : IE} {pos : Pos}
/-! ### tests -/
def trR (ia : IE) (ra : Sls → R Sl) : Sls → R Sl := fun σ => (ra σ).bind fun x σ1 => wo ia σ1 x fun p => (match truD p with
  | some k => .ok (.im (.bl k)) σ1
  | none => .bad)
def ntR (ra : Sls → R Sl) : Sls → R Sl := fun σ => (ra σ).bind fun x σ1 => (match x with
  | .im (.bl k) => .ok (.im (.bl (!k))) σ1
  | _ => .bad)
def anR (ra rb : Sls → R Sl) : Sls → R Sl := fun σ => (ra σ).bind fun x σ1 => (match x with
  | .im (.bl true) => rb σ1
  | .im (.bl false) => .ok (.im (.bl false)) σ1
  | _ => .bad)
def orR (ra rb : Sls → R Sl) : Sls → R Sl := fun σ => (ra σ).bind fun x σ1 => (match x with
  | .im (.bl true) => .ok (.im (.bl true)) σ1
  | .im (.bl false) => rb σ1
  | _ => .bad)
def iteR (rc ra rb : Sls → R Sl) : Sls → R Sl := fun σ => (rc σ).bind fun x σ1 => (match x with
  | .im (.bl true) => ra σ1
  | .im (.bl false) => rb σ1
  | _ => .bad)
theorem bl_of {s : Sl} {α : Type} {K : PySem.W.Frag} {σd : Sls} {σ : L2.St} {H : Hp} {f : Bool → R α} {ok : α → Sls → Prop} (h : Res K ex ca W σd σ H (match s with
    | .im (.bl k) => f k
    | _ => .bad) ok) : ∃ k, s = .im (.bl k) ∧ Res K ex ca W σd σ H (f k) ok := by
  cases s with
  | im d => cases d with
    | bl k => exact ⟨k, rfl, h⟩
    | _ => exact h.elim
  | _ => exact h.elim
theorem t_tr (ha : PE X a (tA X.K ex ca W ia ra)) (he : ∀ whole, isTrue a X.env whole = (do let v ← whole; standAt a.pos; holding [v] (truthy v))) : PT X a (tT X.K ex ca W (trR ia ra)) := by
  refine (pt_truth ha he).weak fun σ H Q ⟨σd, rs, q⟩ => ⟨σd, rs, (Res.bind q).imp fun x σ1 q1 v H1 n1 v1 => ?_⟩
  obtain ⟨p, sp, q2⟩ := v1.see n1.rs q1
  cases e : truD p with
  | none => rw [e] at q2; exact q2.elim
  | some k =>
    rw [e] at q2
    obtain ⟨k', e2, q3⟩ := q2
    cases e2
    exact ⟨k, tru_see sp e, q3 _ n1⟩
theorem t_nt (ha : PT X a (tT X.K ex ca W ra)) : PT X (.UnaryOp .Not a pos) (tT X.K ex ca W (ntR ra)) := by
  refine (pt_not ha).weak fun σ H Q ⟨σd, rs, q⟩ => ⟨σd, rs, (Res.bind q).imp fun x σ1 q1 => ?_⟩
  obtain ⟨k, rfl, q2⟩ := bl_of (f := fun k => R.ok (Sl.im (D.bl (!k))) σ1) q1
  obtain ⟨k', e2, q3⟩ := q2
  cases e2
  exact ⟨k, rfl, q3⟩
theorem s_nt (ha : PE X a (tA X.K ex ca W ia ra)) : PE X (.UnaryOp .Not a pos) (tE X.K ex ca W (ntR (trR ia ra))) := by
  refine (pe_notT ha).weak fun σ H Q ⟨σd, rs, q⟩ => ⟨σd, rs, (Res.bind (Res.bind q)).imp fun x σ1 q1 v H1 n1 v1 => ?_⟩
  obtain ⟨p, sp, q2⟩ := v1.see n1.rs q1
  cases e : truD p with
  | none => rw [e] at q2; exact q2.elim
  | some k =>
    rw [e] at q2
    exact ⟨k, tru_see sp e, q2 _ _ n1 rfl⟩
theorem tt_bind {σ : L2.St} {H : Hp} {σd : Sls} {f : Bool → Sls → R Sl} {ok : Sl → Sls → Prop} {P : Bool → Hp → Prop} (rs : RS X.K ex H σd σ)
    (q : Res X.K ex ca W σd σ H ((ra σd).bind fun x σ1 => (match x with
      | .im (.bl k) => f k σ1
      | _ => .bad)) ok) (k : ∀ k σ1 H1, Nx X.K ex σd σ H σ1 σ H1 → Res X.K ex ca W σd σ H (f k σ1) ok → P k H1) : tT X.K ex ca W ra σ H P := by
  refine ⟨σd, rs, q.bind.imp fun x σ1 q1 => ?_⟩
  obtain ⟨b, e, q2⟩ := bl_of (f := fun k => f k σ1) q1
  exact ⟨b, e, fun H1 n1 => k b σ1 H1 n1 q2⟩
theorem match_tf {α : Type} (x : Sl) (f g : R α) : (match x with
    | .im (.bl true) => f
    | .im (.bl false) => g
    | _ => .bad) = (match x with
    | .im (.bl k) => (match k with
      | true => f
      | false => g)
    | _ => .bad) := by
  cases x with
  | im d => cases d with
    | bl k => cases k <;> rfl
    | _ => rfl
  | _ => rfl
theorem w_an {rest : List Expr} (ha : PT X a (tT X.K ex ca W ra)) (hb : PW X (.BoolOp .And (b :: rest) pos) (tT X.K ex ca W rb)) : PW X (.BoolOp .And (a :: b :: rest) pos) (tT X.K ex ca W (anR ra rb)) := by
  refine ⟨fun wh pins s σ H Q I h => (pw_and ha hb).run wh pins s σ H Q I ?_⟩
  obtain ⟨σd, rs, q⟩ := h
  unfold anR at q
  simp only [match_tf] at q
  refine tt_bind rs q fun k σ1 H1 n1 q2 => ?_
  cases k with
  | true =>
    rw [if_pos rfl]
    exact ⟨σ1, n1.rs, q2.re n1 fun s σ2 ⟨k, e, g⟩ => ⟨k, e, fun H2 n2 => g H2 (n1.trans n2)⟩⟩
  | false =>
    obtain ⟨k, e, g⟩ := q2
    cases e
    rw [if_neg Bool.false_ne_true]
    exact g H1 n1
theorem w_or {rest : List Expr} (ha : PT X a (tT X.K ex ca W ra)) (hb : PW X (.BoolOp .Or (b :: rest) pos) (tT X.K ex ca W rb)) : PW X (.BoolOp .Or (a :: b :: rest) pos) (tT X.K ex ca W (orR ra rb)) := by
  refine ⟨fun wh pins s σ H Q I h => (pw_or ha hb).run wh pins s σ H Q I ?_⟩
  obtain ⟨σd, rs, q⟩ := h
  unfold orR at q
  simp only [match_tf] at q
  refine tt_bind rs q fun k σ1 H1 n1 q2 => ?_
  cases k with
  | false =>
    rw [if_neg Bool.false_ne_true]
    exact ⟨σ1, n1.rs, q2.re n1 fun s σ2 ⟨k, e, g⟩ => ⟨k, e, fun H2 n2 => g H2 (n1.trans n2)⟩⟩
  | true =>
    obtain ⟨k, e, g⟩ := q2
    cases e
    rw [if_pos rfl]
    exact g H1 n1
theorem ValR.back {K : PySem.W.Frag} {σd σ1 σ2 : Sls} {σ σ' σ'' : L2.St} {H H1 H2 : Hp} {s : Sl} {v : V} (n1 : Nx K ex σd σ H σ1 σ' H1) (h : ValR K (fun a => H1 a = none) H2 σ2 σ'' s v) : ValR K (fun a => H a = none) H2 σ2 σ'' s v := by
  cases s with
  | mu ds =>
    obtain ⟨a, xs, e, h1, f, no, p⟩ := h
    refine ⟨a, xs, e, h1, f, no, ?_⟩
    cases z : H a with
    | none => exact z
    | some o =>
      obtain ⟨o', e'⟩ := n1.dom a o z
      rw [show H1 a = none from p] at e'; cases e'
  | _ => exact h
theorem s_an {rest : List Expr} (ha : PE X a (tE X.K ex ca W ra)) (hb : PE X (.BoolOp .And (b :: rest) pos) (tE X.K ex ca W rb)) : PE X (.BoolOp .And (a :: b :: rest) pos) (tE X.K ex ca W (anR ra rb)) := by
  refine (pe_and ha hb).weak fun σ H Q ⟨σd, rs, q⟩ => ?_
  unfold anR at q
  simp only [match_tf] at q
  refine ⟨σd, rs, (Res.bind q).imp fun x σ1 q1 v H1 n1 v1 => ?_⟩
  obtain ⟨k, rfl, q2⟩ := bl_of (f := fun k => match k with
    | true => rb σ1
    | false => .ok (.im (.bl false)) σ1) q1
  refine ⟨k, v1, ?_⟩
  cases k with
  | true =>
    rw [if_pos rfl]
    exact ⟨σ1, n1.rs, q2.re n1 fun s σ2 g w H2 n2 w2 => g w H2 (n1.trans n2) (w2.back n1)⟩
  | false =>
    rw [if_neg Bool.false_ne_true]
    exact q2 _ _ n1 rfl
theorem s_or {rest : List Expr} (ha : PE X a (tE X.K ex ca W ra)) (hb : PE X (.BoolOp .Or (b :: rest) pos) (tE X.K ex ca W rb)) : PE X (.BoolOp .Or (a :: b :: rest) pos) (tE X.K ex ca W (orR ra rb)) := by
  refine (pe_or ha hb).weak fun σ H Q ⟨σd, rs, q⟩ => ?_
  unfold orR at q
  simp only [match_tf] at q
  refine ⟨σd, rs, (Res.bind q).imp fun x σ1 q1 v H1 n1 v1 => ?_⟩
  obtain ⟨k, rfl, q2⟩ := bl_of (f := fun k => match k with
    | true => .ok (.im (.bl true)) σ1
    | false => rb σ1) q1
  refine ⟨k, v1, ?_⟩
  cases k with
  | false =>
    rw [if_neg Bool.false_ne_true]
    exact ⟨σ1, n1.rs, q2.re n1 fun s σ2 g w H2 n2 w2 => g w H2 (n1.trans n2) (w2.back n1)⟩
  | true =>
    rw [if_pos rfl]
    exact q2 _ _ n1 rfl
theorem s_ite (hc : PT X c (tT X.K ex ca W rc)) (ha : PE X a (tE X.K ex ca W ra)) (hb : PE X b (tE X.K ex ca W rb)) : PE X (.IfExp c a b pos) (tE X.K ex ca W (iteR rc ra rb)) := by
  refine (pe_ifExp hc ha hb).weak fun σ H Q ⟨σd, rs, q⟩ => ?_
  unfold iteR at q
  simp only [match_tf] at q
  refine tt_bind rs q fun k σ1 H1 n1 q2 => ?_
  cases k with
  | true =>
    rw [if_pos rfl]
    exact ⟨σ1, n1.rs, q2.re n1 fun s σ2 g w H2 n2 w2 => g w H2 (n1.trans n2) (w2.back n1)⟩
  | false =>
    rw [if_neg Bool.false_ne_true]
    exact ⟨σ1, n1.rs, q2.re n1 fun s σ2 g w H2 n2 w2 => g w H2 (n1.trans n2) (w2.back n1)⟩
/-! ### subscripts -/
theorem plainIx {i : Expr} (h : isSlice i = false) : PlainIx i := fun o v => by
  cases i <;> first | rfl | cases h
theorem s_idx (hs : isSlice b = false) (ha : PE X a (tA X.K ex ca W ia ra)) (hb : PE X b (tA X.K ex ca W ib rb)) :
    PE X (.Subscript a b pos) (tE X.K ex ca W fun σ => (ra σ).bind fun x σ1 => (rb σ1).bind fun y σ2 => wo ia σ2 x fun p => wo ib σ2 y fun q => (match idxD p q with
      | some d => .ok (.im d) σ2
      | none => .bad)) := by
  refine (pe_ix ix_ok ha hb (plainIx hs)).weak fun σ H Q ⟨σd, rs, q⟩ => ?_
  refine ⟨σd, rs, (Res.bind q).imp fun x σ1 q1 v H1 n1 v1 => ⟨σ1, n1.rs, (Res.bind q1).re n1 fun y σ2 q2 w H2 n2 w2 => ?_⟩⟩
  obtain ⟨p, sp, q3⟩ := (v1.step n1.rs n2).see n2.rs q2
  obtain ⟨p', sp', q4⟩ := w2.see n2.rs q3
  cases e : idxD p p' with
  | none => rw [e] at q4; exact q4.elim
  | some d => rw [e] at q4; exact ⟨p, p', d, sp, sp', e, fun u f => q4 u H2 (n1.trans n2) f⟩
/-- a bound of a slice -/
def tO (K : PySem.W.Frag) (ex : ExF) (ca : Nat → Addr) (W : WX) (r : Sls → R Sl) : TO := fun σ H Q => ∃ σd, RS K ex H σd σ ∧ Res K ex ca W σd σ H ((r σd).bind fun s σ' => bd s fun o => .ok o σ') fun o σd' => ∀ H', Nx K ex σd σ H σd' σ H' → Q o H'
theorem o_none : PO X none (tO X.K ex ca W fun σ => .ok (.im .non) σ) := by
  refine ⟨fun pins s σ H Q I ⟨σd, rs, q⟩ => po_none.run pins s σ H Q I ?_⟩
  exact q H (.refl rs)
theorem o_some (ha : PE X a (tE X.K ex ca W ra)) : PO X (some a) (tO X.K ex ca W ra) := by
  refine ⟨fun pins s σ H Q I ⟨σd, rs, q⟩ => ?_⟩
  have key : tE X.K ex ca W ra σ H (fun x H' => (x = .non ∧ Q none H') ∨ ∃ i, x = .int i ∧ Q (some i) H') := by
    refine ⟨σd, rs, q.bind.imp fun s σ1 g v H1 n1 v1 => ?_⟩
    cases s with
    | im d => cases d with
      | non => exact .inl ⟨v1, g H1 n1⟩
      | int i => exact .inr ⟨_, v1, g H1 n1⟩
      | _ => exact g.elim
    | _ => exact g.elim
  rw [evalPart_some]
  refine thn (ha.run pins s σ H _ I key) fun u s1 ⟨x, H1, I1, r1, q1⟩ => ?_
  rcases q1 with ⟨rfl, q1⟩ | ⟨i, rfl, q1⟩
  · cases r1
    exact ⟨none, H1, I1, .none, q1⟩
  · obtain ⟨t, rfl⟩ := r1
    exact ⟨some i, H1, I1, .int i t, q1⟩
theorem bd_ok {K : PySem.W.Frag} {σd : Sls} {σ : L2.St} {H : Hp} {α : Type} {r : R Sl} {f : Option Int → Sls → R α} {ok : α → Sls → Prop} (h : Res K ex ca W σd σ H (r.bind fun y σ2 => bd y fun l => f l σ2) ok) :
    Res K ex ca W σd σ H (r.bind fun s σ' => bd s fun o => .ok o σ') fun o σ2 => Res K ex ca W σd σ H (f o σ2) ok := by
  cases r with
  | ok s σ2 => cases s with
    | im d => cases d <;> exact h
    | _ => exact h
  | exc x σ2 => exact h
  | bad => exact h
theorem s_slc {lo hi : Option Expr} {p2 : Pos} (ha : PE X a (tA X.K ex ca W ia ra)) (hl : PO X lo (tO X.K ex ca W rb)) (hh : PO X hi (tO X.K ex ca W rc)) :
    PE X (.Subscript a (.Slice lo hi none p2) pos) (tE X.K ex ca W fun σ => (ra σ).bind fun x σ1 => (rb σ1).bind fun y σ2 => bd y fun l => (rc σ2).bind fun z σ3 => bd z fun h => wo ia σ3 x fun p => ofO (slcD p l h) σ3) := by
  refine (pe_slice sl_ok ha hl hh).weak fun σ H Q ⟨σd, rs, q⟩ => ?_
  refine ⟨σd, rs, (Res.bind q).imp fun x σ1 q1 v H1 n1 v1 => ⟨σ1, n1.rs, (bd_ok (f := fun l σ2 => (rc σ2).bind fun z σ3 => bd z fun h => wo ia σ3 x fun p => ofO (slcD p l h) σ3) q1).re n1 fun l σ2 q2 H2 n2 => ⟨σ2, n2.rs, (bd_ok (f := fun h σ3 => wo ia σ3 x fun p => ofO (slcD p l h) σ3) q2).re (n1.trans n2) fun h σ3 q3 H3 n3 => ?_⟩⟩⟩
  obtain ⟨p, sp, q4⟩ := ((v1.step n1.rs n2).step n2.rs n3).see n3.rs q3
  obtain ⟨s, e, q5⟩ := q4.ofO
  have n := (n1.trans n2).trans n3
  exact ⟨p, s, sp, e, fun u H' r => q5 u H' (n.trans (r.nx n3.rs)) (r.val n)⟩
/-! ### built-ins -/
theorem s_b1 {f : Blt} {x : Str} {p : Pos} {id : String} (hc : CallR X (.builtin id) (rD1 X.K (b1D f))) (hg : Gl X x) (hm : X.mg x = none) (hv : bootBuiltins x = some (.builtin id)) (hn : x ≠ "__name__") (hd : (x == ("__debug__" : Str)) = false) (hs : isStar a = false)
    (ha : PE X a (tA X.K ex ca W ia ra)) : PE X (.Call (.Name x p) [a] [] pos) (tE X.K ex ca W fun σ => (ra σ).bind fun x σ1 => wo ia σ1 x fun p => ofO (b1D f p) σ1) := by
  refine (pe_callB hc hg hm hv (pa_cons ha pa_nil (by cases a <;> first | rfl | cases hs)) hn hd (by cases a <;> first | rfl | cases hs)).weak fun σ H Q ⟨σd, rs, q⟩ => ?_
  refine ⟨σd, rs, (Res.bind q).imp fun x σ1 q1 v H1 n1 v1 => ?_⟩
  obtain ⟨p, sp, q2⟩ := v1.see n1.rs q1
  obtain ⟨s, e, q3⟩ := q2.ofO
  exact ⟨p, s, v, rfl, sp, e, fun u H' r => q3 u H' (n1.trans (r.nx n1.rs)) (r.val n1)⟩
theorem s_b1T {f : Blt} {x : Str} {p : Pos} {T : String} (hc : CallR X (.type T) (rD1 X.K (b1D f))) (hg : Gl X x) (hm : X.mg x = none) (hv : bootBuiltins x = some (.type T)) (hn : x ≠ "__name__") (hd : (x == ("__debug__" : Str)) = false) (hs : isStar a = false)
    (ha : PE X a (tA X.K ex ca W ia ra)) : PE X (.Call (.Name x p) [a] [] pos) (tE X.K ex ca W fun σ => (ra σ).bind fun x σ1 => wo ia σ1 x fun p => ofO (b1D f p) σ1) := by
  refine (pe_callTy hc hg hm hv (pa_cons ha pa_nil (by cases a <;> first | rfl | cases hs)) hn hd (by cases a <;> first | rfl | cases hs)).weak fun σ H Q ⟨σd, rs, q⟩ => ?_
  refine ⟨σd, rs, (Res.bind q).imp fun x σ1 q1 v H1 n1 v1 => ?_⟩
  obtain ⟨p, sp, q2⟩ := v1.see n1.rs q1
  obtain ⟨s, e, q3⟩ := q2.ofO
  exact ⟨p, s, v, rfl, sp, e, fun u H' r => q3 u H' (n1.trans (r.nx n1.rs)) (r.val n1)⟩
theorem args2 {f : Blt} (hb : PE X b (tA X.K ex ca W ib rb)) (ha : PE X a (tA X.K ex ca W ia ra)) (hs : isStar a = false) (hs2 : isStar b = false) {σ : L2.St} {H : Hp} {Q : VK}
    (h : tE X.K ex ca W (fun σ => (ra σ).bind fun x σ1 => (rb σ1).bind fun y σ2 => wo ia σ2 x fun p => wo ib σ2 y fun q => ofO (b2D f p q) σ2) σ H Q) :
    tCons (tA X.K ex ca W ia ra) (tCons (tA X.K ex ca W ib rb) tNil) σ H fun vs H1 => rD2 X.K (b2D f) vs H1 Q := by
  obtain ⟨σd, rs, q⟩ := h
  refine ⟨σd, rs, (Res.bind q).imp fun x σ1 q1 v H1 n1 v1 => ⟨σ1, n1.rs, (Res.bind q1).re n1 fun y σ2 q2 w H2 n2 w2 => ?_⟩⟩
  obtain ⟨p, sp, q3⟩ := (v1.step n1.rs n2).see n2.rs q2
  obtain ⟨p', sp', q4⟩ := w2.see n2.rs q3
  obtain ⟨s, e, q5⟩ := q4.ofO
  exact ⟨p, p', s, v, w, rfl, sp, sp', e, fun u H' r => q5 u H' ((n1.trans n2).trans (r.nx n2.rs)) (r.val (n1.trans n2))⟩
theorem s_b2 {f : Blt} {x : Str} {p : Pos} {id : String} (hc : CallR X (.builtin id) (rD2 X.K (b2D f))) (hg : Gl X x) (hm : X.mg x = none) (hv : bootBuiltins x = some (.builtin id)) (hn : x ≠ "__name__") (hd : (x == ("__debug__" : Str)) = false) (hs : isStar a = false) (hs2 : isStar b = false)
    (ha : PE X a (tA X.K ex ca W ia ra)) (hb : PE X b (tA X.K ex ca W ib rb)) : PE X (.Call (.Name x p) [a, b] [] pos) (tE X.K ex ca W fun σ => (ra σ).bind fun x σ1 => (rb σ1).bind fun y σ2 => wo ia σ2 x fun p => wo ib σ2 y fun q => ofO (b2D f p q) σ2) :=
  (pe_callB hc hg hm hv (pa_cons ha (pa_cons hb pa_nil (by cases b <;> first | rfl | cases hs2)) (by cases a <;> first | rfl | cases hs)) hn hd (by cases a <;> first | rfl | cases hs) (by cases b <;> first | rfl | cases hs2)).weak fun σ H Q h => args2 hb ha hs hs2 h
theorem s_b2f {f : Blt} {x : Str} {p : Pos} {id : String} (hc : CallR X (.builtin id) (rD2 X.K (b2D f))) (hg : Gl X x) (hm : X.mg x = some (.builtin id)) (hd : (x == ("__debug__" : Str)) = false) (hs : isStar a = false) (hs2 : isStar b = false)
    (ha : PE X a (tA X.K ex ca W ia ra)) (hb : PE X b (tA X.K ex ca W ib rb)) : PE X (.Call (.Name x p) [a, b] [] pos) (tE X.K ex ca W fun σ => (ra σ).bind fun x σ1 => (rb σ1).bind fun y σ2 => wo ia σ2 x fun p => wo ib σ2 y fun q => ofO (b2D f p q) σ2) :=
  (pe_callBfun hc hg hm (pa_cons ha (pa_cons hb pa_nil (by cases b <;> first | rfl | cases hs2)) (by cases a <;> first | rfl | cases hs)) hd (by cases a <;> first | rfl | cases hs) (by cases b <;> first | rfl | cases hs2)).weak fun σ H Q h => args2 hb ha hs hs2 h
end
end Rf
/-! R8: calls, lists under work. -/
namespace Rf
open PySem PySem.Spec PyProof.Rows L2

/-! ### a slot's list is written -/
section
variable {K : PySem.W.Frag} {ex : ExF} {σd : Sls} {σ : L2.St} {H H' : Hp} {j : Nat} {a : Addr} {cs cs' : List D} {xs' : List V}
theorem own_set {s : Sl} (h : Own (σd.set j s) σ a) : (∃ ds, s = .mu ds ∧ σ[j]? = some (some (.ref a)) ∧ j < σd.length) ∨ Own σd σ a := by
  obtain ⟨i, ds, h1, h2⟩ := h
  by_cases hij : j = i
  · subst hij
    by_cases hj : j < σd.length
    · rw [List.getElem?_set_self hj] at h1
      exact .inl ⟨ds, Option.some.inj h1, h2, hj⟩
    · rw [List.getElem?_eq_none (by simpa using hj)] at h1; cases h1
  · rw [List.getElem?_set_ne hij] at h1
    exact .inr ⟨i, ds, h1, h2⟩
theorem keep_but (r : RS K ex H σd σ) (hj : σd[j]? = some (.mu cs)) (hs : σ[j]? = some (some (.ref a))) (hf : ∀ b o, H b = some o → b ≠ a → H' b = some o) : KeepA H H' := fun b u h hn => by
  refine hf b u h fun e => ?_
  obtain ⟨ys, q⟩ := r.own_lst ⟨j, cs, hj, hs⟩
  rw [← e, h] at q; cases q
  exact hn ys rfl
/-- what a call leaves: all but tables -/
def SmT (T : List (Addr × Str)) (H H' : Hp) : Prop := (∀ b o, H b = some o → (∀ ps, o ≠ .tbl ps) → H' b = some o) ∧ LamX.Tabs T H' ∧ ∀ b o, H b = some o → ∃ o', H' b = some o'
def SmB (T : List (Addr × Str)) (a : Addr) (H H' : Hp) : Prop := (∀ b o, H b = some o → b ≠ a → (∀ ps, o ≠ .tbl ps) → H' b = some o) ∧ LamX.Tabs T H' ∧ ∀ b o, H b = some o → b ≠ a → ∃ o', H' b = some o'
theorem SmB.of (r : RS K ex H σd σ) (hj : σd[j]? = some (.mu cs)) (hs : σ[j]? = some (some (.ref a))) (hf : ∀ b o, H b = some o → b ≠ a → H' b = some o) : SmB ex.T a H H' :=
  ⟨fun b o h hb _ => hf b o h hb, (keep_but r hj hs hf).tabs r.tab.1, fun b o h hb => ⟨o, hf b o h hb⟩⟩
theorem RS.sm (r : RS K ex H σd σ) (s : SmT ex.T H H') : RS K ex H' σd σ where
  len := r.len
  at_ := fun i sl h => by
    have z := r.at_ i sl h
    have kp : Keep H H' := fun b o e _ hm => s.1 b o e hm
    cases sl with
    | un => exact True.intro
    | im d => obtain ⟨v, e, f⟩ := z; exact ⟨v, e, kp.fz d v f⟩
    | mu ds => obtain ⟨a, xs, e, h1, f⟩ := z; exact ⟨a, xs, e, s.1 _ _ h1 (fun _ e => nomatch e), kp.fzL ds xs f⟩
    | exn x => exact z
    | clo x => exact z
  inj := r.inj
  tab := ⟨s.2.1, ex.JK _ _ (fun b o e _ hm => s.1 b o e hm) r.tab.2⟩
theorem Nx.sm (r : RS K ex H σd σ) (s : SmT ex.T H H') : Nx K ex σd σ H σd σ H' := ⟨r.sm s, fun a o h _ hm => s.1 a o h hm, fun _ h => .inl h, s.2.2⟩
theorem Nx.upd_ownT (r : RS K ex H σd σ) (hj : σd[j]? = some (.mu cs)) (hs : σ[j]? = some (some (.ref a))) (sm : SmB ex.T a H H') (ha : H' a = some (.lst xs')) (f : FzL K H' cs' xs') :
    Nx K ex σd σ H (σd.set j (.mu cs')) σ H' := by
  have keep : Keep H H' := fun b u h hn hm => sm.1 b u h (fun e => by
    obtain ⟨ys, q⟩ := r.own_lst ⟨j, cs, hj, hs⟩
    rw [← e, h] at q; cases q
    exact hn ys rfl) hm
  have hlt : j < σd.length := (List.getElem?_eq_some_iff.mp hj).1
  refine ⟨⟨by rw [List.length_set]; exact r.len, fun i s hi => ?_, fun i k ds es b h1 h2 h3 h4 => ?_, ⟨sm.2.1, ex.JK _ _ keep r.tab.2⟩⟩, fun b o h hn hm => sm.1 b o h (fun e => hn ⟨j, cs, hj, by rw [e]; exact hs⟩) hm, fun b h => ?_, fun b o h => ?_⟩
  · by_cases hij : j = i
    · subst hij
      rw [List.getElem?_set_self hlt] at hi; cases hi
      exact ⟨a, xs', hs, ha, f⟩
    · rw [List.getElem?_set_ne hij] at hi
      have z := r.at_ i s hi
      cases s with
      | un => exact True.intro
      | im d => obtain ⟨v, e2, f2⟩ := z; exact ⟨v, e2, keep.fz d v f2⟩
      | exn x => exact z
      | clo x => exact z
      | mu es =>
        obtain ⟨b, ys, e2, h2, f2⟩ := z
        exact ⟨b, ys, e2, sm.1 b _ h2 (fun e => hij (r.inj j i cs es a hj hi hs (by rw [e2, e]))) (fun _ e => nomatch e), keep.fzL es ys f2⟩
  · have back : ∀ (i : Nat) (ds : List D), (σd.set j (.mu cs'))[i]? = some (.mu ds) → ∃ ds' : List D, σd[i]? = some (.mu ds') := fun i ds h => by
      by_cases hij : j = i
      · subst hij; exact ⟨cs, hj⟩
      · rw [List.getElem?_set_ne hij] at h; exact ⟨ds, h⟩
    obtain ⟨d1, g1⟩ := back i ds h1
    obtain ⟨d2, g2⟩ := back k es h2
    exact r.inj i k d1 d2 b g1 g2 h3 h4
  · rcases own_set h with ⟨_, _, h2, _⟩ | h
    · exact .inl ⟨j, cs, hj, h2⟩
    · exact .inl h
  · by_cases hb : b = a
    · subst hb; exact ⟨_, ha⟩
    · exact sm.2.2 b o h hb
theorem Nx.upd_own (r : RS K ex H σd σ) (hj : σd[j]? = some (.mu cs)) (hs : σ[j]? = some (some (.ref a))) (hf : ∀ b o, H b = some o → b ≠ a → H' b = some o) (ha : H' a = some (.lst xs')) (f : FzL K H' cs' xs') :
    Nx K ex σd σ H (σd.set j (.mu cs')) σ H' := Nx.upd_ownT r hj hs (SmB.of r hj hs hf) ha f
theorem Nx.upd_unT (r : RS K ex H σd σ) (hj : σd[j]? = some (.mu cs)) (hs : σ[j]? = some (some (.ref a))) (sm : SmB ex.T a H H') (ha : ∃ o, H' a = some o) :
    Nx K ex σd σ H (σd.set j .un) σ H' := by
  have keep : Keep H H' := fun b u h hn hm => sm.1 b u h (fun e => by
    obtain ⟨ys, q⟩ := r.own_lst ⟨j, cs, hj, hs⟩
    rw [← e, h] at q; cases q
    exact hn ys rfl) hm
  have hlt : j < σd.length := (List.getElem?_eq_some_iff.mp hj).1
  refine ⟨⟨by rw [List.length_set]; exact r.len, fun i s hi => ?_, fun i k ds es b h1 h2 h3 h4 => ?_, ⟨sm.2.1, ex.JK _ _ keep r.tab.2⟩⟩, fun b o h hn hm => sm.1 b o h (fun e => hn ⟨j, cs, hj, by rw [e]; exact hs⟩) hm, fun b h => ?_, fun b o h => ?_⟩
  · by_cases hij : j = i
    · subst hij
      rw [List.getElem?_set_self hlt] at hi; cases hi
      exact True.intro
    · rw [List.getElem?_set_ne hij] at hi
      have z := r.at_ i s hi
      cases s with
      | un => exact True.intro
      | im d => obtain ⟨v, e2, f2⟩ := z; exact ⟨v, e2, keep.fz d v f2⟩
      | exn x => exact z
      | clo x => exact z
      | mu es =>
        obtain ⟨b, ys, e2, h2, f2⟩ := z
        exact ⟨b, ys, e2, sm.1 b _ h2 (fun e => hij (r.inj j i cs es a hj hi hs (by rw [e2, e]))) (fun _ e => nomatch e), keep.fzL es ys f2⟩
  · have back : ∀ (i : Nat) (ds : List D), (σd.set j .un)[i]? = some (.mu ds) → σd[i]? = some (.mu ds) := fun i ds h => by
      by_cases hij : j = i
      · subst hij; rw [List.getElem?_set_self hlt] at h; cases h
      · rw [List.getElem?_set_ne hij] at h; exact h
    exact r.inj i k ds es b (back i ds h1) (back k es h2) h3 h4
  · rcases own_set h with ⟨_, e, _⟩ | h
    · cases e
    · exact .inl h
  · by_cases hb : b = a
    · subst hb; exact ha
    · exact sm.2.2 b o h hb
theorem Nx.upd_un (r : RS K ex H σd σ) (hj : σd[j]? = some (.mu cs)) (hs : σ[j]? = some (some (.ref a))) (hf : ∀ b o, H b = some o → b ≠ a → H' b = some o) (ha : ∃ o, H' a = some o) :
    Nx K ex σd σ H (σd.set j .un) σ H' := Nx.upd_unT r hj hs (SmB.of r hj hs hf) ha
end

/-! ### what a def promises -/
def VF (K : PySem.W.Frag) (H H' : Hp) : Sl → V → Prop
  | .un, _ => True
  | .im d, v => Fz K H' d v
  | .mu ds, v => ∃ a xs, v = .ref a ∧ H a = none ∧ H' a = some (.lst xs) ∧ FzL K H' ds xs
  | .exn _, _ => False
  | .clo _, _ => False
def spF (K : PySem.W.Frag) (ca : Nat → Addr) (T : List (Addr × Str)) (g : List Sl → FR) : Bool → Sp
  | false => fun vs H Q E => LamX.Tabs T H ∧ ∃ ds, FzL K H ds vs ∧ match g (ds.map .im) with
    | .ok s _ => ∀ v H', SmT T H H' → VF K H H' s v → Q v H'
    | .exc x => ∀ d H', SmT T H H' → XcR K H' x d → E (.ref (ca x.cls)) d H'
    | .bad => False
  | true => fun vs H Q E => LamX.Tabs T H ∧ ∃ cs a xs ds vs', vs = .ref a :: vs' ∧ H a = some (.lst xs) ∧ FzL K H cs xs ∧ FzL K H ds vs' ∧ match g (.mu cs :: ds.map .im) with
    | .ok s (.mu cs') => ∀ v H' xs', SmB T a H H' → H' a = some (.lst xs') → FzL K H' cs' xs' → VF K H H' s v → Q v H'
    | .exc x => ∀ d H', SmB T a H H' → (∃ o, H' a = some o) → XcR K H' x d → E (.ref (ca x.cls)) d H'
    | _ => False
theorem VF.val {K : PySem.W.Frag} {ex : ExF} {σd σd0 σd' : Sls} {σ σ0 : L2.St} {H H0 H' : Hp} {s : Sl} {v : V} (n : Nx K ex σd0 σ0 H0 σd σ H) (n2 : Nx K ex σd σ H σd' σ H') (no : ∀ a, Own σd' σ a → ∃ o, H a = some o) (h : VF K H H' s v) : ValR K (fun a => H0 a = none) H' σd' σ s v := by
  cases s with
  | un => exact True.intro
  | im d => exact h
  | exn x => exact h
  | clo x => exact h
  | mu ds =>
    obtain ⟨a, xs, e, hn, h1, f⟩ := h
    refine ⟨a, xs, e, h1, f, fun z => ?_, ?_⟩
    · obtain ⟨o, q⟩ := no a z
      rw [hn] at q; cases q
    · cases z : H0 a with
      | none => exact z
      | some o =>
        obtain ⟨o', e'⟩ := n.dom a o z
        rw [hn] at e'; cases e'
section
variable {X : Cx} {ex : ExF} {ca : Nat → Addr} {W : WX} {e a b c : Expr} {ra rb rc : Sls → R Sl} {ia ib ic : IE} {pos : Pos}
variable {k : Nat} {f : Addr} {fd : FuncData} {ps : List Str} {g : List Sl → FR} {x : Str} {p : Pos} {es : List Expr}
theorem s_call (F : FnOk X.prog X.w X.K X.mg X.base (L2.CX X.prog X.w) k f fd ps (spF X.K ca ex.T g false)) (hr : Room k X.A) (tk : Takes X W) (hg : Gl X x) (hm : X.mg x = some (.ref f)) (hk : PySem.W.keepIn X.K (.ref f) = true) (hb : Binds X.K fd ps [])
    (hd : (x == ("__debug__" : Str)) = false) (hs : isStar e = false) (hss : (backTo pos (starEach es X.env)).any (·.1) = false) (ha : PA X (e :: es) (tL X.K ex ca W ra)) :
    PE X (.Call (.Name x p) (e :: es) [] pos) (tE X.K ex ca W fun σ => (ra σ).bind fun y σ1 => (match y with
      | .mu ds => callR (g (ds.map .im)) σ1
      | _ => .bad)) := by
  refine (pe_callS F hr hg hm hk hb (fun σ => passAt tk σ) ha hd (by cases e <;> first | rfl | cases hs) hss).weak fun σ H Q ⟨σd, rs, q⟩ => ?_
  refine ⟨σd, rs, (Res.bind q).imp fun y σ1 q1 => ?_⟩
  cases y with
  | mu ds =>
    refine ⟨ds, rfl, fun vs H1 n1 f1 => ⟨n1.rs.tab.1, ds, f1, ?_⟩⟩
    simp only at q1
    cases eg : g (ds.map .im) with
    | ok s io =>
      rw [eg] at q1
      intro v H' sm hv
      have n2 := Nx.sm n1.rs sm
      exact q1 v H' (n1.trans n2) (hv.val n1 n2 fun a z => by obtain ⟨xs, h⟩ := n1.rs.own_lst z; exact ⟨_, h⟩)
    | exc x =>
      rw [eg] at q1
      exact fun d H' sm hx => q1 d H' (n1.trans (.sm n1.rs sm)) hx
    | bad => rw [eg] at q1; exact q1.elim
  | _ => exact q1.elim
theorem s_cio {j : Nat} {y : Str} {py : Pos} (F : FnOk X.prog X.w X.K X.mg X.base (L2.CX X.prog X.w) k f fd ps (spF X.K ca ex.T g true)) (hr : Room k X.A) (tk : Takes X W) (hg : Gl X x) (hm : X.mg x = some (.ref f)) (hk : PySem.W.keepIn X.K (.ref f) = true) (hb : Binds X.K fd ps [])
    (hd : (x == ("__debug__" : Str)) = false) (hN : X.N[j]? = some y) (hv : Vis X.env.scope y) (hyd : (y == ("__debug__" : Str)) = false) (hyc : (y == ("__classdict__" : Str)) = false) (hss : (backTo pos (starEach es X.env)).any (·.1) = false) (ha : PA X es (tL X.K ex ca W ra)) :
    PE X (.Call (.Name x p) (.Name y py :: es) [] pos) (tE X.K ex ca W fun σ => (match σ[j]? with
      | some (.mu _) => (ra σ).bind fun y σ1 => (match y, σ1[j]? with
        | .mu ds, some (.mu cs) => cioR (g (.mu cs :: ds.map .im)) j σ1
        | _, _ => .bad)
      | _ => .bad)) := by
  refine (pe_callS F hr hg hm hk hb (fun σ => passAt tk σ) (pa_cons (pe_var hN hv hyd hyc) ha rfl) hd rfl hss).weak fun σ H Q ⟨σd, rs, q⟩ => ?_
  dsimp only at q
  cases e0 : σd[j]? with
  | none => rw [e0] at q; exact q.elim
  | some s0 => cases s0 with
    | un => rw [e0] at q; exact q.elim
    | im d => rw [e0] at q; exact q.elim
    | exn x => rw [e0] at q; exact q.elim
    | clo x => rw [e0] at q; exact q.elim
    | mu cs0 =>
      rw [e0] at q
      obtain ⟨a, xs0, es0, _, _⟩ := rs.at_ j _ e0
      refine ⟨.ref a, es0, σd, rs, (Res.bind q).imp fun y σ1 q1 => ?_⟩
      cases y with
      | mu ds =>
        cases e1 : σ1[j]? with
        | none => rw [e1] at q1; exact q1.elim
        | some s1 => cases s1 with
          | un => rw [e1] at q1; exact q1.elim
          | im d => rw [e1] at q1; exact q1.elim
          | exn x => rw [e1] at q1; exact q1.elim
          | clo x => rw [e1] at q1; exact q1.elim
          | mu cs =>
            rw [e1] at q1
            refine ⟨ds, rfl, fun vs H1 n1 f1 => ?_⟩
            obtain ⟨b, xs, es1, h1, fc⟩ := n1.rs.at_ j _ e1
            rw [es0] at es1; cases es1
            refine ⟨n1.rs.tab.1, cs, a, xs, ds, vs, rfl, h1, fc, f1, ?_⟩
            simp only at q1
            cases eg : g (.mu cs :: ds.map .im) with
            | ok s io =>
              rw [eg] at q1
              cases io with
              | mu cs' =>
                intro v H' xs' hf ha' fc' hv
                have n2 := Nx.upd_ownT n1.rs e1 es0 hf ha' fc'
                refine q1 v H' (n1.trans n2) (hv.val n1 n2 fun b z => ?_)
                rcases own_set z with ⟨_, _, h2, _⟩ | z
                · rw [es0] at h2; cases h2; exact ⟨_, h1⟩
                · obtain ⟨xs, h⟩ := n1.rs.own_lst z; exact ⟨_, h⟩
              | _ => exact q1.elim
            | exc x =>
              rw [eg] at q1
              exact fun d H' hf ha' hx => q1 d H' (n1.trans (Nx.upd_unT n1.rs e1 es0 hf ha')) hx
            | bad => rw [eg] at q1; exact q1.elim
      | _ => exact q1.elim
/-! ### x.pop() -/
theorem s_pop {i : Nat} {y : Str} {py apos : Pos} (hN : X.N[i]? = some y) (hv : Vis X.env.scope y) (hyd : (y == ("__debug__" : Str)) = false) (hyc : (y == ("__classdict__" : Str)) = false) (hl : (apos.endLine == pos.line) = true) :
    PE X (.Call (.Attribute (.Name y py) "pop" apos) [] [] pos) (tE X.K ex ca W fun σ => (match σ[i]? with
      | some (.mu ds) => (match ds.getLast? with
        | some x => .ok (.im x) (σ.set i (.mu ds.dropLast))
        | none => .bad)
      | _ => .bad)) := by
  refine (pe_bm0 PySem.F.plainAttrs_list PySem.F.slot_list_pop PySem.F.type_list_pop mt_pop (pe_var hN hv hyd hyc) rfl hl).weak fun σ H Q ⟨σd, rs, q⟩ => ?_
  dsimp only at q
  cases e0 : σd[i]? with
  | none => rw [e0] at q; exact q.elim
  | some s0 => cases s0 with
    | un => rw [e0] at q; exact q.elim
    | im d => rw [e0] at q; exact q.elim
    | exn x => rw [e0] at q; exact q.elim
    | clo x => rw [e0] at q; exact q.elim
    | mu ds =>
      rw [e0] at q
      obtain ⟨a, xs, es0, h1, f⟩ := rs.at_ i _ e0
      dsimp only at q
      cases el : ds.getLast? with
      | none => rw [el] at q; exact q.elim
      | some d =>
        rw [el] at q
        rw [List.getLast?_eq_getElem?] at el
        obtain ⟨x, hx, fx⟩ := f.get el
        rw [← f.length] at hx
        refine ⟨.ref a, es0, .inl ⟨rfl, xs, .inl (.inl h1)⟩, a, xs, x, rfl, rfl, h1, hx, ?_⟩
        have hf : ∀ b o, H b = some o → b ≠ a → (upd H a (.lst xs.dropLast)) b = some o := fun b o h hb => by rw [upd_ne hb]; exact h
        have keep := (keep_but rs e0 es0 hf).keep
        have fd : FzL X.K (upd H a (.lst xs.dropLast)) ds.dropLast xs.dropLast := by
          have z := (keep.fzL ds xs f).take (ds.length - 1)
          have e1 : ds.take (ds.length - 1) = ds.dropLast := (List.dropLast_eq_take).symm
          have e2 : xs.take (ds.length - 1) = xs.dropLast := by rw [← f.length]; exact (List.dropLast_eq_take).symm
          rw [e1, e2] at z
          exact z
        exact q x _ (Nx.upd_own rs e0 es0 hf upd_same fd) (keep.fz d x fx)
/-! ### a list display times an int -/
theorem s_rep (ha : PE X a (tE X.K ex ca W ra)) (hb : PE X b (tA X.K ex ca W ib rb)) :
    PE X (.BinOp a .Mult b pos) (tE X.K ex ca W fun σ => (ra σ).bind fun x σ1 => (rb σ1).bind fun y σ2 => wo ib σ2 y fun q => (match x, q with
      | .mu ds, .int j => if (-(2 ^ 63) ≤ j ∧ j < 2 ^ 63) ∧ ds.length * j.toNat ≤ sizeLine then .ok (.mu (List.replicate j.toNat ds).flatten) σ2 else .bad
      | _, _ => .bad)) := by
  refine (pe_op op_rep ha hb).weak fun σ H Q ⟨σd, rs, q⟩ => ?_
  refine ⟨σd, rs, (Res.bind q).imp fun x σ1 q1 v H1 n1 v1 => ⟨σ1, n1.rs, (Res.bind q1).re n1 fun y σ2 q2 w H2 n2 w2 => ?_⟩⟩
  obtain ⟨p, sp, q3⟩ := w2.see n2.rs q2
  have v2 := v1.step n1.rs n2
  cases x with
  | mu ds => cases p with
    | int j =>
      simp only at q3
      split at q3
      · rename_i hz
        obtain ⟨⟨z1, z2⟩, z3⟩ := hz
        obtain ⟨l, xs, e, h1, f, no, pn⟩ := v2
        refine ⟨l, j, xs, e, sp, h1, z1, z2, by rw [f.length]; exact z3, fun p hp => ?_⟩
        have r := res_lst (f.rep j.toNat) p hp
        exact q3 _ _ ((n1.trans n2).trans (.same n2.rs r.1)) (r.val (n1.trans n2))
      · exact q3.elim
    | _ => exact q3.elim
  | _ => exact q3.elim
/-! ### isinstance -/
def tyName : D → String
  | .non => "NoneType"
  | .bl _ => "bool"
  | .int _ => "int"
  | .str _ => "str"
  | .tup _ => "tuple"
  | .lst _ => "list"
theorem ty_see {H : Hp} {d : D} {v : V} (h : See X.K H d v) : TyX X.K H v (.type (tyName d)) := by
  cases d with
  | non => rw [show v = .non from h]; exact .base .non
  | bl b => rw [show v = .bl b from h]; exact .base (.bl b)
  | int b => rw [show v = .int b from h]; exact .base (.int b)
  | str b => rw [show v = .str b from h.1]; exact .base (.str b)
  | tup ds =>
    obtain ⟨a, xs, e, s, _⟩ := h
    rw [e]
    rcases s with (s | ⟨o, s⟩) | ⟨o, its, n, s1, s2, _⟩
    · exact .base (.tup s)
    · exact .fTuple s
    · exact .kTuple s1 s2
  | lst ds =>
    obtain ⟨a, xs, e, s, _⟩ := h
    rw [e]
    rcases s with s | ⟨o, s⟩
    · exact .base (.lst s)
    · exact .base (.frz s)
theorem s_isi {f : Blt} {T : String} {x t : Str} {p pt : Pos} (hk : ∀ d s, b1D f d = some s → ∃ r, s = .im (.bl r) ∧ kitB (tyName d) T = some r) (hg : Gl X x) (hm : X.mg x = none) (hv : bootBuiltins x = some (.builtin "isinstance")) (hn : x ≠ "__name__") (hd : (x == ("__debug__" : Str)) = false)
    (hs : isStar a = false) (tg : Gl X t) (tm : X.mg t = none) (tv : bootBuiltins t = some (.type T)) (tn : t ≠ "__name__") (td : (t == ("__debug__" : Str)) = false) (ha : PE X a (tA X.K ex ca W ia ra)) :
    PE X (.Call (.Name x p) [a, .Name t pt] [] pos) (tE X.K ex ca W fun σ => (ra σ).bind fun x σ1 => wo ia σ1 x fun p => ofO (b1D f p) σ1) := by
  refine (pe_callB call_isi hg hm hv (pa_cons ha (pa_cons (pe_bltn (v := .ty T) tg tm tv rfl tn td) pa_nil) (by cases a <;> first | rfl | cases hs)) hn hd (by cases a <;> first | rfl | cases hs)).weak fun σ H Q ⟨σd, rs, q⟩ => ?_
  refine ⟨σd, rs, (Res.bind q).imp fun x σ1 q1 v H1 n1 v1 => ?_⟩
  obtain ⟨p, sp, q2⟩ := v1.see n1.rs q1
  obtain ⟨s, e, q3⟩ := q2.ofO
  obtain ⟨r, e2, kr⟩ := hk p s e
  subst e2
  exact ⟨v, .ty T, _, _, r, rfl, .ty T, ty_see sp, kit_ty kr, q3 _ _ n1 rfl⟩
/-- isinstance(e, C) of the caught exception -/
theorem s_isx {i : Nat} {y x t : Str} {p py pt : Pos} {C : Addr} {sb : Sub} {cl : Nat} (hN : X.N[i]? = some y) (hv : Vis X.env.scope y) (hyd : (y == ("__debug__" : Str)) = false) (hyc : (y == ("__classdict__" : Str)) = false)
    (hx : ∀ a z, ex a ⟨z, none⟩ → ∃ oe, (a, oe) ∈ X.pn ∧ Zc (.ref (ca z)) none oe ∧ (∃ vs, oe.data = .fields vs) ∧ ExcC X.K (ca z) ∧ PySem.W.kitOne X.K (.ref (ca z)) (.ref C) = some (sb z cl))
    (hg : Gl X x) (hm : X.mg x = none) (hb : bootBuiltins x = some (.builtin "isinstance")) (hn : x ≠ "__name__") (hd : (x == ("__debug__" : Str)) = false) (tg : Gl X t) (tm : X.mg t = some (.ref C)) (td : (t == ("__debug__" : Str)) = false) :
    PE X (.Call (.Name x p) [.Name y py, .Name t pt] [] pos) (tE X.K ex ca W fun σ => (match σ[i]? with
      | some (.exn ⟨x, none⟩) => .ok (.im (.bl (sb x cl))) σ
      | _ => .bad)) := by
  have hc : CallR X (.builtin "isinstance") (fun xs H Q => ∃ a z, xs = [.ref a, .ref C] ∧ ex a ⟨z, none⟩ ∧ Q (.bl (sb z cl)) H) := by
    intro pins s σ H xs us Q I r h
    obtain ⟨a, z, rfl, hz, q⟩ := h
    obtain ⟨oe, mem, zc, ⟨vs, hvs⟩, cc, kk⟩ := hx a z hz
    obtain ⟨u, w, rfl, ru, rw'⟩ := vals2 r
    cases ru
    cases rw'
    obtain ⟨hget, _⟩ := I.pin (a, oe) (List.mem_append.mpr (.inl mem))
    have J : PySem.W.InstAt s.heap a oe (ca z) none := by
      obtain ⟨oc, od, oda, osl⟩ := oe
      obtain ⟨rfl, rfl⟩ := zc
      exact ⟨hget, rfl, (show oda = _ from hvs) ▸ rfl, trivial⟩
    exact PySem.W.kia_one (PySem.W.handS_kitx_exc cc.hg cc.hk cc.hs cc.hd cc.ha cc.hn cc.ht cc.hm) I.kIn J kk (fun z => nomatch z) fun tk => ⟨.bl _, H, I.kept (t' := tk) (fun _ _ z => z), rfl, q⟩
  refine (pe_callB hc hg hm hb (pa_cons (pe_var hN hv hyd hyc) (pa_cons (pe_glob tg tm (v := .ref C) rfl td) pa_nil)) hn hd).weak fun σ H Q ⟨σd, rs, q⟩ => ?_
  dsimp only at q
  cases e0 : σd[i]? with
  | none => rw [e0] at q; exact q.elim
  | some s0 => cases s0 with
    | un => rw [e0] at q; exact q.elim
    | im d => rw [e0] at q; exact q.elim
    | mu d => rw [e0] at q; exact q.elim
    | clo z => rw [e0] at q; exact q.elim
    | exn z =>
      obtain ⟨z, zc⟩ := z
      cases zc with
      | some d => rw [e0] at q; exact q.elim
      | none =>
        rw [e0] at q
        obtain ⟨a, e1, hz⟩ := rs.at_ i _ e0
        exact ⟨.ref a, e1, a, z, rfl, hz, q _ H (.refl rs) rfl⟩
end
end Rf
/-! R9: targets, what loops go over, comprehensions. -/
namespace Rf
open PySem PySem.Spec PyProof.Rows L2

/-! ### a slot is stored -/
section
variable {K : PySem.W.Frag} {ex : ExF} {σd : Sls} {σ : L2.St} {H : Hp} {i : Nat} {v : V}
theorem own_set_im {d : D} {o : Option V} {a : Addr} (r : RS K ex H σd σ) (h : Own (σd.set i (.im d)) (σ.set i o) a) : Own σd σ a := by
  obtain ⟨j, ds, h1, h2⟩ := h
  by_cases hij : i = j
  · subst hij
    by_cases hj : i < σd.length
    · rw [List.getElem?_set_self hj] at h1; cases h1
    · rw [List.getElem?_eq_none (by simpa using hj)] at h1; cases h1
  · rw [List.getElem?_set_ne hij] at h1 h2
    exact ⟨j, ds, h1, h2⟩
theorem RS.set_im {d : D} (r : RS K ex H σd σ) (f : Fz K H d v) : RS K ex H (σd.set i (.im d)) (σ.set i (some v)) where
  tab := r.tab
  len := by rw [List.length_set, List.length_set]; exact r.len
  at_ := fun j s h => by
    by_cases hij : i = j
    · subst hij
      by_cases hj : i < σd.length
      · rw [List.getElem?_set_self hj] at h; cases h
        exact ⟨v, List.getElem?_set_self (by rw [← r.len]; exact hj), f⟩
      · rw [List.getElem?_eq_none (by simpa using hj)] at h; cases h
    · rw [List.getElem?_set_ne hij] at h ⊢
      exact r.at_ j s h
  inj := fun j k ds es a h1 h2 h3 h4 => by
    by_cases hij : i = j
    · subst hij
      by_cases hj : i < σd.length
      · rw [List.getElem?_set_self hj] at h1; cases h1
      · rw [List.getElem?_eq_none (by simpa using hj)] at h1; cases h1
    · by_cases hik : i = k
      · subst hik
        by_cases hj : i < σd.length
        · rw [List.getElem?_set_self hj] at h2; cases h2
        · rw [List.getElem?_eq_none (by simpa using hj)] at h2; cases h2
      · rw [List.getElem?_set_ne hij] at h1 h3
        rw [List.getElem?_set_ne hik] at h2 h4
        exact r.inj j k ds es a h1 h2 h3 h4
theorem RS.set_mu {ds : List D} {a : Addr} {xs : List V} (r : RS K ex H σd σ) (h1 : H a = some (.lst xs)) (f : FzL K H ds xs) (no : ¬ Own σd σ a) : RS K ex H (σd.set i (.mu ds)) (σ.set i (some (.ref a))) where
  tab := r.tab
  len := by rw [List.length_set, List.length_set]; exact r.len
  at_ := fun j s h => by
    by_cases hij : i = j
    · subst hij
      by_cases hj : i < σd.length
      · rw [List.getElem?_set_self hj] at h; cases h
        exact ⟨a, xs, List.getElem?_set_self (by rw [← r.len]; exact hj), h1, f⟩
      · rw [List.getElem?_eq_none (by simpa using hj)] at h; cases h
    · rw [List.getElem?_set_ne hij] at h ⊢
      exact r.at_ j s h
  inj := fun j k ds' es b g1 g2 g3 g4 => by
    have at_i : ∀ {b : Addr}, (σ.set i (some (.ref a)))[i]? = some (some (.ref b)) → b = a := fun {b} h => by
      by_cases hj : i < σ.length
      · rw [List.getElem?_set_self hj] at h; cases h; rfl
      · rw [List.getElem?_eq_none (by simpa using hj)] at h; cases h
    by_cases hij : i = j
    · by_cases hik : i = k
      · rw [← hij, ← hik]
      · exfalso
        subst hij
        have e := at_i g3
        rw [List.getElem?_set_ne hik] at g2 g4
        exact no ⟨k, es, g2, by rw [← e]; exact g4⟩
    · by_cases hik : i = k
      · exfalso
        subst hik
        have e := at_i g4
        rw [List.getElem?_set_ne hij] at g1 g3
        exact no ⟨j, ds', g1, by rw [← e]; exact g3⟩
      · rw [List.getElem?_set_ne hij] at g1 g3
        rw [List.getElem?_set_ne hik] at g2 g4
        exact r.inj j k ds' es b g1 g2 g3 g4
theorem own_set_mu {ds : List D} {a b : Addr} (r : RS K ex H σd σ) (h : Own (σd.set i (.mu ds)) (σ.set i (some (.ref a))) b) : b = a ∨ Own σd σ b := by
  obtain ⟨j, es, h1, h2⟩ := h
  by_cases hij : i = j
  · subst hij
    by_cases hj : i < σ.length
    · rw [List.getElem?_set_self hj] at h2; cases h2; exact .inl rfl
    · rw [List.getElem?_eq_none (by simpa using hj)] at h2; cases h2
  · rw [List.getElem?_set_ne hij] at h1 h2
    exact .inr ⟨j, es, h1, h2⟩
end
/-- a target takes data -/
def gD (K : PySem.W.Frag) (ex : ExF) (t : Tg) : TG := fun v σ H Q => ∃ σd d σd', RS K ex H σd σ ∧ Fz K H d v ∧ asgT t d σd = some σd' ∧
  ∀ σ', RS K ex H σd' σ' → (∀ a, Own σd' σ' a → Own σd σ a) → (∀ i, i ∉ tgs t → σ'[i]? = σ[i]?) → σ'.length = σ.length → Q σ' H
def gDs (K : PySem.W.Frag) (ex : ExF) (t : Tg) : TGs := fun vs σ H Q => ∃ σd ds σd', RS K ex H σd σ ∧ FzL K H ds vs ∧ asgT t (.tup ds) σd = some σd' ∧
  ∀ σ', RS K ex H σd' σ' → (∀ a, Own σd' σ' a → Own σd σ a) → (∀ i, i ∉ tgs t → σ'[i]? = σ[i]?) → σ'.length = σ.length → Q σ' H
section
variable {X : Cx} {ex : ExF} {ca : Nat → Addr} {W : WX} {e a b c : Expr} {ra rb rc : Sls → R Sl} {ia ib ic : IE} {pos : Pos}
theorem g_nm {i : Nat} {x : Str} (hN : X.N.Nodup) (hi : X.N[i]? = some x) (hx : Loc X.env.scope x) (hf : X.fn x = true ∨ X.env.scope.names.lookup x = some .local) : PG X (.Name x pos) (gD X.K ex (.nm i)) :=
  (pg_name hN hi hx hf).weak fun v σ H Q ⟨σd, d, σd', rs, f, e, q⟩ => by
    cases e
    refine q _ (rs.set_im f) (fun a z => own_set_im rs z) (fun j hj => ?_) (List.length_set)
    have hj' : j ≠ i := by simpa [tgs] using hj
    exact List.getElem?_set_ne (Ne.symm hj')
theorem gs_nil : PGs X [] (gDs X.K ex .nl) := ⟨fun pins s σ H vs us Q I r ⟨σd, ds, σd', rs, f, e, q⟩ => by
  refine pgs_nil.run pins s σ H vs us Q I r ?_
  cases ds with
  | nil =>
    cases e
    exact ⟨f, q σ rs (fun _ z => z) (fun _ _ => rfl) rfl⟩
  | cons d ds => cases e⟩
theorem gs_cons {es : List Expr} {t ts : Tg} (h1 : PG X e (gD X.K ex t)) (h2 : PGs X es (gDs X.K ex ts)) (hs : isStar e = false) : PGs X (e :: es) (gDs X.K ex (.cs t ts)) := ⟨fun pins s σ H vs us Q I r ⟨σd, ds, σd', rs, f, e1, q⟩ => by
  refine (pgs_cons h1 h2 (by cases e <;> first | rfl | cases hs)).run pins s σ H vs us Q I r ?_
  cases ds with
  | nil => cases e1
  | cons d ds =>
    obtain ⟨x, vr, e2, fx, fr⟩ := f
    simp only [asgT] at e1
    cases e3 : asgT t d σd with
    | none => rw [e3] at e1; cases e1
    | some σ1 =>
      rw [e3] at e1
      refine ⟨x, vr, e2, σd, d, σ1, rs, fx, e3, fun σ' rs' ow' sm' ln' => ⟨σ1, ds, σd', rs', fr, e1, fun σ'' rs2 ow2 sm2 ln2 => q σ'' rs2 (fun a z => ow' a (ow2 a z)) (fun i hi => ?_) (ln2.trans ln')⟩⟩
      have hi' : i ∉ tgs t ∧ i ∉ tgs ts := by simpa [tgs] using hi
      rw [sm2 i hi'.2, sm' i hi'.1]⟩
theorem g_tup {es : List Expr} {k : Nat} {t : Tg} (hc : X.calm = true) (h : PGs X es (gDs X.K ex t)) (hl : (assignEach es X.env).length = es.length) (hst : (assignEach es X.env).findIdx? (·.1) = none) (ht : ∀ i, t ≠ .nm i) (hlen : ∀ ds σ σ', asgT t (.tup ds) σ = some σ' → ds.length = es.length) : PG X (.Tuple es k pos) (gD X.K ex t) :=
  (pg_tup hc h rfl hst).weak fun v σ H Q ⟨σd, d, σd', rs, f, e, q⟩ => by
    have hd : ∃ ds, d = .tup ds := by
      cases t with
      | nm i => exact absurd rfl (ht i)
      | nl => cases d with
        | tup ds => exact ⟨ds, rfl⟩
        | _ => cases e
      | cs t ts => cases d with
        | tup ds => exact ⟨ds, rfl⟩
        | _ => cases e
    obtain ⟨ds, rfl⟩ := hd
    obtain ⟨a, xs, e1, s1, f1⟩ := f
    refine ⟨a, xs, e1, s1, ?_, σd, ds, σd', rs, f1, e, q⟩
    rw [f1.length, hl]
    exact hlen ds σd σd' e
theorem star_len : ∀ (es : List Expr) (env : Env), (assignEach es env).length = es.length
  | [], _ => rfl
  | e :: es, env => by cases e <;> simp [assignEach, star_len es env]
theorem star_find : ∀ (es : List Expr) (env : Env), (∀ e ∈ es, isStar e = false) → (assignEach es env).findIdx? (·.1) = none
  | [], _, _ => rfl
  | e :: es, env, h => by
    have h1 := h e (List.mem_cons_self ..)
    have ih := star_find es env fun z hz => h z (List.mem_cons_of_mem _ hz)
    cases e <;> first
      | (simp only [assignEach, List.findIdx?_cons, ih]; rfl)
      | cases h1
theorem listT_cs (T : Expr → Option Tg) : ∀ {es : List Expr} {t : Tg}, listT T es = some t → (∀ i, t ≠ .nm i) ∧ (∀ e ∈ es, isStar e = false) ∧ ∀ ds σ σ', asgT t (.tup ds) σ = some σ' → ds.length = es.length
  | [], t, h => by
    cases h
    refine ⟨(fun _ z => nomatch z), (fun _ z => nomatch z), fun ds σ σ' e => ?_⟩
    cases ds with
    | nil => rfl
    | cons _ _ => cases e
  | e :: es, t, h => by
    simp only [listT] at h
    split at h
    · cases h
    · rename_i hs
      split at h
      · rename_i t1 ts h1 h2
        cases h
        obtain ⟨_, g2, g3⟩ := listT_cs T h2
        refine ⟨(fun _ z => nomatch z), fun z hz => ?_, fun ds σ σ' e1 => ?_⟩
        · rcases List.mem_cons.mp hz with rfl | hz
          · simpa using hs
          · exact g2 z hz
        · cases ds with
          | nil => cases e1
          | cons d ds =>
            simp only [asgT] at e1
            split at e1
            · rw [List.length_cons, List.length_cons, g3 _ _ _ e1]
            · cases e1
      · cases h
/-! ### what a loop goes over -/
/-- the iterator J hands out the data ds, from H0 on -/
structure ItD (K : PySem.W.Frag) (J : It) (ds : List D) (H0 : Hp) : Prop where
  go : ∀ H i, Keep H0 H → i < ds.length → J.go i H
  yld : ∀ H i x H', Keep H0 H → J.yld i H x H' → i < ds.length → Same H H' ∧ ∃ d, ds[i]? = some d ∧ Fz K H' d x
  stop : ∀ H, Keep H0 H → J.stop ds.length H
theorem it_lst {K : PySem.W.Frag} {H : Hp} {a : Addr} {xs : List V} {ds : List D} (s : FrL H a xs) (f : FzL K H ds xs) : ItD K (Itl K a) ds H where
  go := fun H' i k hi => by
    obtain ⟨d, hd⟩ : ∃ d, ds[i]? = some d := ⟨_, List.getElem?_eq_getElem hi⟩
    obtain ⟨x, hx, _⟩ := f.get hd
    exact ⟨xs, x, .inl (k.frL s).rd, hx⟩
  yld := fun H' i x H'' k y hi => by
    obtain ⟨rfl, y⟩ := y
    obtain ⟨d, hd⟩ : ∃ d, ds[i]? = some d := ⟨_, List.getElem?_eq_getElem hi⟩
    obtain ⟨z, hz, fz⟩ := f.get hd
    have e := y xs (.inl (k.frL s).rd)
    rw [hz] at e; cases e
    exact ⟨Same.refl _, d, hd, k.fz d _ fz⟩
  stop := fun H' k => ⟨xs, .inl (k.frL s).rd, by rw [f.length]; exact Nat.le_refl _⟩
theorem it_tup {K : PySem.W.Frag} {H : Hp} {a : Addr} {xs : List V} {ds : List D} (s : SqT K H a xs) (f : FzL K H ds xs) : ItD K (Itt K a) ds H where
  go := fun H' i k hi => by
    obtain ⟨d, hd⟩ : ∃ d, ds[i]? = some d := ⟨_, List.getElem?_eq_getElem hi⟩
    obtain ⟨x, hx, _⟩ := f.get hd
    exact ⟨xs, x, k.sqT s, hx⟩
  yld := fun H' i x H'' k y hi => by
    obtain ⟨rfl, y⟩ := y
    obtain ⟨d, hd⟩ : ∃ d, ds[i]? = some d := ⟨_, List.getElem?_eq_getElem hi⟩
    obtain ⟨z, hz, fz⟩ := f.get hd
    have e := y xs (k.sqT s)
    rw [hz] at e; cases e
    exact ⟨Same.refl _, d, hd, k.fz d _ fz⟩
  stop := fun H' k => ⟨xs, k.sqT s, by rw [f.length]; exact Nat.le_refl _⟩
theorem rngL_get (lo : Int) (hi : Int) (i : Nat) (h : i < (hi - lo).toNat) : (rngL lo hi)[i]? = some (.int (lo + (i : Int))) := by
  unfold rngL
  rw [List.getElem?_map, List.getElem?_range h]
  rfl
theorem rngL_len (lo hi : Int) : (rngL lo hi).length = (hi - lo).toNat := by simp [rngL]
theorem it_rng {K : PySem.W.Frag} {H : Hp} (lo hi : Int) : ItD K (Itr lo (hi - lo).toNat) (rngL lo hi) H where
  go := fun H' i k h => by rw [rngL_len] at h; exact h
  yld := fun H' i x H'' k y h => by
    obtain ⟨rfl, rfl⟩ := y
    rw [rngL_len] at h
    exact ⟨Same.refl _, _, rngL_get lo hi i h, rfl⟩
  stop := fun H' k => by rw [rngL_len]; exact Nat.le_refl _
def tI (K : PySem.W.Frag) (ex : ExF) (ca : Nat → Addr) (W : WX) (r : Sls → R Sl) : TI := fun σ H Q => ∃ σd, RS K ex H σd σ ∧ Res K ex ca W σd σ H ((r σd).bind fun x σ1 => wd x fun p => (match p.its? with
  | some ds => .ok ds σ1
  | none => .bad)) fun ds σd' => ∀ J H', Nx K ex σd σ H σd' σ H' → ItD K J ds H' → Q J H'
theorem i_seq {tg : Expr} (h : PE X a (tE X.K ex ca W ra)) : PI X tg a (tI X.K ex ca W ra) := by
  refine ((pi_list (pe_frz h)).or (pi_tup h)).weak fun σ H Q ⟨σd, rs, q⟩ => ?_
  have q1 := q.bind
  cases e : ra σd with
  | bad => rw [e] at q1; exact q1.elim
  | exc x σ1 =>
    rw [e] at q1
    exact .inl ⟨σd, rs, by rw [e]; exact q1⟩
  | ok s σ1 =>
    rw [e] at q1
    have q2 : Res X.K ex ca W σd σ H (wd s fun p => (match p.its? with
      | some ds => R.ok ds σ1
      | none => .bad)) fun ds σd' => ∀ J H', Nx X.K ex σd σ H σd' σ H' → ItD X.K J ds H' → Q J H' := q1
    cases s with
    | un => exact q2.elim
    | exn x => exact q2.elim
    | clo x => exact q2.elim
    | mu ds =>
      refine .inl ⟨σd, rs, by
        rw [e]
        intro v H1 n1 v1
        obtain ⟨b, xs, e1, h1, f, no, p⟩ := v1
        subst e1
        refine .inr ⟨b, xs, h1, fun o => ⟨b, rfl, ⟨xs, .inl (.inr ⟨o, upd_same⟩)⟩, q2 _ _ (n1.frz h1 no p o) ?_⟩⟩
        have z := fz_frz h1 f o
        obtain ⟨b', xs', e2, s2, f2⟩ := z
        cases e2
        exact it_lst s2 f2⟩
    | im d => cases d with
      | tup ds =>
        refine .inr ⟨σd, rs, by
          rw [e]
          intro v H1 n1 v1
          obtain ⟨b, xs, e1, s1, f⟩ := v1
          exact ⟨b, e1, ⟨xs, s1⟩, q2 _ _ n1 (it_tup s1 f)⟩⟩
      | lst ds =>
        refine .inl ⟨σd, rs, by
          rw [e]
          intro v H1 n1 v1
          obtain ⟨b, xs, e1, s1, f⟩ := v1
          exact .inl ⟨b, e1, ⟨xs, .inl s1.rd⟩, q2 _ _ n1 (it_lst s1 f)⟩⟩
      | _ => exact q2.elim
theorem star1 {e : Expr} {es : List Expr} {env : Env} (h : isStar e = false) : starEach (e :: es) env = (false, eval e env) :: starEach es env := by
  cases e <;> first | rfl | cases h
theorem i_rng1 {tg : Expr} {p : Pos} (hg : Gl X "range") (hm : X.mg "range" = none) (hs : isStar a = false) (ha : PE X a (tE X.K ex ca W ra)) : PI X tg (.Call (.Name "range" p) [a] [] pos) (tI X.K ex ca W fun σ => (ra σ).bind fun x σ1 => wd x fun p => (match p with
    | .int k => if rngIn k = true then .ok (.mu (rngL 0 k)) σ1 else .bad
    | _ => .bad)) := by
  refine (pi_range1 hg hm (pa_cons ha pa_nil (star1 hs)) (star1 hs)).weak fun σ H Q ⟨σd, rs, q⟩ => ⟨σd, rs, q.bind.bind.imp fun y σ1 q v H1 n1 v1 => ?_⟩
  cases y with
  | im d => cases d with
    | int k =>
      have q2 : Res X.K ex ca W σd σ H ((if rngIn k = true then R.ok (.mu (rngL 0 k)) σ1 else .bad : R Sl)) _ := q
      split at q2
      · rename_i hk
        have hk' : -(2 ^ 62) ≤ k ∧ k < 2 ^ 62 := by simpa [rngIn] using hk
        cases v1
        refine ⟨k, rfl, hk'.1, hk'.2, ?_⟩
        have := q2 (Itr 0 (k - 0).toNat) H1 n1 (it_rng 0 k)
        simpa using this
      · exact q2.elim
    | _ => exact q.elim
  | _ => exact q.elim
theorem i_rng2 {tg : Expr} {p : Pos} (hg : Gl X "range") (hm : X.mg "range" = none) (hs : isStar a = false) (hs' : isStar b = false) (ha : PE X a (tE X.K ex ca W ra)) (hb : PE X b (tE X.K ex ca W rb)) : PI X tg (.Call (.Name "range" p) [a, b] [] pos) (tI X.K ex ca W fun σ => (ra σ).bind fun x σ1 => wd x fun p => (rb σ1).bind fun y σ2 => wd y fun q => (match p, q with
    | .int l, .int k => if rngIn l = true ∧ rngIn k = true then .ok (.mu (rngL l k)) σ2 else .bad
    | _, _ => .bad)) := by
  refine (pi_range2 hg hm (pa_cons ha (pa_cons hb pa_nil (star1 hs')) (star1 hs)) (by rw [star1 hs, star1 hs']; rfl) (star1 hs')).weak fun σ H Q ⟨σd, rs, q⟩ => ⟨σd, rs, q.bind.bind.imp fun y σ1 q v H1 n1 v1 => ?_⟩
  obtain ⟨d, sv, q1⟩ := v1.see q
  refine ⟨σ1, n1.rs, q1.bind.re n1 fun z σ2 q v2 H2 n2 v2r => ?_⟩
  obtain ⟨e, sv2, q2⟩ := v2r.see q
  cases d with
  | int l =>
    cases e with
    | int k =>
      have q2 : Res X.K ex ca W σd σ H ((if rngIn l = true ∧ rngIn k = true then R.ok (.mu (rngL l k)) σ2 else .bad : R Sl)) _ := q2
      split at q2
      · rename_i hk
        have hk' : (-(2 ^ 62) ≤ l ∧ l < 2 ^ 62) ∧ (-(2 ^ 62) ≤ k ∧ k < 2 ^ 62) := by simpa [rngIn] using hk
        cases sv; cases sv2
        exact ⟨l, k, rfl, ⟨hk'.1.1, hk'.1.2, hk'.2.1, hk'.2.2⟩, q2 _ H2 (n1.trans n2) (it_rng l k)⟩
      · exact q2.elim
    | _ => exact q2.elim
  | _ => cases e <;> exact q2.elim
theorem fzl_rng {K : PySem.W.Frag} {H : Hp} (l k : Int) : FzL K H (rngL l k) (rgV l k) := by
  have h := FzL.ints (K := K) (H := H) ((List.range (k - l).toNat).map fun n : Nat => l + (n : Int))
  rw [List.map_map, List.map_map] at h
  exact h
def lrgR (tp : Bool) (ra rb : Sls → R Sl) : Sls → R Sl := fun σ => (ra σ).bind fun x σ1 => wd x fun p => (rb σ1).bind fun y σ2 => wd y fun q => (match p, q with
    | .int l, .int k => if (rngIn l = true ∧ rngIn k = true) ∧ (k - l).toNat ≤ 16777216 then .ok (if tp = true then .im (.tup (rngL l k)) else .mu (rngL l k)) σ2 else .bad
    | _, _ => .bad)
theorem s_lrg2 {p p2 pos2 : Pos} {tp : Bool} {f : Str} (hf : f = if tp = true then "tuple" else "list") (hc : X.calm = true) (hgf : Gl X f) (hmf : X.mg f = none) (hg : Gl X "range") (hm : X.mg "range" = none) (hs : isStar a = false) (hs' : isStar b = false) (ha : PE X a (tE X.K ex ca W ra)) (hb : PE X b (tE X.K ex ca W rb)) :
    PE X (.Call (.Name f p) [.Call (.Name "range" p2) [a, b] [] pos2] [] pos) (tE X.K ex ca W (lrgR tp ra rb)) := by
  have RG := prg_2 (p := p2) (pos := pos2) hg hm ha hb (by rw [star1 hs]) (star1 hs') (by rw [star1 hs']; rfl)
  cases tp with
  | false =>
    subst hf
    refine (pe_listRg hc hgf hmf RG).weak fun σ H Q ⟨σd, rs, q⟩ => ⟨σd, rs, q.bind.imp fun y σ1 q v H1 n1 v1 => ?_⟩
    obtain ⟨d, sv, q1⟩ := v1.see q
    refine ⟨σ1, n1.rs, q1.bind.re n1 fun z σ2 q v2 H2 n2 v2r => ?_⟩
    obtain ⟨e, sv2, q2⟩ := v2r.see q
    cases d with
    | int l =>
      cases e with
      | int k =>
        have q2 : Res X.K ex ca W σd σ H ((if (rngIn l = true ∧ rngIn k = true) ∧ (k - l).toNat ≤ 16777216 then R.ok (Sl.mu (rngL l k)) σ2 else .bad : R Sl)) _ := q2
        split at q2
        · rename_i hk
          have hk' : ((-(2 ^ 62) ≤ l ∧ l < 2 ^ 62) ∧ (-(2 ^ 62) ≤ k ∧ k < 2 ^ 62)) ∧ (k - l).toNat ≤ 16777216 := by simpa [rngIn] using hk
          cases sv; cases sv2
          refine ⟨l, k, rfl, rfl, ⟨hk'.1.1.1, hk'.1.1.2, hk'.1.2.1, hk'.1.2.2, hk'.2⟩, fun c hcn => ?_⟩
          have r := res_lst (fzl_rng (K := X.K) (H := H2) l k) c hcn
          exact q2 _ _ ((n1.trans n2).trans (r.nx n2.rs)) (r.val (n1.trans n2))
        · exact q2.elim
      | _ => exact q2.elim
    | _ => cases e <;> exact q2.elim
  | true =>
    subst hf
    refine (pe_tupRg hc hgf hmf RG).weak fun σ H Q ⟨σd, rs, q⟩ => ⟨σd, rs, q.bind.imp fun y σ1 q v H1 n1 v1 => ?_⟩
    obtain ⟨d, sv, q1⟩ := v1.see q
    refine ⟨σ1, n1.rs, q1.bind.re n1 fun z σ2 q v2 H2 n2 v2r => ?_⟩
    obtain ⟨e, sv2, q2⟩ := v2r.see q
    cases d with
    | int l =>
      cases e with
      | int k =>
        have q2 : Res X.K ex ca W σd σ H ((if (rngIn l = true ∧ rngIn k = true) ∧ (k - l).toNat ≤ 16777216 then R.ok (Sl.im (.tup (rngL l k))) σ2 else .bad : R Sl)) _ := q2
        split at q2
        · rename_i hk
          have hk' : ((-(2 ^ 62) ≤ l ∧ l < 2 ^ 62) ∧ (-(2 ^ 62) ≤ k ∧ k < 2 ^ 62)) ∧ (k - l).toNat ≤ 16777216 := by simpa [rngIn] using hk
          cases sv; cases sv2
          refine ⟨l, k, rfl, rfl, ⟨hk'.1.1.1, hk'.1.1.2, hk'.1.2.1, hk'.1.2.2, hk'.2⟩, fun c hcn => ?_⟩
          have r := res_tup (fzl_rng (K := X.K) (H := H2) l k) c hcn
          exact q2 _ _ ((n1.trans n2).trans (r.nx n2.rs)) (r.val (n1.trans n2))
        · exact q2.elim
      | _ => exact q2.elim
    | _ => cases e <;> exact q2.elim
theorem s_lrg1 {p p2 pos2 : Pos} {tp : Bool} {f : Str} (hf : f = if tp = true then "tuple" else "list") (hc : X.calm = true) (hgf : Gl X f) (hmf : X.mg f = none) (hg : Gl X "range") (hm : X.mg "range" = none) (hs : isStar b = false) (hb : PE X b (tE X.K ex ca W rb)) :
    PE X (.Call (.Name f p) [.Call (.Name "range" p2) [b] [] pos2] [] pos) (tE X.K ex ca W (lrgR tp (fun σ => .ok (.im (.int 0)) σ) rb)) := by
  have RG := prg_1 (p := p2) (pos := pos2) hg hm hb (star1 hs)
  cases tp with
  | false =>
    subst hf
    refine (pe_listRg hc hgf hmf RG).weak fun σ H Q ⟨σd, rs, q⟩ => ⟨σd, rs, ?_⟩
    have q : Res X.K ex ca W σd σ H ((rb σd).bind fun y σ2 => wd y fun q => (match D.int 0, q with
      | .int l, .int k => if (rngIn l = true ∧ rngIn k = true) ∧ (k - l).toNat ≤ 16777216 then R.ok (Sl.mu (rngL l k)) σ2 else .bad
      | _, _ => .bad)) _ := q
    refine q.bind.imp fun y σ1 q v H1 n1 v1 => ?_
    obtain ⟨e, sv2, q2⟩ := v1.see q
    cases e with
    | int k =>
      have q2 : Res X.K ex ca W σd σ H ((if (rngIn 0 = true ∧ rngIn k = true) ∧ (k - 0).toNat ≤ 16777216 then R.ok (Sl.mu (rngL 0 k)) σ1 else .bad : R Sl)) _ := q2
      split at q2
      · rename_i hk
        have hk' : (-(2 ^ 62) ≤ k ∧ k < 2 ^ 62) ∧ (k - 0).toNat ≤ 16777216 := by
          obtain ⟨⟨_, h1⟩, h2⟩ := hk
          exact ⟨by simpa [rngIn] using h1, h2⟩
        cases sv2
        refine ⟨k, rfl, ⟨by decide, by decide, hk'.1.1, hk'.1.2, hk'.2⟩, fun c hcn => ?_⟩
        have r := res_lst (fzl_rng (K := X.K) (H := H1) 0 k) c hcn
        exact q2 _ _ (n1.trans (r.nx n1.rs)) (r.val n1)
      · exact q2.elim
    | _ => exact q2.elim
  | true =>
    subst hf
    refine (pe_tupRg hc hgf hmf RG).weak fun σ H Q ⟨σd, rs, q⟩ => ⟨σd, rs, ?_⟩
    have q : Res X.K ex ca W σd σ H ((rb σd).bind fun y σ2 => wd y fun q => (match D.int 0, q with
      | .int l, .int k => if (rngIn l = true ∧ rngIn k = true) ∧ (k - l).toNat ≤ 16777216 then R.ok (Sl.im (.tup (rngL l k))) σ2 else .bad
      | _, _ => .bad)) _ := q
    refine q.bind.imp fun y σ1 q v H1 n1 v1 => ?_
    obtain ⟨e, sv2, q2⟩ := v1.see q
    cases e with
    | int k =>
      have q2 : Res X.K ex ca W σd σ H ((if (rngIn 0 = true ∧ rngIn k = true) ∧ (k - 0).toNat ≤ 16777216 then R.ok (Sl.im (.tup (rngL 0 k))) σ1 else .bad : R Sl)) _ := q2
      split at q2
      · rename_i hk
        have hk' : (-(2 ^ 62) ≤ k ∧ k < 2 ^ 62) ∧ (k - 0).toNat ≤ 16777216 := by
          obtain ⟨⟨_, h1⟩, h2⟩ := hk
          exact ⟨by simpa [rngIn] using h1, h2⟩
        cases sv2
        refine ⟨k, rfl, ⟨by decide, by decide, hk'.1.1, hk'.1.2, hk'.2⟩, fun c hcn => ?_⟩
        have r := res_tup (fzl_rng (K := X.K) (H := H1) 0 k) c hcn
        exact q2 _ _ (n1.trans (r.nx n1.rs)) (r.val n1)
      · exact q2.elim
    | _ => exact q2.elim
end
/-! ### comprehensions -/
section
variable {K : PySem.W.Frag} {ex : ExF} {σd σd2 : Sls} {σ σ1 : L2.St} {H H2 : Hp} {vs : List Nat}
theorem wipeD_len (σd : Sls) : ∀ vs : List Nat, (wipeD σd vs).length = σd.length
  | [] => rfl
  | v :: vs => by unfold wipeD; rw [List.length_set, wipeD_len σd vs]
theorem wipeD_out {i : Nat} : ∀ {vs : List Nat}, i ∉ vs → (wipeD σd vs)[i]? = σd[i]?
  | [], _ => rfl
  | v :: vs, h => by
    have h1 : v ≠ i := fun e => h (by rw [e]; exact List.mem_cons_self)
    have h2 : i ∉ vs := fun m => h (List.mem_cons_of_mem _ m)
    unfold wipeD
    rw [List.getElem?_set_ne h1]
    exact wipeD_out h2
theorem wipeD_in {i : Nat} {s : Sl} : ∀ {vs : List Nat}, i ∈ vs → (wipeD σd vs)[i]? = some s → s = .un
  | v :: vs, h, e => by
    unfold wipeD at e
    by_cases hv : v = i
    · subst hv
      by_cases hl : v < (wipeD σd vs).length
      · rw [List.getElem?_set_self hl] at e; cases e; rfl
      · rw [List.getElem?_eq_none (by simpa using hl)] at e; cases e
    · rw [List.getElem?_set_ne hv] at e
      exact wipeD_in ((List.mem_cons.mp h).resolve_left fun z => hv z.symm) e
theorem backD_len : ∀ vs : List Nat, (backD σd σd2 vs).length = σd2.length
  | [] => rfl
  | v :: vs => by
    unfold backD
    split
    · rw [List.length_set, backD_len vs]
    · exact backD_len vs
theorem backD_out {i : Nat} : ∀ {vs : List Nat}, i ∉ vs → (backD σd σd2 vs)[i]? = σd2[i]?
  | [], _ => rfl
  | v :: vs, h => by
    have h1 : v ≠ i := fun e => h (by rw [e]; exact List.mem_cons_self)
    have h2 : i ∉ vs := fun m => h (List.mem_cons_of_mem _ m)
    unfold backD
    split
    · rw [List.getElem?_set_ne h1]; exact backD_out h2
    · exact backD_out h2
theorem backD_in {i : Nat} (hl : σd.length = σd2.length) : ∀ {vs : List Nat}, i ∈ vs → (backD σd σd2 vs)[i]? = σd[i]?
  | v :: vs, h => by
    unfold backD
    by_cases hv : v = i
    · subst hv
      split
      · rename_i s e
        have : v < σd.length := (List.getElem?_eq_some_iff.mp e).1
        rw [List.getElem?_set_self (by rw [backD_len]; omega), e]
      · rename_i e
        rw [e]
        have : σd.length ≤ v := List.getElem?_eq_none_iff.mp e
        exact List.getElem?_eq_none (by rw [backD_len]; omega)
    · have ih := backD_in hl ((List.mem_cons.mp h).resolve_left fun z => hv z.symm)
      split
      · rw [List.getElem?_set_ne hv]; exact ih
      · exact ih
/-- owned by a slot outside vs -/
def OwnO (vs : List Nat) (σd : Sls) (σ : L2.St) (a : Addr) : Prop := ∃ (i : Nat) (ds : List D), i ∉ vs ∧ σd[i]? = some (.mu ds) ∧ σ[i]? = some (some (.ref a))
theorem OwnO.own {a : Addr} (h : OwnO vs σd σ a) : Own σd σ a := by
  obtain ⟨i, ds, _, h1, h2⟩ := h
  exact ⟨i, ds, h1, h2⟩
theorem own_wipe {a : Addr} (h : Own (wipeD σd vs) (L2.wipe σ vs) a) : OwnO vs σd σ a := by
  obtain ⟨i, ds, h1, h2⟩ := h
  by_cases hi : i ∈ vs
  · have := wipeD_in hi h1; cases this
  · rw [wipeD_out hi] at h1
    rw [L2.wipe_out hi] at h2
    exact ⟨i, ds, hi, h1, h2⟩
theorem RS.wipe (r : RS K ex H σd σ) (vs : List Nat) : RS K ex H (wipeD σd vs) (L2.wipe σ vs) where
  tab := r.tab
  len := by rw [wipeD_len, L2.wipe_length]; exact r.len
  at_ := fun i s h => by
    by_cases hi : i ∈ vs
    · cases wipeD_in hi h; exact True.intro
    · rw [wipeD_out hi] at h
      rw [L2.wipe_out hi]
      exact r.at_ i s h
  inj := fun i j ds es a h1 h2 h3 h4 => by
    by_cases hi : i ∈ vs
    · have := wipeD_in hi h1; cases this
    · by_cases hj : j ∈ vs
      · have := wipeD_in hj h2; cases this
      · rw [wipeD_out hi] at h1
        rw [wipeD_out hj] at h2
        rw [L2.wipe_out hi] at h3
        rw [L2.wipe_out hj] at h4
        exact r.inj i j ds es a h1 h2 h3 h4
theorem comp_back (r : RS K ex H σd σ) (r2 : RS K ex H2 σd2 σ1) (hσ : ∀ i, i ∉ vs → σ1[i]? = σ[i]?) (hl : σ1.length = σ.length) (own2 : ∀ a, Own σd2 σ1 a → OwnO vs σd σ a ∨ H a = none) (ext2 : ∀ a o, H a = some o → ¬ OwnO vs σd σ a → (∀ ps, o ≠ .tbl ps) → H2 a = some o)
    (dom : ∀ a o, H a = some o → ∃ o', H2 a = some o') : Nx K ex σd σ H (backD σd σd2 vs) σ H2 := by
  have keep : Keep H H2 := fun a o h hn hm => ext2 a o h (fun z => by
    obtain ⟨xs, e⟩ := r.own_lst z.own
    rw [e] at h; cases h
    exact hn xs rfl) hm
  have hl2 : σd.length = σd2.length := by rw [r.len, r2.len, hl]
  refine ⟨⟨by rw [backD_len, r2.len, hl], fun i s h => ?_, fun i j ds es a h1 h2 h3 h4 => ?_, r2.tab⟩, fun a o h hn hm => ext2 a o h (fun z => hn z.own) hm, fun a h => ?_, dom⟩
  · by_cases hi : i ∈ vs
    · rw [backD_in hl2 hi] at h
      have z := r.at_ i s h
      cases s with
      | un => exact True.intro
      | im d => obtain ⟨v, e, f⟩ := z; exact ⟨v, e, keep.fz d v f⟩
      | exn x => exact z
      | clo x => exact z
      | mu ds =>
        obtain ⟨a, xs, e, h1, f⟩ := z
        refine ⟨a, xs, e, ext2 a _ h1 (fun ⟨j, es, hj, h2, h3⟩ => ?_) (fun _ e => nomatch e), keep.fzL ds xs f⟩
        have := r.inj i j ds es a h h2 e h3
        exact hj (this ▸ hi)
    · rw [backD_out hi] at h
      rw [← hσ i hi]
      exact r2.at_ i s h
  · by_cases hi : i ∈ vs
    · rw [backD_in hl2 hi] at h1
      by_cases hj : j ∈ vs
      · rw [backD_in hl2 hj] at h2
        exact r.inj i j ds es a h1 h2 h3 h4
      · rw [backD_out hj] at h2
        obtain ⟨b, xs, e, g, _⟩ := r.at_ i _ h1
        rw [h3] at e; cases e
        rcases own2 a ⟨j, es, h2, by rw [hσ j hj]; exact h4⟩ with ⟨k, fs, hk, g1, g2⟩ | z
        · have := r.inj i k ds fs a h1 g1 h3 g2
          exact absurd (this ▸ hi) hk
        · rw [z] at g; cases g
    · rw [backD_out hi] at h1
      by_cases hj : j ∈ vs
      · rw [backD_in hl2 hj] at h2
        obtain ⟨b, xs, e, g, _⟩ := r.at_ j _ h2
        rw [h4] at e; cases e
        rcases own2 a ⟨i, ds, h1, by rw [hσ i hi]; exact h3⟩ with ⟨k, fs, hk, g1, g2⟩ | z
        · have := r.inj j k es fs a h2 g1 h4 g2
          exact absurd (this ▸ hj) hk
        · rw [z] at g; cases g
      · rw [backD_out hj] at h2
        exact r2.inj i j ds es a h1 h2 (by rw [hσ i hi]; exact h3) (by rw [hσ j hj]; exact h4)
  · obtain ⟨i, ds, h1, h2⟩ := h
    by_cases hi : i ∈ vs
    · rw [backD_in hl2 hi] at h1
      exact .inl ⟨i, ds, h1, h2⟩
    · rw [backD_out hi] at h1
      rcases own2 a ⟨i, ds, h1, by rw [hσ i hi]; exact h2⟩ with z | z
      · exact .inl z.own
      · exact .inr z
theorem wipe_eq {σ0 : L2.St} : ∀ {vs : List Nat}, (∀ i, i ∉ vs → σ1[i]? = σ0[i]?) → σ1.length = σ0.length → L2.wipe σ1 vs = L2.wipe σ0 vs
  | vs, h, hl => by
    refine List.ext_getElem? fun i => ?_
    by_cases hi : i ∈ vs
    · have : ∀ (τ : L2.St) (vs : List Nat), i ∈ vs → (L2.wipe τ vs)[i]? = if i < τ.length then some none else none := fun τ vs => by
        induction vs with
        | nil => intro h; cases h
        | cons v vs ih =>
          intro hm
          unfold L2.wipe
          by_cases hv : v = i
          · subst hv
            by_cases hl : v < τ.length
            · rw [List.getElem?_set_self (by rw [L2.wipe_length]; exact hl), if_pos hl]
            · rw [List.getElem?_eq_none (by rw [List.length_set, L2.wipe_length]; omega), if_neg hl]
          · rw [List.getElem?_set_ne hv]
            exact ih ((List.mem_cons.mp hm).resolve_left fun z => hv z.symm)
      rw [this σ1 vs hi, this σ0 vs hi, hl]
    · rw [L2.wipe_out hi, L2.wipe_out hi]
      exact h i hi
end
theorem compF_exc {own : List Nat} {t : Tg} {tst el : Sls → R Sl} {x : Xn} {σ' : Sls} : ∀ {ds : List D} {σ : Sls}, compF own t tst el ds σ ≠ .exc x σ'
  | [], σ => by intro h; cases h
  | d :: ds, σ => by
    intro h
    unfold compF at h
    split at h
    · cases h
    · split at h
      · exact compF_exc h
      · split at h
        · rename_i s σ3 _
          cases s with
          | un => cases h
          | exn x => cases h
          | clo x => cases h
          | im e =>
            simp only [wd] at h
            split at h <;> cases h
          | mu e =>
            simp only [wd] at h
            split at h <;> cases h
        · cases h
      · cases h
section
variable {X : Cx} {ex : ExF} {ca : Nat → Addr} {W : WX} {pos : Pos}
/-- what a block may raise: nothing -/
def WF : WX := fun _ _ _ _ => False
theorem comp_imp {own : List (Str × Nat)} {t : Tg} {ri rq re : Sls → R Sl} (hto : ∀ i ∈ tgs t, i ∈ own.map (·.2)) (σ : L2.St) (H : Hp) (Q : VK) (h : tE X.K ex ca W (fun σ => (ri σ).bind fun x σ1 => wd x fun p => (match p.its? with
      | some ds => (compF (own.map (·.2)) t rq re ds σ1).bind fun ys σ2 => if ys.length ≤ sizeLine then .ok (.mu ys) σ2 else .bad
      | none => .bad)) σ H Q) : tLc (tI X.K ex ca W ri) (gD X.K ex t) (tT X.K ex ca WF rq) (fun σ H Q => tE X.K ex ca WF re σ H (FrzQ Q)) (own.map (·.2)) σ H Q := by
  obtain ⟨σd, rs, q⟩ := h
  refine ⟨σd, rs, ?_⟩
  have go : ∀ ds σ1, Res X.K ex ca W σd σ H ((compF (own.map (·.2)) t rq re ds σ1).bind fun ys σ2 => if ys.length ≤ sizeLine then R.ok (Sl.mu ys) σ2 else .bad) (fun s σd' => ∀ v H', Nx X.K ex σd σ H σd' σ H' → ValR X.K (fun a => H a = none) H' σd' σ s v → Q v H') →
      ∀ J H1, Nx X.K ex σd σ H σ1 σ H1 → ItD X.K J ds H1 → ∀ D, H1 D = none → ∃ W : Nat → Nat → Hp → Prop, (∃ m, W 0 m (upd H1 D (.lst []))) ∧ ∀ i m H, W i m H →
        (J.stop i H ∧ Q (.ref D) H) ∨ (J.go i H ∧ ∃ Nx : Hp → Prop, (∀ H', Nx H' → ∃ m', m' < m ∧ W (i + 1) m' H') ∧ ∀ x H', J.yld i H x H' → gD X.K ex t x (L2.wipe σ (own.map (·.2))) H' fun σ2 H2 => L2.wipe σ2 (own.map (·.2)) = L2.wipe σ (own.map (·.2)) ∧ tT X.K ex ca WF rq σ2 H2 fun b H3 =>
          if b = true then tE X.K ex ca WF re σ2 H3 (FrzQ fun y H4 => ∃ acc, H4 D = some (.lst acc) ∧ acc.length < sizeLine ∧ Nx (upd H4 D (.lst (acc ++ [y])))) else Nx H3) := by
    intro ds σ1 q J H1 n1 it D hD
    have hD0 : H D = none := by
      cases z : H D with
      | none => rfl
      | some o => obtain ⟨o', e⟩ := n1.dom D o z; rw [hD] at e; cases e
    cases e : compF (own.map (·.2)) t rq re ds σ1 with
    | bad => rw [e] at q; exact q.elim
    | exc x σ' => exact absurd e compF_exc
    | ok total σF =>
    rw [e] at q
    have q : Res X.K ex ca W σd σ H (if total.length ≤ sizeLine then R.ok (Sl.mu total) σF else .bad) _ := q
    split at q
    · rename_i hlen
      have q : ∀ v H', Nx X.K ex σd σ H σF σ H' → ValR X.K (fun a => H a = none) H' σF σ (.mu total) v → Q v H' := q
      have noD : ∀ {σ' : Sls}, RS X.K ex H1 σ' σ → ¬ Own σ' σ D := fun r z => by
        obtain ⟨xs, e⟩ := r.own_lst z
        rw [hD] at e; cases e
      refine ⟨fun i m H2 => i ≤ ds.length ∧ m = ds.length - i ∧ ∃ σ' acc accD ys, Nx X.K ex σ1 σ H1 σ' σ H2 ∧ H2 D = some (.lst acc) ∧ ¬ Own σ' σ D ∧ FzL X.K H2 accD acc ∧ compF (own.map (·.2)) t rq re (ds.drop i) σ' = .ok ys σF ∧ accD ++ ys = total,
        ⟨_, Nat.zero_le _, rfl, σ1, [], [], total, .same n1.rs (fun b o h => by rw [upd_ne (ne_of_none h hD)]; exact h), upd_same, noD n1.rs, rfl, e, rfl⟩, ?_⟩
      rintro i m H2 ⟨hi, rfl, σ', acc, accD, ys, n2, hacc, hno, fa, ec, et⟩
      rcases Nat.lt_or_ge i ds.length with hi | hi
      · refine .inr ⟨it.go H2 i (n2.keep n1.rs) hi, fun H5 => ∃ σ' acc accD ys, Nx X.K ex σ1 σ H1 σ' σ H5 ∧ H5 D = some (.lst acc) ∧ ¬ Own σ' σ D ∧ FzL X.K H5 accD acc ∧ compF (own.map (·.2)) t rq re (ds.drop (i + 1)) σ' = .ok ys σF ∧ accD ++ ys = total,
          fun H5 h5 => ⟨ds.length - (i + 1), by omega, hi, rfl, h5⟩, fun x H3 y => ?_⟩
        obtain ⟨sm, d, hd, fd⟩ := it.yld H2 i x H3 (n2.keep n1.rs) y hi
        rw [List.drop_eq_getElem_cons hi] at ec
        have ed : ds[i] = d := by rw [List.getElem?_eq_getElem hi] at hd; exact Option.some.inj hd
        rw [ed] at ec
        unfold compF at ec
        cases ea : asgT t d (wipeD σ' (own.map (·.2))) with
        | none => rw [ea] at ec; cases ec
        | some σa =>
        rw [ea] at ec
        dsimp only at ec
        have r3 := n2.rs.same sm
        refine ⟨_, d, σa, r3.wipe _, fd, ea, fun τ rτ ow smi ln => ?_⟩
        have out : ∀ i, i ∉ own.map (·.2) → τ[i]? = σ[i]? := fun i hi => (smi i fun z => hi (hto i z)).trans (L2.wipe_out hi)
        have ln' : τ.length = σ.length := ln.trans (L2.wipe_length _ _)
        have back : ∀ {σb : Sls} {H5 : Hp}, Nx X.K ex σa τ H3 σb τ H5 → Nx X.K ex σ' σ H2 (backD σ' σb (own.map (·.2))) σ H5 := fun {σb H5} nb =>
          comp_back n2.rs nb.rs out ln' (fun a z => by
            rcases nb.own a z with z | z
            · exact .inl (own_wipe (ow a z))
            · refine .inr ?_
              cases e : H2 a with
              | none => rfl
              | some o => rw [sm a o e] at z; cases z) (fun a o h hn hm => nb.ext a o (sm a o h) (fun z => hn (own_wipe (ow a z))) hm) (fun a o h => nb.dom a o (sm a o h))
        refine ⟨wipe_eq out ln', σa, rτ, ?_⟩
        cases er : rq σa with
        | bad => rw [er] at ec; cases ec
        | exc x σb => rw [er] at ec; cases ec
        | ok s σb =>
        rw [er] at ec
        split at ec
        · rename_i _ σb' es
          cases es
          refine ⟨false, rfl, fun H5 nb => ?_⟩
          show ∃ σ' acc accD ys, _
          have bk := back nb
          exact ⟨_, acc, accD, ys, n2.trans bk, bk.ext D _ hacc hno (fun _ e => nomatch e), (fun z => (bk.own D z).elim hno fun z => by (rw [hacc] at z; cases z)), Keep.fzL (bk.keep n2.rs) _ _ fa, ec, et⟩
        · rename_i _ σb' es
          cases es
          refine ⟨true, rfl, fun H5 nb => ?_⟩
          refine ⟨σb, nb.rs, ?_⟩
          cases ee : re σb with
          | bad => rw [ee] at ec; cases ec
          | exc x σc => rw [ee] at ec; cases ec
          | ok s σc =>
          rw [ee] at ec
          dsimp only at ec
          refine fun v H6 nc vr => ?_
          have qr : Res X.K ex ca WF σb τ H5 (wd s fun y => (match compF (own.map (·.2)) t rq re (ds.drop (i + 1)) (backD σ' σc (own.map (·.2))) with
            | .ok ys σ4 => R.ok (y :: ys) σ4
            | _ => .bad)) fun a σ' => a = ys ∧ σ' = σF := by
            rw [show (wd s fun y => (match compF (own.map (·.2)) t rq re (ds.drop (i + 1)) (backD σ' σc (own.map (·.2))) with
            | .ok ys σ4 => R.ok (y :: ys) σ4
            | _ => .bad)) = R.ok ys σF from ec]
            exact ⟨rfl, rfl⟩
          obtain ⟨dy, q2, lock⟩ := vr.lock nc qr
          refine lock _ fun H7 n7 f7 => ?_
          cases ef : compF (own.map (·.2)) t rq re (ds.drop (i + 1)) (backD σ' σc (own.map (·.2))) with
          | bad => rw [ef] at q2; exact q2.elim
          | exc x σ' => rw [ef] at q2; exact q2.elim
          | ok ys' σG =>
          rw [ef] at q2
          obtain ⟨e1, e2⟩ := q2
          subst e2
          have bk := back (nb.trans n7)
          have h7 := bk.ext D _ hacc hno (fun _ e => nomatch e)
          have no7 : ¬ Own (backD σ' σc (own.map (·.2))) σ D := fun z => (bk.own D z).elim hno fun z => by rw [hacc] at z; cases z
          have n8 := n2.trans bk
          have f8 := Keep.fzL (bk.keep n2.rs) _ _ fa
          have k9A : KeepA H7 (upd H7 D (.lst (acc ++ [v]))) := fun b u h hn => by
            rw [upd_ne (ne_of h h7 (hn acc))]
            exact h
          have k9 := k9A.keep
          have n9 : Nx X.K ex σ1 σ H1 (backD σ' σc (own.map (·.2))) σ (upd H7 D (.lst (acc ++ [v]))) := by
            refine ⟨⟨n8.rs.len, fun i s h => ?_, n8.rs.inj, k9A.tj n8.rs.tab⟩, fun b u h hn hm => ?_, n8.own, fun b u h => ?_⟩
            · have z := n8.rs.at_ i s h
              cases s with
              | un => exact True.intro
              | im d => obtain ⟨v, e1, f⟩ := z; exact ⟨v, e1, k9.fz d v f⟩
              | mu ds =>
                obtain ⟨b, ys, e1, h1, f⟩ := z
                refine ⟨b, ys, e1, ?_, k9.fzL ds ys f⟩
                rw [upd_ne fun z => no7 ⟨i, ds, h, by rw [e1, z]⟩]
                exact h1
              | exn x => exact z
              | clo x => exact z
            · rw [upd_ne (ne_of_none h hD)]
              exact n8.ext b u h hn hm
            · obtain ⟨o', e1⟩ := n8.dom b u h
              rw [upd_ne (ne_of_none h hD)]
              exact ⟨o', e1⟩
          refine ⟨acc, h7, ?_, _, acc ++ [v], accD ++ [dy], ys', n9, upd_same, no7, ?_, ef, ?_⟩
          · have := f8.length
            have e3 := congrArg List.length et
            rw [← e1, List.length_append, List.length_cons] at e3
            omega
          · exact FzL.append (k9.fzL _ _ f8) (FzL.one (k9.fz _ _ f7))
          · rw [← et, ← e1, List.append_assoc]; rfl
        · cases ec
      · have : i = ds.length := Nat.le_antisymm ‹_› hi
        subst this
        rw [List.drop_length] at ec
        unfold compF at ec
        cases ec
        refine .inl ⟨it.stop H2 (n2.keep n1.rs), q _ _ (n1.trans n2) ⟨D, acc, rfl, hacc, by rw [← et, List.append_nil]; exact fa, hno, hD0⟩⟩
    · exact q.elim
  have q : Res X.K ex ca W σd σ H ((ri σd).bind fun x σ1 => wd x fun p => (match p.its? with
      | some ds => (compF (own.map (·.2)) t rq re ds σ1).bind fun ys σ2 => if ys.length ≤ sizeLine then .ok (Sl.mu ys) σ2 else .bad
      | none => .bad)) (fun s σd' => ∀ v H', Nx X.K ex σd σ H σd' σ H' → ValR X.K (fun a => H a = none) H' σd' σ s v → Q v H') := q
  cases e : ri σd with
  | bad => rw [e] at q; exact q.elim
  | exc x σ1 => rw [e] at q; exact q
  | ok s σ1 =>
    rw [e] at q
    show Res X.K ex ca W σd σ H (wd s fun p => (match p.its? with
      | some ds => R.ok ds σ1
      | none => .bad)) _
    have q : Res X.K ex ca W σd σ H (wd s fun p => (match p.its? with
      | some ds => (compF (own.map (·.2)) t rq re ds σ1).bind fun ys σ2 => if ys.length ≤ sizeLine then .ok (Sl.mu ys) σ2 else .bad
      | none => .bad)) (fun s σd' => ∀ v H', Nx X.K ex σd σ H σd' σ H' → ValR X.K (fun a => H a = none) H' σd' σ s v → Q v H') := q
    cases s with
    | un => exact q.elim
    | exn x => exact q.elim
    | clo x => exact q.elim
    | mu ds => exact go ds σ1 q
    | im d =>
      have q : Res X.K ex ca W σd σ H (match d.its? with
        | some ds => (compF (own.map (·.2)) t rq re ds σ1).bind fun ys σ2 => if ys.length ≤ sizeLine then .ok (Sl.mu ys) σ2 else .bad
        | none => .bad) (fun s σd' => ∀ v H', Nx X.K ex σd σ H σd' σ H' → ValR X.K (fun a => H a = none) H' σd' σ s v → Q v H') := q
      show Res X.K ex ca W σd σ H (match d.its? with
        | some ds => R.ok ds σ1
        | none => .bad) _
      cases ed : d.its? with
      | none => rw [ed] at q; exact q.elim
      | some ds => rw [ed] at q; exact go ds σ1 q
theorem s_comp {elt tg iter : Expr} {ifs : List Expr} {scope : Scope} {own : List (Str × Nat)} {t : Tg} {ri rq re : Sls → R Sl} (hc : X.calm = true) (hN : X.N.Nodup) (hi : PI X tg iter (tI X.K ex ca W ri)) (ok : BlkOk X.N X.env.scope scope own) (hto : ∀ i ∈ tgs t, i ∈ own.map (·.2))
    (hg : ∀ (s : Shared) (H : Hp) (C : Addr) (cl : List (Str × Addr)) (fp : List Addr), PG (X.blk s H scope (compEnvC scope cl C X.env) fp) tg (gD X.K ex t)) (ht : ∀ (s : Shared) (H : Hp) (C : Addr) (cl : List (Str × Addr)) (fp : List Addr), PTs (X.blk s H scope (compEnvC scope cl C X.env) fp) ifs (tT X.K ex ca WF rq))
    (he : ∀ (s : Shared) (H : Hp) (C : Addr) (cl : List (Str × Addr)) (fp : List Addr), PE (X.blk s H scope (compEnvC scope cl C X.env) fp) elt (tE X.K ex ca WF re)) (hs : ∀ x, foldedSetIterable iter X.env x = pure x) :
    PE X (.ListComp elt [⟨tg, iter, ifs, 0⟩] scope pos) (tE X.K ex ca W fun σ => (ri σ).bind fun x σ1 => wd x fun p => (match p.its? with
      | some ds => (compF (own.map (·.2)) t rq re ds σ1).bind fun ys σ2 => if ys.length ≤ sizeLine then .ok (.mu ys) σ2 else .bad
      | none => .bad)) := (pe_lc hc hN hi ok hg ht (fun s H C cl fp => pe_frz (he s H C cl fp)) hs).weak (comp_imp hto)
end
end Rf
/-! S4: an own exception over ValueError whose __init__ says super().__init__(code) and keeps code. -/
namespace Rf
open PySem PySem.Spec PyProof.Rows L2 PySem.W
abbrev geScope : Scope := { kind := .function, names := [("self", .local), ("code", .local), ("__class__", .free), ("super", .globalImplicit)], isGenerator := false, isCoroutine := false, more := [] }
abbrev geBody (p0 p1 p2 p3 p4 p5 p6 p7 p8 p9 : Pos) : List Stmt := [.Expr (.Call (.Attribute (.Call (.Name "super" p0) [] [] p1) "__init__" p2) [.Name "code" p3] [] p4) p5, .Assign [.Attribute (.Name "self" p6) "code" p7] (.Name "code" p8) p9]
abbrev geArgs (q1 q2 : Pos) : Arguments := { posonlyargs := [], args := [{ arg := "self", annotation := none, pos := q1 }, { arg := "code", annotation := none, pos := q2 }], vararg := none, kwonlyargs := [], kw_defaults := [], kwarg := none, defaults := [] }
/-- the call of super().__init__ is one on one line -/
def GeLine (p0 p1 p2 p3 p4 : Pos) : Prop := ∀ env : Env, ∃ pl : Sem Bool, eval (.Call (.Attribute (.Call (.Name "super" p0) [] [] p1) "__init__" p2) [.Name "code" p3] [] p4) env = (do
      let ov ← attributeBase (.Call (.Name "super" p0) [] [] p1) "__init__" env (eval (.Call (.Name "super" p0) [] [] p1) env)
      standAt p2.atName
      let (f, first) ← holding [ov] (getMethod ov "__init__" pl)
      callWith p4 f first (backTo p4 (starEach [.Name "code" p3] env)) [])
/-- what the written part says of such a class -/
structure GeC (prog : Program) (K : Frag) (C : Addr) : Prop where
  ex : ∃ (p0 p1 p2 p3 p4 p5 p6 p7 p8 p9 q1 q2 : Pos) (qual : Str) (fI cc cda : Addr) (kV doc pm ct oc : Value) (an od : Option Addr) (osl : Array (Option Value)) (ccl cl : Value) (cdd cld : Option Addr) (ccs csl : Array (Option Value)) (vs : Array Value) (file : Str) (tf : Tok),
    K.lookup fI = some ⟨oc, od, .func (ksFn "__init__" qual (geArgs q1 q2) (geBody p0 p1 p2 p3 p4 p5 p6 p7 p8 p9) geScope .none kV doc pm an (.ref cda) ct cc), osl⟩ ∧ codeIn K (.ref cda) qual = true ∧
    K.lookup cda = some ⟨ccl, cdd, .fields vs, ccs⟩ ∧ vs[2]? = some (.str file tf) ∧ ((prog.main.file : Str) == file) = true ∧ K.lookup cc = some ⟨cl, cld, .cell (some (.ref C)), csl⟩ ∧
    findIn K (.ref C) "__init__" = some (some (.ref fI)) ∧ typeIn K (.ref fI) = some (.type "function") ∧ GeLine p0 p1 p2 p3 p4
  top : (prog.main.scope.names.lookup ("super" : Str)).isSome = false
  sup : nsIn K mainGlobals "super" = some none
  oex : OexC K C
  mro : mroIn K C (.ref C) = some true
  ini : ks_superIn K C C "__init__" = some (some (.builtin "ValueError.__init__"))
  thr : nsIn K cStatics "thirdparty.any" = some none
  sub : subIn K (.ref C) (.type "ValueError") = some true
  exi : excInitIn K C [.type "ValueError", .type "Exception", .type "BaseException", .type "object"] "ValueError.__new__" = true
  cod : findIn K (.ref C) "code" = some none
section
variable {prog : Program} {w : World} {A : Around} {g : Array GenState} {d : Drawn} {t : Nat} {os : OsState} {K : Frag} {C x t0 fI : Addr} {v : Value} {h₀ h : Heap} {R : Result → Shared → Prop} {mg mb : Str → Option Value}
theorem ge_init (T : GeC prog K C) (hi : findIn K (.ref C) "__init__" = some (some (.ref fI))) (hroom : A.depth < recursionLimit) (X₀ : K.In h₀) (hg : h₀.Ns mainGlobals mg) (hb : h₀.Ns builtinsNs mb) (hsup : mb "super" = some (.type "super")) (lim : h₀.NoLimit) (k : ∀ b o, h₀.get? b = some o → h.get? b = some o) (hsz : h₀.objs.size ≤ h.objs.size)
    (he : h.get? x = some (PySem.HandSPX.excO C t0)) (ne : h₀.get? x = none) (hxt : x ≠ t0) {ot : Obj} (ht : h.get? t0 = some ot) (nt : h₀.get? t0 = none)
    (hq : ∀ h' dx t1 tk, (∀ b o, h₀.get? b = some o → h'.get? b = some o) → h'.get? t0 = some ot → h₀.objs.size ≤ dx → dx ≠ x → dx ≠ t0 → h'.get? x = some ({ cls := .ref C, dict := some dx, data := .fields #[.ref t1, .none, .none, .none, .bool false, .none] } : Obj) →
      h'.Ns1 dx (fun y => if y = "code" then some v else none) → R (.ok (.ret .none)) ⟨h', g, d, tk, os⟩) :
    codeAny (model prog w) A (.call (.ref fI) ⟨[.ref x, v], []⟩) R ⟨h, g, d, t, os⟩ := by
  obtain ⟨p0, p1, p2, p3, p4, p5, p6, p7, p8, p9, q1, q2, qual, fI', cc, cda, kV, doc, pm, ct, oc, an, od, osl, ccl, cl, cdd, cld, ccs, csl, vs, file, tf, lk, hcd, hcda, hvs, hfile, hcell, hi', _, hline⟩ := T.ex
  rw [hi] at hi'
  cases hi'
  have X : K.In h := X₀.keeps k
  obtain ⟨nm, q, N, bs, bm, sn, sub, ab, col, dd, k0, k1, k2, k3, k5, hC, hbm⟩ := T.oex.cls
  have hcl : PySem.W.clsIn K C = some { name := nm, bases := bs, mro := .ref C :: bm, ns := N, qualname := q, hasDict := true, slotNames := sn, subclasses := sub, abstract := ab, collection := col, hasDel := false } := by unfold PySem.W.clsIn; rw [hC] <;> rfl
  refine ks_codeAny_call_defAt (fd := ksFn "__init__" qual (geArgs q1 q2) (geBody p0 p1 p2 p3 p4 p5 p6 p7 p8 p9) geScope .none kV doc pm an (.ref cda) ct cc) (body := geBody p0 p1 p2 p3 p4 p5 p6 p7 p8 p9) (binds := [("self", .ref x), ("code", v)])
    hroom (X _ _ lk) rfl (lim.keeps k) (codeRec_of X hcd) rfl (BindsTo.of_eq rfl) (show ∀ x ∈ geScope.names, x.2 ≠ NameKind.cell by decide) (locs rfl) (fun h1 hns hk => ?_)
  have F1 : Fr h₀ h.objs.size h1 (fun y => ([("self", Value.ref x), ("code", v)] : List (Str × Value)).reverse.lookup y) := ⟨hns, fun b o e => hk b o (k b o e), hsz⟩
  have N1 : News h₀ h.objs.size h1 [(x, PySem.HandSPX.excO C t0), (t0, ot)] := by
    intro p hp
    rcases List.mem_cons.mp hp with rfl | hp
    · exact ⟨hk _ _ he, Nat.ne_of_lt (Heap.lt_size he), ne⟩
    rcases List.mem_cons.mp hp with rfl | hp
    · exact ⟨hk _ _ ht, Nat.ne_of_lt (Heap.lt_size ht), nt⟩
    · cases hp
  obtain ⟨pl, hpl⟩ := hline (callEnv (ksFn "__init__" qual (geArgs q1 q2) (geBody p0 p1 p2 p3 p4 p5 p6 p7 p8 p9) geScope .none kV doc pm an (.ref cda) ct cc) h.objs.size fI)
  refine ks_wpAt_execs_cons (ks_wpAt_Expr_any (ks_wpAt_MethodCall (pl := pl) ?_ hpl))
  refine ks_wpAt_super_base (env := callEnv (ksFn "__init__" qual (geArgs q1 q2) (geBody p0 p1 p2 p3 p4 p5 p6 p7 p8 p9) geScope .none kV doc pm an (.ref cda) ct cc) h.objs.size fI) (by rfl) (by rfl) (by decide) rfl (hk _ _ (X _ _ lk)) rfl rfl rfl (hk _ _ (X _ _ hcda)) rfl hvs hfile T.top ?_
  have Xg : ∀ b o, h₀.get? b = some o → h1.get? b = some o := F1.keep
  have X1 : K.In h1 := X₀.keeps Xg
  refine ks_loadName_global rfl rfl (Calls.loadGlobal_builtin (hg.keeps Xg) (mg_none_of X₀ hg T.sup) (hb.keeps Xg) hsup ⟨rfl, ?_⟩)
  refine wpAny_loadName_free rfl rfl rfl ⟨_, X1 _ _ hcell, rfl⟩ ?_
  refine wpAny_loadName_local rfl rfl F1.ns rfl ?_
  refine ks_wpAny_isType_cls (X1 _ _ hC) rfl ⟨rfl, ?_⟩
  have he1 := hk _ _ he
  refine ks_wpAny_call_super (X1 _ _ hC) rfl he1 rfl (fun c e => ?_) (looks_mroIn X1 T.mro) (fun h2 e2 k2 => ?_)
  · cases e
  obtain ⟨F2, N2, l2⟩ := ks_newsPush (s := ⟨h1, g, d, t + 2, os⟩) F1 N1 rfl e2 k2
  have I2 : InstAt h2 x (PySem.HandSPX.excO C t0) C none := ⟨k2 _ _ he1, rfl, rfl, trivial⟩
  refine kxs_method kxs_ValueError (s := ⟨h2, g, d, t + 2, os⟩) F2 X₀ N2 (List.mem_cons_self ..) I2 T.thr T.ini T.sub (by decide) (fun u h3 F3 N3 l3 => ?_)
  refine kxs_callWith1 N3 (List.mem_cons_self ..) ?_ rfl rfl
  show wpAny _ _ (spliced ((false, eval (.Name "code" p3) _) :: backTo p4 (starEach [] _))) _ _ _
  refine Calls.spliced_cons (ldc rfl rfl F3.ns rfl ?_ (by decide))
  refine Calls.spliced_nil ⟨kxs_at N3 (List.mem_cons_self ..), ?_⟩
  have lx : x < h.objs.size := Heap.lt_size he
  refine kxs_call (C := C) (t := t0) (dv := none) (c2 := .none) (x := x) F3 X₀ N3 F.excBase_ValueError T.exi (List.mem_cons_self ..) (.tail ?_ (.tail ?_ (.head ?_))) (Nat.le_of_ble_eq_true rfl) (fun t1 h4 F4 N4 l4 => ?_)
  · exact Ne.symm (Nat.ne_of_lt (l3 (x, PySem.HandSPX.excO C t0) (List.mem_cons_of_mem _ (List.mem_cons_self ..))))
  · exact Ne.symm (Nat.ne_of_lt (l2 (x, PySem.HandSPX.excO C t0) (List.mem_cons_self ..)))
  · intro p hp
    rcases List.mem_cons.mp hp with rfl | hp
    · exact Ne.symm hxt
    · cases hp
  have hx4 : h4.get? x = some (excObj C t1 none .none) := (N4 (x, excObj C t1 none .none) (by simp)).1
  have ht4 : h4.get? t0 = some ot := (N4 (t0, ot) (by simp)).1
  have I4 : InstAt h4 x (excObj C t1 none .none) C none := ⟨hx4, rfl, rfl, trivial⟩
  refine ks_wpAt_execs_cons (wpAt_of_wpAny (plainObj_wpAny_Assign_Attribute (ldc rfl rfl F4.ns rfl (ldc rfl rfl F4.ns rfl (set_plain (X₀.keeps F4.keep) I4 T.oex.sa ?_) (by decide)) (by decide)) rfl))
  refine PySem.HandSPX.exc_osa (X₀.keeps F4.keep) hx4 hcl (show PySem.HandSPX.refsVE (.ref C :: bm) = true from hbm) rfl T.cod (fun h5 tk5 dx k5 dn dne hx5 hn5 => ?_)
  refine wpAt_of_wpAny (wpAny_pure ?_)
  have nx : ∀ {b : Addr} {o : Obj}, h₀.get? b = some o → b ≠ x := fun {b o} e z => by rw [z, ne] at e; cases e
  have fr4 : h₀.objs.size ≤ dx := Nat.le_trans F4.above (Nat.le_trans (Nat.le_of_lt F4.ns.lt) dn)
  exact hq h5 dx t1 tk5 (fun b o e => k5 b o (nx e) (F4.keep b o e)) (k5 _ _ (Ne.symm hxt) ht4) fr4 dne (fun z => by rw [z] at dn; exact absurd (Heap.lt_size ht4) (Nat.not_lt.mpr dn)) hx5 hn5
end
section
variable {X : Cx} {e : Expr} {te : TE} {p pos : Pos} {x : Str} {C : Addr}
/-- C(e): the class keeps what it got as its code -/
def tMkGe (C : Addr) (te : TE) : L2.St → Hp → XK → Prop := fun σ H Q => te σ H fun y H1 => ∀ d, H1 d = none → Q (.ref C) (some d) (upd H1 d (.xd [("code", y)]))
theorem pmk_ge (T : GeC X.prog X.K C) (hr : Room 2 X.A) (hg : Gl X x) (hm : X.mg x = some (.ref C)) (ha : PE X e te) (hdb : (x == ("__debug__" : Str)) = false) (he : starEach [e] X.env = (false, eval e X.env) :: starEach [] X.env) :
    PMk X (.Call (.Name x p) [e] [] pos) (tMkGe C te) := by
  intro pins s σ H Q I h
  obtain ⟨p0, p1, p2, p3, p4, p5, p6, p7, p8, p9, q1, q2, qual, fI, cc, cda, kV, doc, pm, ct, oc, an, od, osl, ccl, cl, cdd, cld, ccs, csl, vs, file, tf, lk, hcd, hcda, hvs, hfile, hcell, iC, tI, hline⟩ := T.ex
  obtain ⟨nm, q, N, bs, bm, sn, sub, ab, col, dd, k0, k1, k2, k3, k5, hC, hbm⟩ := T.oex.cls
  refine wpAny_Call_Name_kw (ld_glob I hg hm ?_ hdb)
  refine PySem.W.callWith_K (h₀ := X.base) I.ok.mod.kin T.oex.kC (thn ((pa_cons ha pa_nil he).run pos pins s σ H (fun vs H1 => match vs with | [y] => ∀ d, H1 d = none → Q (.ref C) (some d) (upd H1 d (.xd [("code", y)])) | _ => False) I h) fun us s1 ⟨ys, H1, I1, r1, hz⟩ => ⟨I1.kIn, ?_⟩) he rfl
  cases r1 with
  | nil => exact hz.elim
  | @cons y u ys' us' ry rys => cases rys with
    | @cons _ _ _ _ _ _ => exact hz.elim
    | nil =>
      have hz : ∀ d, H1 d = none → Q (.ref C) (some d) (upd H1 d (.xd [("code", y)])) := hz
      show wpAny _ _ (call (.ref C) [u]) _ _ _
      obtain ⟨hp, g, dr, tk, os⟩ := s1
      have hsz : hp.objs.size ≤ hp.objs.size + 1 := Nat.le_succ _
      have kk : ∀ b o, hp.get? b = some o → ((hp.push (PySem.W.kdv_tup [u])).push (PySem.HandSPX.excO C hp.objs.size)).get? b = some o := fun b o e => Heap.get?_push_of_some _ (Heap.get?_push_of_some _ e)
      have hget : ((hp.push (PySem.W.kdv_tup [u])).push (PySem.HandSPX.excO C hp.objs.size)).get? (hp.objs.size + 1) = some (PySem.HandSPX.excO C hp.objs.size) := by heap_get
      have hgt : ((hp.push (PySem.W.kdv_tup [u])).push (PySem.HandSPX.excO C hp.objs.size)).get? hp.objs.size = some (PySem.W.kdv_tup [u]) := by heap_get
      have no : ∀ n, hp.get? (hp.objs.size + n) = none := fun n => Heap.get?_none_of_le (Nat.le_add_right _ _)
      obtain ⟨mb, hb, hbb⟩ := I1.mod.blt
      have hn : H1 (hp.objs.size + 1) = none := I1.hok.fresh hsz
      refine wpAny_call (PySem.HandSPX.call_own F.excBase_ValueError (fun Y => PySem.HandSPX.refsVE_contains Y bm hbm) (I1.kIn _ _ hC) (PySem.W.looks_findIn I1.kIn iC) (fun self => PySem.W.bind_fn I1.kIn self tI) (Nat.le_of_ble_eq_true rfl)
        (ge_init T iC (hr.make C [u] []).depth I1.kIn (I1.mod.glob.keeps I1.bk) (hb.keeps I1.bk) ((hbb _ (by decide)).trans PyProof.Rows.Boot.«super») I1.nolimit kk (by rw [Heap.size_push, Heap.size_push]; exact Nat.le_add_right hp.objs.size 2) hget (no 1) (Nat.succ_ne_self hp.objs.size) hgt (no 0) ?_))
      intro h5 dx t1 tk5 k5 ht5 dn dne dnt hx5 hn5
      refine ⟨rfl, ?_⟩
      have hnd : H1 dx = none := I1.hok.fresh dn
      have nd : ∀ {b : Addr} {o : Obj}, hp.get? b = some o → b ≠ dx := fun {b o} q => Nat.ne_of_lt (Nat.lt_of_lt_of_le (Heap.lt_size q) dn)
      have nx : ∀ {b : Addr} {o : Obj}, hp.get? b = some o → b ≠ hp.objs.size + 1 := fun {b o} q => Nat.ne_of_lt (Nat.lt_succ_of_lt (Heap.lt_size q))
      have two : ∀ b o, ((hp.push (PySem.W.kdv_tup [u])).push (PySem.HandSPX.excO C hp.objs.size)).get? b = some o → hp.get? b = some o ∨ (b = hp.objs.size ∧ o = PySem.W.kdv_tup [u]) ∨ b = hp.objs.size + 1 := fun b o q => by
        have hlt : b < hp.objs.size + 1 + 1 := by
          have := Heap.lt_size q
          rwa [Heap.size_push, Heap.size_push] at this
        have dn : hp.objs.size ≤ dx := dn
        rcases Nat.lt_or_ge b hp.objs.size with h1 | h1
        · refine .inl ?_
          have e1 : ∀ (h : Heap) (o' : Obj), b < h.objs.size → (h.push o').get? b = h.get? b := fun h o' hb => by
            simp [Heap.get?, Heap.push, Array.getElem?_push, Nat.ne_of_lt hb]
          rw [e1 (hp.push (PySem.W.kdv_tup [u])) _ (by rw [Heap.size_push]; exact Nat.lt_succ_of_lt h1), e1 hp _ h1] at q
          exact q
        · rcases Nat.lt_or_ge b (hp.objs.size + 1) with h2 | h2
          · have hb : b = hp.objs.size := Nat.le_antisymm (Nat.le_of_lt_succ h2) h1
            subst hb
            rw [hgt] at q
            cases q
            exact .inr (.inl ⟨rfl, rfl⟩)
          · exact .inr (.inr (Nat.le_antisymm (Nat.le_of_lt_succ hlt) h2))
      let H2 : Hp := upd (upd H1 dx (exd dx [("code", y)])) (hp.objs.size + 1) (exo (hp.objs.size + 1) C (some dx))
      let Ha : Hp := upd H1 (hp.objs.size + 1) (exo (hp.objs.size + 1) C none)
      have un : Un (frs X.stack) [] Ha H2 ((hp.push (PySem.W.kdv_tup [u])).push (PySem.HandSPX.excO C hp.objs.size)) h5 := by
        have na : ∀ {b : Addr}, Ha b = none → b ≠ hp.objs.size + 1 ∧ H1 b = none := fun {b} n => by
          by_cases hb : b = hp.objs.size + 1
          · subst hb; rw [show Ha _ = some _ from upd_same] at n; cases n
          · exact ⟨hb, by rwa [show Ha b = H1 b from upd_ne hb] at n⟩
        have kp : ∀ b o, ((hp.push (PySem.W.kdv_tup [u])).push (PySem.HandSPX.excO C hp.objs.size)).get? b = some o → Ha b = none → h5.get? b = some o := fun b o q n => by
          rcases two b o q with z | ⟨rfl, rfl⟩ | z
          · exact k5 b o z
          · exact ht5
          · exact absurd z (na n).1
        refine ⟨fun b o q n _ _ => kp b o q n, fun b o q n _ _ => ⟨o.slots, kp b o q n⟩, fun b o q n _ => ?_, fun b o q _ => ?_, fun b xs q => ?_, fun b o v q => ?_, fun b ps q => ⟨#[], ?_⟩⟩
        · have nb := na n
          rcases two b o q with z | ⟨rfl, rfl⟩ | z
          · show H2 b = none
            rw [show H2 b = _ from upd_ne nb.1, upd_ne (nd z)]; exact nb.2
          · show H2 hp.objs.size = none
            rw [show H2 hp.objs.size = _ from upd_ne nb.1, upd_ne (Ne.symm dnt)]; exact nb.2
          · exact absurd z nb.1
        · rcases two b o q with z | ⟨rfl, rfl⟩ | z
          · exact ⟨o, k5 b o z⟩
          · exact ⟨_, ht5⟩
          · rw [z]; exact ⟨_, hx5⟩
        · have e1 : b ≠ hp.objs.size + 1 := at_ne (show Ha (hp.objs.size + 1) = some _ from upd_same) q exo_tup
          rw [show Ha b = H1 b from upd_ne e1] at q
          show H2 b = _
          rw [show H2 b = _ from upd_ne e1, upd_ne (ne_of_none q hnd)]; exact q
        · have e1 : b ≠ hp.objs.size + 1 := at_ne (show Ha (hp.objs.size + 1) = some _ from upd_same) q exo_frz
          rw [show Ha b = H1 b from upd_ne e1] at q
          show H2 b = _
          rw [show H2 b = _ from upd_ne e1, upd_ne (ne_of_none q hnd)]; exact q
        · have e1 : b ≠ hp.objs.size + 1 := at_ne (show Ha (hp.objs.size + 1) = some _ from upd_same) q exo_tbl
          rw [show Ha b = H1 b from upd_ne e1] at q
          show H2 b = _
          rw [show H2 b = _ from upd_ne e1, upd_ne (ne_of_none q hnd), q]; simp
      have hok : HOk X.prog X.w H2 h5 := by
        intro b o q
        have q : H2 b = some o := q
        by_cases hb : b = hp.objs.size + 1
        · subst hb
          rw [show H2 _ = some _ from upd_same] at q
          cases q
          exact exo_ok hx5
        · rw [show H2 b = _ from upd_ne hb] at q
          by_cases hd : b = dx
          · subst hd
            rw [upd_same] at q
            cases q
            refine exd_ok hn5 fun f => ?_
            by_cases hf : f = "code"
            · rw [if_pos hf, hf]; exact ry
            · rw [if_neg hf]
              have : (f == ("code" : Str)) = false := by simpa using hf
              simp [List.lookup, this]
              exact True.intro
          · rw [upd_ne hd] at q
            have neo : ∀ {c : Addr} {v : HO}, H1 c = some v → c ≠ hp.objs.size + 1 ∧ c ≠ dx := fun {c v} e => ⟨ne_of_none e hn, ne_of_none e hnd⟩
            exact (I1.hok b o q).stay (fun c v hc z => k5 c v z) (fun c hc => by show H2 c = _; rw [show H2 c = _ from upd_ne (neo hc).1, upd_ne (neo hc).2]; exact hc) (fun c xs hc => by show H2 c = _; rw [show H2 c = _ from upd_ne (neo hc).1, upd_ne (neo hc).2]; exact hc)
      have eH : upd (del H2 (hp.objs.size + 1)) dx (.xd [("code", y)]) = upd H1 dx (.xd [("code", y)]) := by
        funext b
        by_cases hd : b = dx
        · subst hd; rw [upd_same, upd_same]
        · rw [upd_ne hd, upd_ne hd]
          by_cases hb : b = hp.objs.size + 1
          · subst hb; rw [del_same, hn]
          · rw [del_ne hb, show H2 b = _ from upd_ne hb, upd_ne hd]
      exact mk_end (raises_own T.oex.exC T.oex.tyC) I1 hsz kk un hok rfl I1.bare upd_same (by
        show H2 dx = _
        rw [show H2 dx = _ from upd_ne dne, upd_same]) hnd (by rw [eH]; exact hz dx hnd)
end
end Rf
/-! S7: f(lambda: body), with what stays told more sharply (no object goes). -/
namespace Rf
open PySem PySem.Spec PyProof.Rows L2 LamX
/-- all but tables is as it was, and nothing goes -/
def ExtD (H H1 : Hp) : Prop := ExtN H H1 ∧ ∀ b o, H b = some o → ∃ o', H1 b = some o'
section
variable {X : Cx} {pins : List (Addr × Obj)} {σ : L2.St} {H : Hp} {s : Shared}
theorem lam_mk {T : List (Addr × Str)} {c P : Addr} {params : Arguments} {body : Expr} {scope : Scope} {pos : Pos} {E Q : Value → Shared → Prop} (I : Inv X pins σ H s) (TB : TabB X.base X.mg c P) (hcode : X.env.code = .ref c) (hm : (P, X.env.qual ++ "<lambda>") ∈ T)
    (hu : ∀ p ∈ T, p.1 = P → p.2 = X.env.qual ++ "<lambda>") (hT : Tabs T H) (hdef : defaultsOf params X.env = ([], [])) (hfree : ∀ y ∈ scope.names, y.2 = .free → ∃ c, X.env.cells.lookup y.1 = some c)
    (h : ∀ (f c' : Addr) (pm ctv : Value) (H1 : Hp) (s' : Shared), Inv X pins σ H1 s' → ExtD H H1 → Tabs T H1 → s'.heap.get? f = some (PySem.W.kla_obj "<lambda>" (X.env.qual ++ "<lambda>") params body scope (cloFrom X.env.cells scope.names []) pm c' ctv) →
      H1 f = none → f ∉ frs X.stack → H1 c' = some (CodeO c' (X.env.qual ++ "<lambda>")) → Q (.ref f) s') :
    wpAny (model X.prog X.w) X.A (eval (.Lambda params body scope pos) X.env) Q E s := by
  obtain ⟨ps, hP, ht, ha⟩ := hT _ hm
  have bP := TB.bm.keeps I.bk
  have gP := I.hok P _ hP
  have nofr : ∀ f, s.heap.objs.size ≤ f → f ∉ frs X.stack := by
    intro f hf z
    rcases List.mem_cons.mp (I.stkSub _ z) with e | e
    · exact Nat.lt_irrefl _ (Nat.lt_of_lt_of_le (e ▸ I.lt) hf)
    · exact I.nofs hf e
  refine PySem.W.kla_eval hdef ?_
  cases hc : codeAmong pos ps.toList with
  | some cv =>
    obtain ⟨c', rfl, hco⟩ := ha pos cv hc
    refine PySem.W.kla_makeFunctionHit (mg := X.mg) (c := c) (P := P) (ps := ps) (closure_ok hfree) I.ok.glob (I.mod.glob.keeps I.bk) hcode (TB.code.keeps I.bk) gP ht hc bP fun ctv h' tk hx hsz => ?_
    have J := I.kept (h' := h'.push (PySem.W.kla_obj "<lambda>" (X.env.qual ++ "<lambda>") params body scope (cloFrom X.env.cells scope.names []) ((X.mg "__name__").getD .none) c' ctv)) (t' := tk) fun b o e => Heap.get?_push_of_some _ (hx b o e)
    exact h _ c' _ ctv H _ J ⟨ExtN.refl H, fun b o e => ⟨o, e⟩⟩ hT (Heap.get?_push_size _ rfl) (I.hok.fresh hsz) (nofr _ hsz) hco
  | none =>
    refine PySem.W.kla_makeFunction (mg := X.mg) (c := c) (P := P) (ps := ps) (closure_ok hfree) I.ok.glob (I.mod.glob.keeps I.bk) hcode (TB.code.keeps I.bk) gP ht hc TB.gP bP fun c' ctv h' tk hx hge hlt hrec htb => ?_
    obtain ⟨c2, oc, vs, t, e2, hoc, hd, hv⟩ := hrec
    cases e2
    have hsz : s.heap.objs.size ≤ h'.objs.size := Nat.le_trans hge (Nat.le_of_lt hlt)
    have nC : H c' = none := I.hok.fresh hge
    have J := inv_table (t' := tk) (more := #[rawInt pos.line, rawInt pos.col, .ref c']) (h' := h'.push (PySem.W.kla_obj "<lambda>" (X.env.qual ++ "<lambda>") params body scope (cloFrom X.env.cells scope.names []) ((X.mg "__name__").getD .none) c' ctv)) I hP
      (fun b o hb e => Heap.get?_push_of_some _ (hx b o hb e)) (Heap.get?_push_of_some _ htb) hge ⟨oc, vs, t, Heap.get?_push_of_some _ hoc, hd, hv⟩
    have other : ∀ b o, H b = some o → b ≠ P → upd (upd H P (.tbl (ps ++ #[rawInt pos.line, rawInt pos.col, .ref c']))) c' (CodeO c' (X.env.qual ++ "<lambda>")) b = some o := fun b o e n => by
      rw [upd_ne (ne_of_none e nC), upd_ne n]; exact e
    have atP : upd (upd H P (.tbl (ps ++ #[rawInt pos.line, rawInt pos.col, .ref c']))) c' (CodeO c' (X.env.qual ++ "<lambda>")) P = some (.tbl (ps ++ #[rawInt pos.line, rawInt pos.col, .ref c'])) := by
      rw [upd_ne (ne_of_none hP nC), upd_same]
    have notP : ∀ b o, H b = some o → (∀ qs, o ≠ .tbl qs) → b ≠ P := fun b o e n z => by
      subst z
      rw [hP] at e
      exact n ps (Option.some.inj e).symm
    have eN : ExtN H (upd (upd H P (.tbl (ps ++ #[rawInt pos.line, rawInt pos.col, .ref c']))) c' (CodeO c' (X.env.qual ++ "<lambda>"))) := fun b o e n => other b o e (notP b o e n)
    have eL : (ps ++ #[rawInt pos.line, rawInt pos.col, .ref c']).toList = ps.toList ++ [rawInt pos.line, rawInt pos.col, .ref c'] := by simp
    refine h h'.objs.size c' _ ctv _ _ J ⟨eN, fun b o e => ?_⟩ ?_ (Heap.get?_push_size _ rfl) ?_ (nofr _ hsz) upd_same
    · by_cases hb : b = P
      · exact ⟨_, by rw [hb]; exact atP⟩
      · exact ⟨o, other b o e hb⟩
    · intro p hp
      by_cases hb : p.1 = P
      · rw [hu p hp hb, hb]
        refine ⟨_, atP, by rw [eL]; exact PySem.TriplesOk_snoc _ _ _ _ ht, fun p' cv hcv => ?_⟩
        rw [eL] at hcv
        rcases among_app _ ht hcv with z | z
        · obtain ⟨c0, e1, e2⟩ := ha p' cv z
          exact ⟨c0, e1, eN _ _ e2 codeO_ne⟩
        · exact ⟨c', z, upd_same⟩
      · obtain ⟨qs, a1, a2, a3⟩ := hT p hp
        refine ⟨qs, other _ _ a1 hb, a2, fun p' cv hcv => ?_⟩
        obtain ⟨c0, e1, e2⟩ := a3 p' cv hcv
        exact ⟨c0, e1, eN _ _ e2 codeO_ne⟩
    · rw [upd_ne (Nat.ne_of_gt hlt), upd_ne (Nat.ne_of_gt (Nat.lt_of_lt_of_le (Heap.lt_size gP) hsz))]
      exact I.hok.fresh hsz
end
/-- a(), where a slot holds the lambda; what is raised is wished for at the slots -/
theorem pe_actS {X : Cx} {pins : List (Addr × Obj)} {σ : L2.St} {H : Hp} {s : Shared} {CXg : CXT} {Eg : XK} {Ng : List Str} {qg : Str} {sg : Scope} {g f c' : Addr} {cdg pm ctv : Value} {params : Arguments} {body : Expr} {scope : Scope} {k i : Nat} {a : Str} {pn : List (Addr × Obj)} {xe : Value → Shared → Prop} {W : WX}
    {tb : XK → TE} {p1 p2 : Pos} (I : Inv X pins σ H s) (L : LamS X.env.scope scope) (hf : s.heap.get? f = some (PySem.W.kla_obj "<lambda>" (X.env.qual ++ "<lambda>") params body scope (cloFrom X.env.cells scope.names []) pm c' ctv)) (hfn : H f = none) (hfr : f ∉ frs X.stack)
    (hbind : bindArgs (PySem.W.kla_fn "<lambda>" (X.env.qual ++ "<lambda>") params body scope (cloFrom X.env.cells scope.names []) pm (.ref c') ctv) ⟨[], []⟩ = pure []) (tk : Takes ((cxOf CXg X.prog X.w X.K X.mg X.base Ng qg sg g cdg X.A X.stack s H Eg).tr pn xe) W)
    (hr : Room (k + 1) (X.A.deeper (envOfC qg sg s.heap.objs.size g cdg)))
    (hbody : ∀ (A : Around) (outer : List Env) (s : Shared) (H : Hp) (E : XK), Room k (A.deeper (lamEnv X scope s.heap.objs.size f c')) → PE (lamCx X A outer s H E scope f c') body (tb E))
    (hN : Ng[i]? = some a) (hv : Vis sg a) (hd : (a == ("__debug__" : Str)) = false) (hcd : (a == ("__classdict__" : Str)) = false) :
    PE ((cxOf CXg X.prog X.w X.K X.mg X.base Ng qg sg g cdg X.A X.stack s H Eg).tr pn xe) (.Call (.Name a p1) [] [] p2)
      (fun σZ HZ Q => σZ[i]? = some (some (.ref f)) ∧ HZ c' = some (CodeO c' (X.env.qual ++ "<lambda>")) ∧ tb (fun cls d H' => W cls d σZ H') σ HZ Q) := by
  constructor
  rintro pinsZ sZ σZ HZ Q IZ ⟨hs, hc, ht⟩
  refine wpAny_Call_Name_kw (thn ((pe_var (pos := p1) (i := i) hN hv hd hcd).run pinsZ sZ σZ HZ (fun v H1 => v = .ref f ∧ H1 = HZ) IZ ⟨_, hs, rfl, rfl⟩) fun u s1 ⟨v, H1, J, r1, ev, eH⟩ => ?_)
  subst ev eH
  obtain rfl : u = .ref f := r1
  have gf := J.base.keep f _ hf hfn hfr (fun z => nomatch (show f ∈ ([] : List Addr) from z))
  have un : Un (frs X.stack) [] H H1 s.heap s1.heap := J.base
  obtain ⟨⟨oc, vs, t, hoc, hdc, hvc⟩, _, _⟩ := J.hok c' _ hc
  have rc : codeAny (model X.prog X.w) (X.A.deeper (envOfC qg sg s.heap.objs.size g cdg)) (.call (.ref f) ⟨[], []⟩) (CR (L2.CX X.prog X.w) (envOfC qg sg s.heap.objs.size g cdg :: X.stack) X.prog X.w H1 s1 Q fun cls d H' => W cls d σZ H') s1 := by
    refine PySem.W.kla_callFunE hr.depth gf rfl L.co L.gen rfl ⟨c', oc, vs, t, rfl, hoc, hdc, hvc⟩ ?_
    rw [hbind]
    refine wpAny_pure (wpAny_newFunctionEnv (fun y hy => (L.own y hy).2) (fun y hy => nomatch hy) (fun h₁ hns hsb => ⟨J.nolimit.fresh _ hsb, ?_⟩) L.kind)
    have kp : ∀ b o, s1.heap.get? b = some o → h₁.get? b = some o := fun b o e => hsb.extBut b o (Nat.ne_of_lt (Heap.lt_size e)) (Heap.get?_push_of_some _ e)
    have st : Inv (lamCx X (X.A.deeper (envOfC qg sg s.heap.objs.size g cdg)) (envOfC qg sg s.heap.objs.size g cdg :: X.stack) s1 H1 (fun cls d H' => W cls d σZ H') scope f c') [] σ H1 { s1 with heap := h₁, toks := s1.toks + ([] : List (Str × Value)).length } :=
      lam_start2 I L J.env0 hr.hd un hns kp
    refine PySem.W.kla_codeExpr (wpAny_mono ((hbody _ _ s1 H1 _ (hr.deeper _)).run [] _ _ H1 Q st ht) (fun v s' ⟨w', H', J', rv, q⟩ => ?_) fun e s' hq => hq)
    exact ⟨w', H', J'.os, J'.bare, J'.base, J'.hok, rv, q⟩
  refine PySem.W.callWith_F0 ⟨_, _, _, _, gf⟩ (wpAny_call (codeAny_mono rc fun r s' hq => ?_))
  cases r with
  | error e => exact passAt tk σZ pinsZ H1 s1 e s' J hq
  | ok fl =>
    cases fl with
    | ret u => exact J.after hq
    | _ => exact False.elim hq
/-- the def that calls what it got, raising at its slots -/
def GivesD (X : Cx) (Ng : List Str) (x : Str) (sg : Scope) (g : Addr) (cdg : Value) (bg : List Stmt) (a : Str) (q : Str) (TT : (XK → Hp → VK → Prop) → Hp → VK → Prop) : Prop :=
  ∀ (f c' : Addr) (s : Shared) (H : Hp) (Q : VK) (tl : XK → Hp → VK → Prop),
    (∀ (W : WX) (pn : List (Addr × Obj)) (xe : Value → Shared → Prop) (p1 p2 : Pos), Takes ((cxOf C8.CX0 X.prog X.w X.K X.mg X.base Ng x sg g cdg X.A X.stack s H C8.E0).tr pn xe) W →
      PE ((cxOf C8.CX0 X.prog X.w X.K X.mg X.base Ng x sg g cdg X.A X.stack s H C8.E0).tr pn xe) (.Call (.Name a p1) [] [] p2) (fun σZ HZ Q => σZ[0]? = some (some (.ref f)) ∧ HZ c' = some (CodeO c' q) ∧ tl (fun cls d H' => W cls d σZ H') HZ Q)) →
    H c' = some (CodeO c' q) → TT tl H Q →
    ∃ t, PSs (cxOf C8.CX0 X.prog X.w X.K X.mg X.base Ng x sg g cdg X.A X.stack s H C8.E0).nox bg t ∧ t { nx := fun _ H' => Q .non H', rt := Q } (L2.start Ng [.ref f]) H
def tLamD (T : List (Addr × Str)) (TT : (XK → Hp → VK → Prop) → Hp → VK → Prop) (t : XK → TE) : TE := fun σ H Q => Tabs T H ∧ ∀ H1, ExtD H H1 → Tabs T H1 → TT (fun E H' Q' => t E σ H' Q') H1 Q
theorem pe_lamD {X : Cx} {T : List (Addr × Str)} {TT : (XK → Hp → VK → Prop) → Hp → VK → Prop} {x a : Str} {g c P : Addr} {k : Nat} {pg : Arguments} {bg : List Stmt} {sg : Scope} {dV kV doc pm cdv ct oc : Value} {an od : Option Addr} {osl : Array (Option Value)} {Ng : List Str}
    {params : Arguments} {body : Expr} {scope : Scope} {t : XK → TE} {p lpos pos : Pos} (hg : Gl X x) (hm : X.mg x = some (.ref g)) (hk : PySem.W.keepIn X.K (.ref g) = true) (lk : X.K.lookup g = some ⟨oc, od, .func (PySem.W.fnOf x x pg bg sg dV kV doc pm an cdv ct), osl⟩)
    (hcg : PySem.W.codeIn X.K cdv x = true) (hb : L2.Binds X.K (PySem.W.fnOf x x pg bg sg dV kV doc pm an cdv ct) [a] []) (Sg : FnScope Ng [a] sg) (hNg : Ng[0]? = some a) (hva : Vis sg a) (hG : GivesD X Ng x sg g cdv bg a (X.env.qual ++ "<lambda>") TT)
    (TB : TabB X.base X.mg c P) (hcode : X.env.code = .ref c) (hmT : (P, X.env.qual ++ "<lambda>") ∈ T) (hu : ∀ p ∈ T, p.1 = P → p.2 = X.env.qual ++ "<lambda>") (hr : Room (k + 2) X.A) (L : LamS X.env.scope scope) (hdef : defaultsOf params X.env = ([], []))
    (hbind : ∀ (q : Str) (cl : List (Str × Addr)) (pm cv ctv : Value), bindArgs (PySem.W.kla_fn "<lambda>" q params body scope cl pm cv ctv) ⟨[], []⟩ = pure [])
    (hbody : ∀ (A : Around) (outer : List Env) (s : Shared) (H : Hp) (E : XK) (f c' : Addr), Room k (A.deeper (lamEnv X scope s.heap.objs.size f c')) → PE (lamCx X A outer s H E scope f c') body (t E))
    (hdb : (x == ("__debug__" : Str)) = false) (hd : (a == ("__debug__" : Str)) = false) (hcd : (a == ("__classdict__" : Str)) = false) : PE X (.Call (.Name x p) [.Lambda params body scope lpos] [] pos) (tLamD T TT t) := by
  refine ⟨fun pins s σ H Q I ⟨hT, h⟩ => ?_⟩
  refine wpAny_Call_Name_kw (ld_glob I hg hm (PySem.W.callWith_K (h₀ := X.base) I.ok.mod.kin hk ?_ (by rfl) (by rfl)) hdb)
  show wpAny _ _ (spliced ((false, eval (.Lambda params body scope lpos) X.env) :: backTo pos (starEach [] X.env))) _ _ s
  refine Calls.spliced_cons (lam_mk I TB hcode hmT hu hT hdef (L.has I.ok) fun f c' pm' ctv H1 s' J eD T1 hf hfn hfr hco => Calls.spliced_nil ⟨J.kIn, ?_⟩)
  have rc : codeAny (model X.prog X.w) X.A (.call (.ref g) ⟨[.ref f], []⟩) (CR C8.CX0 X.stack X.prog X.w H1 s' Q C8.E0) s' :=
    run_ofS (N := Ng) (ps := [a]) (us := [.ref f]) (vs := [.ref f]) lk hcg Sg hr J.env0 (hb s' [.ref f] J.kIn rfl) (.cons rfl .nil) rfl fun hr' => by
      obtain ⟨t', ht', hq'⟩ := hG f c' s' H1 Q (fun E H' Q' => t E σ H' Q') (fun W pn xe p1 p2 tk => pe_actS (i := 0) (tb := t) J L hf hfn hfr (hbind _ _ _ _ _) tk hr' (fun A outer s H E hr2 => hbody A outer s H E f c' hr2) hNg hva hd hcd) hco (h H1 eD T1)
      exact ⟨t', ht'.nox, hq'⟩
  refine wpAny_call (codeAny_mono rc fun r s2 hq => ?_)
  cases r with
  | error e => exact False.elim hq
  | ok fl =>
    cases fl with
    | ret u => exact J.after hq
    | _ => exact False.elim hq
end Rf
/-! R10: what the text says of expressions, tests, loops' heads. -/
namespace Rf
open PySem PySem.Spec PyProof.Rows L2

/-- a def that gets a lambda: what it makes of what the lambda answers -/
def TTh (K : PySem.W.Frag) (ca : Nat → Addr) (T : List (Addr × Str)) (g : List Sl → FR) : (XK → Hp → VK → Prop) → Hp → VK → Prop := fun tl H Q =>
  LamX.Tabs T H ∧ ∃ (f : List D → Option (Xn ⊕ D)) (J : Hp → Prop), (∀ H H' : Hp, Keep H H' → J H → J H') ∧ J H ∧
    (∀ HZ E Q', LamX.Tabs T HZ → J HZ → (match f [] with
      | some (.inr d) => ∀ v H', SmT T HZ H' → Fz K H' d v → Q' v H'
      | some (.inl x) => ∀ d H', SmT T HZ H' → XcR K H' x d → E (.ref (ca x.cls)) d H'
      | none => False) → tl E HZ Q') ∧
    (match g [.clo f] with
      | .ok s _ => ∀ v H', SmT T H H' → VF K H H' s v → Q v H'
      | _ => False)
def HofP (P : Program) (w : World) (K : PySem.W.Frag) (mg : Str → Option Value) (base : Heap) (ca : Nat → Addr) (T : List (Addr × Str)) (k : Nat) (g : List Sl → FR) (x : Str) : Prop :=
  ∃ (a : Str) (gA : Addr) (pg : Arguments) (bg : List Stmt) (sg : Scope) (dV kV doc pm cdv ct oc : Value) (an od : Option Addr) (osl : Array (Option Value)) (Ng : List Str),
    mg x = some (.ref gA) ∧ PySem.W.keepIn K (.ref gA) = true ∧ K.lookup gA = some ⟨oc, od, .func (PySem.W.fnOf x x pg bg sg dV kV doc pm an cdv ct), osl⟩ ∧ PySem.W.codeIn K cdv x = true ∧
    Binds K (PySem.W.fnOf x x pg bg sg dV kV doc pm an cdv ct) [a] [] ∧ FnScope Ng [a] sg ∧ Ng[0]? = some a ∧ L2.Vis sg a ∧ (a == ("__debug__" : Str)) = false ∧ (a == ("__classdict__" : Str)) = false ∧
    ∀ (X : Cx) (q : Str), X.prog = P → X.w = w → X.K = K → X.mg = mg → X.base = base → Room k X.A → GivesD X Ng x sg gA cdv bg a q (TTh K ca T g)
/-- what stands behind the top, for calls up to k deep -/
structure Lk (fns : List (Str × Nat × Bool)) (cst : List (Str × D)) (exs blt rs rc hfs : List Str) (ca : Nat → Addr) (sb : Sub) (k : Nat) (cf : Nat → List Sl → FR) (T : List (Addr × Str)) (P : Program) (w : World) (K : PySem.W.Frag) (mg : Str → Option Value) (base : Heap) : Prop where
  fn : ∀ x fi np io, ixF x fns = some (fi, np, io) → ∃ f fd ps, FnOk P w K mg base (L2.CX P w) k f fd ps (spF K ca T (cf fi) io) ∧ mg x = some (.ref f) ∧ PySem.W.keepIn K (.ref f) = true ∧ Binds K fd ps [] ∧ ps.length = np
  cs : ∀ x d, cst.lookup x = some d → ∃ u v, mg x = some u ∧ RelV v u ∧ ∀ H, Fz K H d v
  ex : ∀ x i, ixS x exs = some i → mg x = some (.ref (ca i))
  bl : ∀ x, x ∈ blt → x ≠ "gcd" → mg x = none
  gcd : ("gcd" : Str) ∈ blt → mg "gcd" = some (.builtin "math.gcd")
  kit : ∀ z i, sb z z = true → i < exs.length → PySem.W.kitOne K (.ref (ca z)) (.ref (ca i)) = some (sb z i)
  exm : ∀ z i, sb z z = true → i < exs.length → PySem.W.exmOne K (.ref (ca z)) (.ref (ca i)) = some (sb z i)
  exc : ∀ z, sb z z = true → ExcC K (ca z)
  rai : ∀ x i, x ∈ rs → ixS x exs = some i → (∃ B newId initId bmB, ExcBaseFacts B newId initId bmB ∧ PySem.W.excIn K (ca i) bmB newId = true) ∧ PySem.W.keepIn K (.ref (ca i)) = true ∧ PySem.W.subIn K (.ref (ca i)) (.type "BaseException") = some true ∧ PySem.W.typeIn K (.ref (ca i)) = some (.type "type")
  rac : ∀ x i, x ∈ rc → ixS x exs = some i → GeC P K (ca i)
  xf : ∀ z, sb z z = true → XfC K (ca z) ∧ PySem.W.findIn K (.ref (ca z)) "code" = some none
  hf : ∀ x, x ∈ hfs → ∀ fi np io, ixF x fns = some (fi, np, io) → HofP P w K mg base ca T k (cf fi) x
structure XOk (X : Cx) (c : CE) (ex : ExF) (W : WX) (ca : Nat → Addr) (sb : Sub) (k : Nat) (cf : Nat → List Sl → FR) : Prop where
  vis : ∀ x, visB c.sc x = true → Vis X.env.scope x
  loc : ∀ x, locB c.sc x = true → Loc X.env.scope x ∧ (X.fn x = true ∨ X.env.scope.names.lookup x = some .local)
  loc1 : ∀ x, c.sc.names.lookup x = some .local → X.env.scope.names.lookup x = some .local
  loc2 : ∀ x, c.sc.names.lookup x = some .cell → X.env.scope.names.lookup x = some .cell
  gl : ∀ x, glB c.sc x = true → Gl X x
  fre : ∀ x, (c.sc.names.lookup x = some .cell ∨ c.sc.names.lookup x = some .free) → X.env.scope.names.lookup x = some .cell ∨ X.env.scope.names.lookup x = some .free
  N : X.N = c.N
  nd : c.N.Nodup
  cool : c.hot = false → X.calm = true ∧ Room (k + cond c.lam 2 0) X.A ∧ ∀ a z, ¬ ex a z
  un : X.A.units + 300 < cLine
  k8 : 8 ≤ k
  exx : ∀ a z, ex a z → sb z.cls z.cls = true ∧ (z.code = none → ∃ oe, (a, oe) ∈ X.pn ∧ Zc (.ref (ca z.cls)) none oe ∧ ∃ vs, oe.data = .fields vs)
  tk : Takes X W
  clk : ∀ a i, c.clo = some (a, i) → c.hot = false → ∀ (W' : WX) (pn : List (Addr × Obj)) (xe : Value → Shared → Prop), Takes (X.tr pn xe) W' → ∀ p1 p2, PE (X.tr pn xe) (.Call (.Name a p1) [] [] p2) (tE X.K ex ca W' fun (σ : Sls) => (match σ[i]? with
    | some (.clo f) => cloR (f []) σ
    | _ => .bad))
  xcd : c.hot = true → ∀ (i : Nat) (y : Str) (py pos : Pos), X.N[i]? = some y → L2.Vis X.env.scope y → (y == ("__debug__" : Str)) = false → (y == ("__classdict__" : Str)) = false → PE X (.Attribute (.Name y py) "code" pos) (tE X.K ex ca W fun (σ : Sls) => (match σ[i]? with
    | some (Sl.exn ⟨_, some d⟩) => R.ok (.im d) σ
    | _ => .bad))
  lam : c.lam = true → c.hot = false → ∃ cc P, X.env.code = .ref cc ∧ LamX.TabB X.base X.mg cc P ∧ (P, X.env.qual ++ "<lambda>") ∈ ex.T ∧ (∀ p ∈ ex.T, p.1 = P → p.2 = X.env.qual ++ "<lambda>") ∧ (∀ x, visB c.sc x = true → L2.Vis X.env.scope x) ∧ X.env.scope = c.sc
  lk : Lk c.fns c.cst c.exs c.blt c.rs c.rc c.hfs ca sb k cf ex.T X.prog X.w X.K X.mg X.base
theorem good_of {x : Str} (h : goodName x = true) : (x == ("__debug__" : Str)) = false ∧ (x == ("__classdict__" : Str)) = false := by
  unfold goodName at h
  simpa using h
theorem ixS_get {x : Str} : ∀ {l : List Str} {i : Nat}, ixS x l = some i → l[i]? = some x
  | [], _, h => by cases h
  | y :: r, i, h => by
    unfold ixS at h
    split at h
    · rename_i e; cases h; rw [e]; rfl
    · obtain ⟨j, h1, h2⟩ := Option.map_eq_some_iff.mp h
      subst h2
      show r[j]? = some x
      exact ixS_get h1
section
variable {X : Cx} {c : CE} {ex : ExF} {W : WX} {ca : Nat → Addr} {sb : Sub} {k : Nat} {cf : Nat → List Sl → FR}
theorem slot_of (ok : XOk X c ex W ca sb k cf) {x : Str} {i : Nat} (h : c.slot x = some i) : X.N[i]? = some x ∧ Vis X.env.scope x ∧ (x == ("__debug__" : Str)) = false ∧ (x == ("__classdict__" : Str)) = false := by
  unfold CE.slot at h
  split at h
  · rename_i hc
    simp only [Bool.and_eq_true] at hc
    exact ⟨by rw [ok.N]; exact ixS_get h, ok.vis x hc.1, good_of hc.2⟩
  · cases h
theorem tgt_of (ok : XOk X c ex W ca sb k cf) {x : Str} {i : Nat} (h : c.tgt x = some i) : X.N[i]? = some x ∧ Loc X.env.scope x ∧ (X.fn x = true ∨ X.env.scope.names.lookup x = some .local) ∧ (c.io = true → i ≠ 0) := by
  unfold CE.tgt at h
  split at h
  · rename_i hc
    simp only [Bool.and_eq_true] at hc
    split at h
    · rename_i j hj
      split at h
      · cases h
      · rename_i hz
        cases h
        refine ⟨by rw [ok.N]; exact ixS_get hj, (ok.loc x hc.1).1, (ok.loc x hc.1).2, fun z e => hz ?_⟩
        subst e; rw [z]; rfl
    · cases h
  · cases h
theorem gl_of (ok : XOk X c ex W ca sb k cf) {x : Str} (h : c.gl x = true) : Gl X x ∧ (x == ("__debug__" : Str)) = false := by
  unfold CE.gl at h
  simp only [Bool.and_eq_true] at h
  exact ⟨ok.gl x h.1, (good_of h.2).1⟩
theorem fn_of' (ok : XOk X c ex W ca sb k cf) {x : Str} {q : Nat × Nat × Bool} (h : c.fn x = some q) : Gl X x ∧ (x == ("__debug__" : Str)) = false ∧ ixF x c.fns = some q := by
  unfold CE.fn at h
  split at h
  · rename_i hg; exact ⟨(gl_of ok hg).1, (gl_of ok hg).2, h⟩
  · cases h
theorem con_of (ok : XOk X c ex W ca sb k cf) {x : Str} {d : D} (h : c.con x = some d) : Gl X x ∧ (x == ("__debug__" : Str)) = false ∧ c.cst.lookup x = some d := by
  unfold CE.con at h
  split at h
  · rename_i hg; exact ⟨(gl_of ok hg).1, (gl_of ok hg).2, h⟩
  · cases h
theorem exc_of (ok : XOk X c ex W ca sb k cf) {x : Str} {i : Nat} (h : c.exc x = some i) : Gl X x ∧ (x == ("__debug__" : Str)) = false ∧ ixS x c.exs = some i := by
  unfold CE.exc at h
  split at h
  · rename_i hg; exact ⟨(gl_of ok hg).1, (gl_of ok hg).2, h⟩
  · cases h
theorem isB_of (ok : XOk X c ex W ca sb k cf) {x : Str} (h : c.isB x = true) : Gl X x ∧ (x == ("__debug__" : Str)) = false ∧ x ∈ c.blt := by
  unfold CE.isB at h
  simp only [Bool.and_eq_true] at h
  refine ⟨(gl_of ok h.1).1, (gl_of ok h.1).2, by simpa using h.2⟩
end
/-! ### pieces of the compiler -/
section
variable {X : Cx} {c : CE} {ex : ExF} {W : WX} {ca : Nat → Addr} {sb : Sub} {k : Nat} {cf : Nat → List Sl → FR}
def SE (X : Cx) (ex : ExF) (ca : Nat → Addr) (W : WX) (sb : Sub) (cf : Nat → List Sl → FR) (E : Expr → Option IE) : Prop := ∀ e r, E e = some r → PE X e (tE X.K ex ca W (evE sb cf r))
def ST (X : Cx) (ex : ExF) (ca : Nat → Addr) (W : WX) (sb : Sub) (cf : Nat → List Sl → FR) (E : Expr → Option IE) : Prop := ∀ e r, E e = some r → PT X e (tT X.K ex ca W (evE sb cf r))
theorem listL_ok {E : Expr → Option IE} (h : SE X ex ca W sb cf E) : ∀ {es : List Expr} {r : IE}, listL E es = some r → PA X es (tL X.K ex ca W (evE sb cf r)) ∧ ∀ e ∈ es, isStar e = false
  | [], r, e => by
    cases e
    exact ⟨s_nil, fun _ z => nomatch z⟩
  | x :: es, r, e => by
    unfold listL at e
    split at e
    · cases e
    · rename_i hs
      have hs : isStar x = false := by simpa using hs
      split at e
      · rename_i t ts h1 h2
        cases e
        obtain ⟨p, q⟩ := listL_ok h h2
        refine ⟨s_cons (h _ _ h1) p hs, fun z hz => ?_⟩
        rcases List.mem_cons.mp hz with rfl | hz
        · exact hs
        · exact q z hz
      · cases e
theorem noStar {es : List Expr} (h : ∀ e ∈ es, isStar e = false) {env : Env} {pos : Pos} : (backTo pos (starEach es env)).any (·.1) = false := by
  unfold backTo
  induction es with
  | nil => rfl
  | cons e es ih =>
    rw [star1 (h e (List.mem_cons_self ..))]
    exact ih fun z hz => h z (List.mem_cons_of_mem _ hz)
theorem noLv_ok {o : Option IE} {r : IE} (h : noLv o = some r) : o = some r ∧ ∀ i, r ≠ .lv i := by
  cases o with
  | none => cases h
  | some a => cases a <;> first | (cases h; done) | (cases h; exact ⟨rfl, fun _ z => nomatch z⟩)
theorem opA_ok (ok : XOk X c ex W ca sb k cf) {E : Expr → Option IE} (h : SE X ex ca W sb cf E) {e : Expr} {r : IE} (q : opA c E e = some r) : PE X e (tA X.K ex ca W r (evE sb cf r)) := by
  have base : noLv (E e) = some r → PE X e (tA X.K ex ca W r (evE sb cf r)) := fun z => tA_of (h _ _ (noLv_ok z).1) (noLv_ok z).2
  cases e with
  | Name x p =>
    simp only [opA] at q
    split at q
    · rename_i i hi
      cases q
      obtain ⟨h1, h2, h3, h4⟩ := slot_of ok hi
      exact s_lv h1 h2 h3 h4
    · exact base q
  | _ => exact base q
theorem listT_ok {T : Expr → Option Tg} (h : ∀ e t, T e = some t → PG X e (gD X.K ex t)) : ∀ {es : List Expr} {t : Tg}, listT T es = some t → PGs X es (gDs X.K ex t)
  | [], t, e => by cases e; exact gs_nil
  | x :: es, t, e => by
    unfold listT at e
    split at e
    · cases e
    · rename_i hs
      split at e
      · rename_i t1 ts h1 h2
        cases e
        exact gs_cons (h _ _ h1) (listT_ok h h2) (by simpa using hs)
      · cases e
theorem cTg_ok (ok : XOk X c ex W ca sb k cf) : ∀ (n : Nat) (e : Expr) (t : Tg), cTg n c e = some t → PG X e (gD X.K ex t)
  | 0, _, _, h => by simp [cTg] at h
  | n + 1, .Name x p, t, h => by
    simp only [cTg] at h
    obtain ⟨i, h1, h2⟩ := Option.map_eq_some_iff.mp h
    subst h2
    obtain ⟨g1, g2, g3, _⟩ := tgt_of ok h1
    exact g_nm (by rw [ok.N]; exact ok.nd) g1 g2 g3
  | n + 1, .Tuple es x1 p, t, h => by
    simp only [cTg] at h
    split at h
    · cases h
    · rename_i hh
      have hh : c.hot = false := by simpa using hh
      obtain ⟨a1, a2, a3⟩ := listT_cs _ h
      exact g_tup (ok.cool hh).1 (listT_ok (cTg_ok ok n) h) (star_len es _) (star_find es _ a2) a1 a3
  | n + 1, .Constant .., t, h => by simp [cTg] at h
theorem o2_ok {f : IE → IE → IE} {a b : Option IE} {r : IE} (h : o2 f a b = some r) : ∃ p q, a = some p ∧ b = some q ∧ r = f p q := by
  cases a with
  | none => cases h
  | some p => cases b with
    | none => cases h
    | some q => cases h; exact ⟨p, q, rfl, rfl, rfl⟩
theorem o3_ok {f : IE → IE → IE → IE} {a b d : Option IE} {r : IE} (h : o3 f a b d = some r) : ∃ p q s, a = some p ∧ b = some q ∧ d = some s ∧ r = f p q s := by
  cases a with
  | none => cases h
  | some p => cases b with
    | none => cases h
    | some q => cases d with
      | none => cases h
      | some s => cases h; exact ⟨p, q, s, rfl, rfl, rfl, rfl⟩
theorem chain_an {E : Expr → Option IE} (h : SE X ex ca W sb cf E) {pos : Pos} : ∀ {es : List Expr} {r : IE}, chainB .an E es = some r → PE X (.BoolOp .And es pos) (tE X.K ex ca W (evE sb cf r))
  | [], _, e => by cases e
  | [a], r, e => pe_one (h a r e)
  | a :: b :: es, r, e => by
    obtain ⟨p, q, h1, h2, rfl⟩ := o2_ok e
    exact s_an (h _ _ h1) (chain_an h h2)
theorem chain_or {E : Expr → Option IE} (h : SE X ex ca W sb cf E) {pos : Pos} : ∀ {es : List Expr} {r : IE}, chainB .orr E es = some r → PE X (.BoolOp .Or es pos) (tE X.K ex ca W (evE sb cf r))
  | [], _, e => by cases e
  | [a], r, e => pe_one (h a r e)
  | a :: b :: es, r, e => by
    obtain ⟨p, q, h1, h2, rfl⟩ := o2_ok e
    exact s_or (h _ _ h1) (chain_or h h2)
theorem chainT_an {E : Expr → Option IE} (h : ST X ex ca W sb cf E) {pos : Pos} : ∀ {es : List Expr} {r : IE}, chainB .an E es = some r → PW X (.BoolOp .And es pos) (tT X.K ex ca W (evE sb cf r))
  | [], _, e => by cases e
  | [a], r, e => pw_and1 (h a r e)
  | a :: b :: es, r, e => by
    obtain ⟨p, q, h1, h2, rfl⟩ := o2_ok e
    exact w_an (h _ _ h1) (chainT_an h h2)
theorem chainT_or {E : Expr → Option IE} (h : ST X ex ca W sb cf E) {pos : Pos} : ∀ {es : List Expr} {r : IE}, chainB .orr E es = some r → PW X (.BoolOp .Or es pos) (tT X.K ex ca W (evE sb cf r))
  | [], _, e => by cases e
  | [a], r, e => pw_or1 (h a r e)
  | a :: b :: es, r, e => by
    obtain ⟨p, q, h1, h2, rfl⟩ := o2_ok e
    exact w_or (h _ _ h1) (chainT_or h h2)
end
end Rf
/-! R11: calls of built-ins and of defs. -/
namespace Rf
open PySem PySem.Spec PyProof.Rows L2
section
variable {X : Cx} {c : CE} {ex : ExF} {W : WX} {ca : Nat → Addr} {sb : Sub} {k : Nat} {cf : Nat → List Sl → FR} {a b : Expr} {ra rb : Sls → R Sl} {ia ib : IE} {p pos : Pos}
theorem bltIn (ok : XOk X c ex W ca sb k cf) {x : Str} (h : c.isB x = true) (hn : x ≠ "gcd") : Gl X x ∧ (x == ("__debug__" : Str)) = false ∧ X.mg x = none := by
  obtain ⟨h1, h2, h3⟩ := isB_of ok h
  exact ⟨h1, h2, ok.lk.bl x h3 hn⟩
theorem hotIn {q : Bool} (h : ¬ ((c.hot && q) = true)) (hq : q = true) : c.hot = false := by
  subst hq
  simpa using h
theorem call1_ok (ok : XOk X c ex W ca sb k cf) {x : Str} {f : Blt} (hf : blt1 x = some f) (hB : c.isB x = true) (hh : ¬ ((c.hot && (f == .min || f == .max || f == .sorted || f == .sum || f == .all || f == .any)) = true)) (hs : isStar a = false) (ha : PE X a (tA X.K ex ca W ia ra)) :
    PE X (.Call (.Name x p) [a] [] pos) (tE X.K ex ca W fun σ => (ra σ).bind fun x σ1 => wo ia σ1 x fun p => ofO (b1D f p) σ1) := by
  unfold blt1 at hf
  split at hf
  · rename_i e; subst e; cases hf
    obtain ⟨g1, g2, g3⟩ := bltIn ok hB (by decide)
    exact s_b1 b1_len g1 g3 (by decide +kernel) (by decide) g2 hs ha
  split at hf
  · rename_i e; subst e; cases hf
    obtain ⟨g1, g2, g3⟩ := bltIn ok hB (by decide)
    exact s_b1 b1_abs g1 g3 (by decide +kernel) (by decide) g2 hs ha
  split at hf
  · rename_i e; subst e; cases hf
    obtain ⟨g1, g2, g3⟩ := bltIn ok hB (by decide)
    exact s_b1T b1_int g1 g3 (by decide +kernel) (by decide) g2 hs ha
  split at hf
  · rename_i e; subst e; cases hf
    obtain ⟨g1, g2, g3⟩ := bltIn ok hB (by decide)
    exact s_b1 (b1_sum (ok.cool (hotIn hh rfl)).1) g1 g3 (by decide +kernel) (by decide) g2 hs ha
  split at hf
  · rename_i e; subst e; cases hf
    obtain ⟨g1, g2, g3⟩ := bltIn ok hB (by decide)
    exact s_b1 (b1_all (ok.cool (hotIn hh rfl)).1) g1 g3 (by decide +kernel) (by decide) g2 hs ha
  split at hf
  · rename_i e; subst e; cases hf
    obtain ⟨g1, g2, g3⟩ := bltIn ok hB (by decide)
    exact s_b1 (b1_any (ok.cool (hotIn hh rfl)).1) g1 g3 (by decide +kernel) (by decide) g2 hs ha
  split at hf
  · rename_i e; subst e; cases hf
    obtain ⟨g1, g2, g3⟩ := bltIn ok hB (by decide)
    exact s_b1T b1_tuple g1 g3 (by decide +kernel) (by decide) g2 hs ha
  split at hf
  · rename_i e; subst e; cases hf
    obtain ⟨g1, g2, g3⟩ := bltIn ok hB (by decide)
    exact s_b1T b1_list g1 g3 (by decide +kernel) (by decide) g2 hs ha
  split at hf
  · rename_i e; subst e; cases hf
    obtain ⟨g1, g2, g3⟩ := bltIn ok hB (by decide)
    exact s_b1 (b1_sorted ok.un) g1 g3 (by decide +kernel) (by decide) g2 hs ha
  split at hf
  · rename_i e; subst e; cases hf
    obtain ⟨g1, g2, g3⟩ := bltIn ok hB (by decide)
    exact s_b1 (b1_min (ok.cool (hotIn hh rfl)).1 ok.un) g1 g3 (by decide +kernel) (by decide) g2 hs ha
  split at hf
  · rename_i e; subst e; cases hf
    obtain ⟨g1, g2, g3⟩ := bltIn ok hB (by decide)
    exact s_b1 (b1_max (ok.cool (hotIn hh rfl)).1 ok.un) g1 g3 (by decide +kernel) (by decide) g2 hs ha
  cases hf
theorem call2_ok (ok : XOk X c ex W ca sb k cf) {x : Str} {f : Blt} (hf : blt2 x = some f) (hB : c.isB x = true) (hh : c.hot = false) (hs : isStar a = false) (hs2 : isStar b = false) (ha : PE X a (tA X.K ex ca W ia ra)) (hb : PE X b (tA X.K ex ca W ib rb)) :
    PE X (.Call (.Name x p) [a, b] [] pos) (tE X.K ex ca W fun σ => (ra σ).bind fun x σ1 => (rb σ1).bind fun y σ2 => wo ia σ2 x fun p => wo ib σ2 y fun q => ofO (b2D f p q) σ2) := by
  unfold blt2 at hf
  split at hf
  · rename_i e; subst e; cases hf
    obtain ⟨g1, g2, g3⟩ := bltIn ok hB (by decide)
    exact s_b2 (b2_min (ok.cool hh).1) g1 g3 (by decide +kernel) (by decide) g2 hs hs2 ha hb
  split at hf
  · rename_i e; subst e; cases hf
    obtain ⟨g1, g2, g3⟩ := bltIn ok hB (by decide)
    exact s_b2 (b2_max (ok.cool hh).1) g1 g3 (by decide +kernel) (by decide) g2 hs hs2 ha hb
  cases hf
theorem kitB_in {f : Blt} {T : String} {d : D} {s : Sl} (e : (f = .isInt ∧ T = "int") ∨ (f = .isBool ∧ T = "bool") ∨ (f = .isTuple ∧ T = "tuple") ∨ (f = .isStr ∧ T = "str") ∨ (f = .isList ∧ T = "list")) (h : b1D f d = some s) : ∃ r, s = .im (.bl r) ∧ kitB (tyName d) T = some r := by
  rcases e with ⟨rfl, rfl⟩ | ⟨rfl, rfl⟩ | ⟨rfl, rfl⟩ | ⟨rfl, rfl⟩ | ⟨rfl, rfl⟩ <;> cases d <;> simp only [b1D] at h <;> cases h <;> exact ⟨_, rfl, rfl⟩
theorem callI_ok (ok : XOk X c ex W ca sb k cf) {x t : Str} {pt : Pos} {f : Blt} (hx : x = "isinstance") (hf : bltTy t = some f) (hB : c.isB x = true) (hT : c.isB t = true) (hs : isStar a = false) (ha : PE X a (tA X.K ex ca W ia ra)) :
    PE X (.Call (.Name x p) [a, .Name t pt] [] pos) (tE X.K ex ca W fun σ => (ra σ).bind fun x σ1 => wo ia σ1 x fun p => ofO (b1D f p) σ1) := by
  subst hx
  obtain ⟨g1, g2, g3⟩ := bltIn ok hB (by decide)
  unfold bltTy at hf
  split at hf
  · rename_i e; subst e; cases hf
    obtain ⟨k1, k2, k3⟩ := bltIn ok hT (by decide)
    exact s_isi (fun d s h => kitB_in (T := "int") (.inl ⟨rfl, rfl⟩) h) g1 g3 (by decide +kernel) (by decide) g2 hs k1 k3 (by decide +kernel) (by decide) k2 ha
  split at hf
  · rename_i e; subst e; cases hf
    obtain ⟨k1, k2, k3⟩ := bltIn ok hT (by decide)
    exact s_isi (fun d s h => kitB_in (T := "bool") (.inr (.inl ⟨rfl, rfl⟩)) h) g1 g3 (by decide +kernel) (by decide) g2 hs k1 k3 (by decide +kernel) (by decide) k2 ha
  split at hf
  · rename_i e; subst e; cases hf
    obtain ⟨k1, k2, k3⟩ := bltIn ok hT (by decide)
    exact s_isi (fun d s h => kitB_in (T := "tuple") (.inr (.inr (.inl ⟨rfl, rfl⟩))) h) g1 g3 (by decide +kernel) (by decide) g2 hs k1 k3 (by decide +kernel) (by decide) k2 ha
  split at hf
  · rename_i e; subst e; cases hf
    obtain ⟨k1, k2, k3⟩ := bltIn ok hT (by decide)
    exact s_isi (fun d s h => kitB_in (T := "str") (.inr (.inr (.inr (.inl ⟨rfl, rfl⟩)))) h) g1 g3 (by decide +kernel) (by decide) g2 hs k1 k3 (by decide +kernel) (by decide) k2 ha
  split at hf
  · rename_i e; subst e; cases hf
    obtain ⟨k1, k2, k3⟩ := bltIn ok hT (by decide)
    exact s_isi (fun d s h => kitB_in (T := "list") (.inr (.inr (.inr (.inr (⟨rfl, rfl⟩))))) h) g1 g3 (by decide +kernel) (by decide) g2 hs k1 k3 (by decide +kernel) (by decide) k2 ha
  cases hf
theorem callC_ok (ok : XOk X c ex W ca sb k cf) {E : Expr → Option IE} (hE : SE X ex ca W sb cf E) {f : Str} {e : Expr} {es : List Expr} {r : IE} (h : cCall c E f e es = some r) : PE X (.Call (.Name f p) (e :: es) [] pos) (tE X.K ex ca W (evE sb cf r)) := by
  unfold cCall at h
  split at h
  · rename_i fi np io hfn
    split at h
    · cases h
    · rename_i hc
      simp only [Bool.or_eq_true, not_or, Bool.not_eq_true] at hc
      obtain ⟨⟨hh, hs⟩, hnp⟩ := hc
      obtain ⟨g1, g2, g3⟩ := fn_of' ok hfn
      obtain ⟨fa, fd, ps, F, m1, m2, m3, _⟩ := ok.lk.fn f fi np io g3
      obtain ⟨_, hr, _⟩ := ok.cool hh
      split at h
      · rename_i hio
        subst hio
        split at h
        · rename_i x px
          split at h
          · rename_i j hj
            obtain ⟨t, h1, h2⟩ := Option.map_eq_some_iff.mp h
            subst h2
            obtain ⟨n1, n2, n3, n4⟩ := slot_of ok hj
            obtain ⟨pa, st⟩ := listL_ok hE h1
            exact s_cio F (hr.mono (Nat.le_add_right _ _)) ok.tk g1 m1 m2 m3 g2 n1 n2 n3 n4 (noStar st) pa
          · cases h
        · cases h
      · rename_i hio
        have hio : io = false := by simpa using hio
        subst hio
        obtain ⟨t, h1, h2⟩ := Option.map_eq_some_iff.mp h
        subst h2
        obtain ⟨pa, st⟩ := listL_ok hE h1
        exact s_call F (hr.mono (Nat.le_add_right _ _)) ok.tk g1 m1 m2 m3 g2 hs (noStar fun z hz => st z (List.mem_cons_of_mem _ hz)) pa
  · split at h
    · rename_i hc
      simp only [Bool.and_eq_true, Bool.not_eq_true', Bool.not_eq_eq_eq_not, Bool.not_true] at hc
      obtain ⟨hB, hs⟩ := hc
      split at h
      · split at h
        · rename_i b hb
          split at h
          · cases h
          · rename_i hh
            obtain ⟨t, h1, h2⟩ := Option.map_eq_some_iff.mp h
            subst h2
            exact call1_ok ok hb hB hh hs (opA_ok ok hE h1)
        · cases h
      · rename_i e2
        split at h
        · cases h
        · rename_i hs2
          have hs2 : isStar e2 = false := by simpa using hs2
          unfold cB2 at h
          split at h
          · rename_i hx
            split at h
            · rename_i t pt
              split at h
              · rename_i hT
                split at h
                · rename_i b hb
                  obtain ⟨u, h1, h2⟩ := Option.map_eq_some_iff.mp h
                  subst h2
                  exact callI_ok ok hx hb hB hT hs (opA_ok ok hE h1)
                · cases h
              · split at h
                · rename_i kk x px hk
                  obtain ⟨i, h1, h2⟩ := Option.map_eq_some_iff.mp h
                  subst h2
                  subst hx
                  obtain ⟨g1, g2, g3⟩ := bltIn ok hB (by decide)
                  obtain ⟨n1, n2, n3, n4⟩ := slot_of ok h1
                  obtain ⟨k1, k2, k3⟩ := exc_of ok hk
                  have hlt : kk < c.exs.length := (List.getElem?_eq_some_iff.mp (ixS_get k3)).1
                  exact s_isx n1 n2 n3 n4 (fun a z hz => by
                    obtain ⟨q1, q⟩ := ok.exx a _ hz
                    obtain ⟨oe, q2, q3, q4⟩ := q rfl
                    exact ⟨oe, q2, q3, q4, ok.lk.exc z q1, ok.lk.kit z kk q1 hlt⟩) g1 g3 (by decide +kernel) (by decide) g2 k1 (ok.lk.ex _ kk k3) k2
                · cases h
            · cases h
          · split at h
            · rename_i hx
              subst hx
              obtain ⟨q1, q2, h1, h2, rfl⟩ := o2_ok h
              obtain ⟨g1, g2, g3⟩ := isB_of ok hB
              exact s_b2f b2_gcd g1 (ok.lk.gcd g3) g2 hs hs2 (opA_ok ok hE h1) (opA_ok ok hE h2)
            · split at h
              · rename_i b hb
                split at h
                · cases h
                · rename_i hh
                  obtain ⟨q1, q2, h1, h2, rfl⟩ := o2_ok h
                  exact call2_ok ok hb hB (by simpa using hh) hs hs2 (opA_ok ok hE h1) (opA_ok ok hE h2)
              · cases h
      · cases h
    · cases h
end
end Rf
/-! S5: xs[::-1] of tuples and lists. -/
namespace Rf
open PySem PySem.Spec PyProof.Rows L2
theorem adjust_rev (n : Nat) : Builtin.Slice.sliceAdjust none none (-1) (n : Int) = ((n : Int) - 1, -1) := by
  unfold Builtin.Slice.sliceAdjust
  rfl
theorem places_rev (n : Nat) : Builtin.Slice.slicePlaces ((n : Int) - 1) (-1) (-1) = n := by
  unfold Builtin.Slice.slicePlaces
  have h1 : ¬ ((-1 : Int) > 0) := by omega
  have h2 : - (-1 : Int) = 1 := rfl
  simp only [h1, if_false, h2, Int.ediv_one]
  split <;> omega
theorem pick_rev (xs : Array Value) : ((List.range xs.size).filterMap fun (m : Nat) => xs[(((xs.size : Int) - 1) + (m : Int) * (-1)).toNat]?).toArray = xs.toList.reverse.toArray := by
  congr 1
  have e : ∀ (k : Nat), k ≤ xs.size → (List.range k).filterMap (fun (m : Nat) => xs[(((xs.size : Int) - 1) + (m : Int) * (-1)).toNat]?) = xs.toList.reverse.take k := by
    intro k
    induction k with
    | zero => intro _; rfl
    | succ k ih =>
      intro hk
      rw [List.range_succ, List.filterMap_append, ih (by omega)]
      have e1 : (((xs.size : Int) - 1) + (k : Int) * (-1)).toNat = xs.size - 1 - k := by omega
      have hlt : xs.size - 1 - k < xs.size := by omega
      have e2 : xs[xs.size - 1 - k]? = some (xs[xs.size - 1 - k]'hlt) := Array.getElem?_eq_getElem hlt
      simp only [List.filterMap_cons, e1, e2, List.filterMap_nil]
      have hk' : k < xs.toList.reverse.length := by simp; omega
      rw [List.take_succ, List.getElem?_eq_getElem hk']
      congr 1
      simp [List.getElem_reverse]
  rw [e _ (Nat.le_refl _), List.take_of_length_le (by simp)]
section
variable {prog : Program} {w : World} {A : Around} {E : Value → Shared → Prop} {s : Shared}
theorem applied_rev {sl : Addr} {vl vu vs : Value} {n : Nat} {Q : Int × Int × Nat → Shared → Prop} (hs : s.heap.IsSliceOf sl vl vu vs) (pl : IsPart vl none) (pu : IsPart vu none) (ps : IsPart vs (some (-1)))
    (h : Q (((n : Int) - 1), -1, n) s) : wpAny (model prog w) A (Builtin.Slice.sliceApplied (.ref sl) (pure (n : Int))) Q E s := by
  obtain ⟨os, hos, hcs, hds⟩ := id hs
  unfold Builtin.Slice.sliceApplied Builtin.Slice.sliceFields
  refine wpAny_bind (wpAny_bind (wpAny_field hos hds (x := vl) rfl (wpAny_bind (wpAny_field hos hds (x := vu) rfl (wpAny_bind (wpAny_field hos hds (x := vs) rfl (wpAny_pure ?_)))))))
  refine wpAny_bind (HT.slicePart_ ps ?_)
  show wpAny _ _ (if ((-1 : Int) == 0) = true then _ else _) _ _ s
  rw [if_neg (by decide)]
  refine wpAny_bind (HT.slicePart_ pl (wpAny_bind (HT.slicePart_ pu (wpAny_bind (wpAny_pure ?_)))))
  show wpAny _ _ (match Builtin.Slice.sliceAdjust none none (-1) (n : Int) with | (lo, hi) => pure (lo, (-1 : Int), Builtin.Slice.slicePlaces lo hi (-1))) _ _ s
  rw [adjust_rev n]
  show wpAny _ _ (pure (((n : Int) - 1), (-1 : Int), Builtin.Slice.slicePlaces ((n : Int) - 1) (-1) (-1))) _ _ s
  rw [places_rev]
  exact wpAny_pure h
theorem getItem_tuple_rev {t sl : Addr} {items : Array Value} {vl vu vs : Value} {Q : Value → Shared → Prop} (ht : IsTup s.heap t items) (hs : s.heap.IsSliceOf sl vl vu vs) (pl : IsPart vl none) (pu : IsPart vu none) (ps : IsPart vs (some (-1)))
    (h : Q (.ref s.heap.objs.size) { s with heap := s.heap.push { cls := .type "tuple", data := .seq items.toList.reverse.toArray } })
    (hsz : items.size ≤ sizeLine) : wpAny (model prog w) A (getItem (.ref t) (.ref sl)) Q E s := by
  have htake : sizeOk (.seq items.toList.reverse.toArray) := by
    show items.toList.reverse.toArray.size ≤ sizeLine
    simpa using hsz
  obtain ⟨os, hos, hcs, hds⟩ := id hs
  have hTs : s.TypeIs (.ref sl) "slice" := ⟨os, hos, hcs⟩
  unfold getItem
  try with_reducible refine wpAny_holding ?_
  first | refine wpAny_bind (wpAny_pure ?_) | skip
  refine wpAny_bind (wpAny_sequenceKey ht.typeIs (by decide) ?_)
  refine wpAny_bind (wpAny_callSpecial?_slot (name := Str.ofString "__getitem__") ht.typeIs PyProof.Rows.slot_tuple_getitem
    (wpAny_call_entry PyProof.Rows.slot_tuple_getitem ht.typeIs PyProof.Rows.entry_tuple_getitem ?_ (PyProof.Rows.args_tuple_getitem _ _)))
  show wpAny _ _ (Builtin.Tuple.tupleItemsOf (.ref t) >>= _) _ _ s
  refine wpAny_bind (tupleItemsOf_ ht ?_)
  refine wpAny_bind (wpAny_typeOf hTs ?_)
  rw [if_pos (by decide)]
  refine wpAny_bind (applied_rev (n := items.size) hs pl pu ps ?_)
  have hno : ¬ (((((items.size : Int) - 1)) == 0 && (-1 : Int) == 1 && items.size == items.size) = true) := by simp
  show wpAny _ _ (if ((((items.size : Int) - 1)) == 0 && (-1 : Int) == 1 && items.size == items.size) = true then _ else _) _ _ s
  rw [if_neg hno, pick_rev]
  first
    | exact wpAny_bind (m := Builtin.Tuple.tupleExact _) (wpAny_newObj_type (wpAny_pure ⟨_, rfl, wpAny_pure h⟩) htake)
    | exact wpAny_bind (m := Builtin.Tuple.tupleExact _) (wpAny_newObj_type (wpAny_bind (wpAny_pure (wpAny_pure ⟨_, rfl, wpAny_pure h⟩))) htake)
    | exact wpAny_bind (wpAny_bind (m := Builtin.Tuple.tupleExact _) (wpAny_newObj_type (wpAny_pure (wpAny_pure ⟨_, rfl, wpAny_pure h⟩)) htake))
    | exact wpAny_bind (wpAny_bind (m := Builtin.Tuple.tupleExact _) (wpAny_newObj_type (wpAny_pure ⟨_, rfl, wpAny_pure h⟩) htake))
end
section
variable {X : Cx} {e : Expr} {te : TE} {k : Nat} {p1 p2 p3 pos : Pos}
def tRevA (K : PySem.W.Frag) (te : TE) : TE := fun σ H Q => te σ H fun x H1 => ∃ a xs, x = .ref a ∧ ((SqL K H1 a xs ∧ ∀ p, H1 p = none → Q (.ref p) (upd H1 p (.lst xs.reverse))) ∨ (SqT K H1 a xs ∧ ∀ p, H1 p = none → Q (.ref p) (upd H1 p (.tup xs.reverse))))
theorem pe_revA (he : PE X e te) : PE X (.Subscript e (.Slice none none (some (.UnaryOp .USub (.Constant (.int 1) k p1) p2)) p3) pos) (tRevA X.K te) := by
  refine ⟨fun pins s σ H Q I h => ?_⟩
  refine Subscript_ (thn (he.run pins s σ H _ I h) fun v s1 ⟨x, H1, I1, r1, q1⟩ => ?_)
  obtain ⟨a, xs, ex, q⟩ := q1
  subst ex
  cases r1
  have hst : PO X (some (.UnaryOp .USub (.Constant (.int 1) k p1) p2)) (tPart (tUn (rU fun i => .int (-i)) (tC (.int 1)))) := po_some (pe_un un_neg pe_int)
  refine wpAny_Slice (thn (po_none.run pins s1 σ H1 (fun o H2 => o = none ∧ H2 = H1) I1 ⟨rfl, rfl⟩) fun vl s2 ⟨l, H2, I2, pl, el, e2⟩ => ?_)
  subst el e2
  refine thn (po_none.run pins s2 σ H2 (fun o H3 => o = none ∧ H3 = H2) I2 ⟨rfl, rfl⟩) fun vu s3 ⟨u, H3, I3, pu, eu, e3⟩ => ?_
  subst eu e3
  refine thn (hst.run pins s3 σ H3 (fun o H4 => o = some (-1) ∧ H4 = H3) I3 ⟨1, rfl, -1, rfl, rfl, rfl⟩) fun vs s4 ⟨o, H4, I4, ps, eo, e4⟩ => ?_
  subst eo e4
  have I5 : Inv X pins σ H4 { s4 with heap := s4.heap.push { cls := .type "slice", data := .fields #[vl, vu, vs] } } := I4.kept (t' := s4.toks) fun b ob q => Heap.get?_push_of_some _ q
  show wpAny (model X.prog X.w) X.A (subscriptTail e (.Slice none none (some (.UnaryOp .USub (.Constant (.int 1) k p1) p2)) p3) (.ref a) (.ref s4.heap.objs.size)) (EP X pins σ Q) X.xe { s4 with heap := s4.heap.push { cls := .type "slice", data := .fields #[vl, vu, vs] } }
  rcases q with ⟨hx, q⟩ | ⟨hx, q⟩
  · obtain ⟨its, r, ht, hz⟩ := I5.list hx
    have hlen := r.length
    refine tail_any (ops := [.ref a, .ref s4.heap.objs.size]) ht.isList.typeIs (PySem.slot_list_getitem.lookup) ?_ (by with_unfolding_all rfl)
    refine wpAny_getItem_list_slice ht.isList (Heap.IsSliceOf.new _ vl vu vs) pl pu ps (by decide) ?_ (by rw [List.size_toArray]; omega)
    rw [PySem.W.krv_pick]
    refine ⟨.ref _, _, I5.laid (t' := s4.toks) (o := .lst xs.reverse) (fun b ob q => Heap.get?_push_of_some _ q) (Nat.le_refl _) ?_, rfl, q _ (I5.hok.fresh (Nat.le_refl _))⟩
    exact ⟨by rw [List.length_reverse]; exact hz, _, 0, r.reverse, Heap.get?_push_size _ rfl⟩
  · obtain ⟨its, r, ht, hz⟩ := I5.tuple hx
    have hlen := r.length
    refine tail_any (ops := [.ref a, .ref s4.heap.objs.size]) ht.typeIs (PyProof.Rows.slot_tuple_getitem.lookup) ?_ (by with_unfolding_all rfl)
    refine getItem_tuple_rev ht (Heap.IsSliceOf.new _ vl vu vs) pl pu ps ?_ (by rw [List.size_toArray]; omega)
    refine ⟨.ref _, _, I5.laid (t' := s4.toks) (o := .tup xs.reverse) (fun b ob q => Heap.get?_push_of_some _ q) (Nat.le_refl _) ?_, rfl, q _ (I5.hok.fresh (Nat.le_refl _))⟩
    exact ⟨by rw [List.length_reverse]; exact hz, _, r.reverse, IsTup.new _ _⟩
end
end Rf
/-! S6: enumerate(tuple). -/
namespace PySem
open Sem (wp)
open AutoSeq1 (wpAny_loadPart')
theorem rf_meets_enum1 {v : Value} {o : Obj} {H : Heap → Prop} (B : Begins v o H) :
    Meets (Builtin.«enumerate.__new__» ⟨[.type "enumerate", v], []⟩) (fun _ R s => H s.heap ∧
      R (.ok (.ret (.ref (s.heap.push o).objs.size))) { s with heap := (s.heap.push o).push { cls := .type "enumerate", data := .fields #[.none, .bool false, .ref s.heap.objs.size, rawInt 0, .none, .none] } }) :=
  .of_wp fun prog w A R s h => by
    obtain ⟨hp, g, d, tk, os⟩ := s; obtain ⟨h1, h⟩ := h
    have hsub := sub_enumerate
    have q1 : ∀ {A' : Around} {E : Value → Shared → Prop} {Q : Value → Shared → Prop}, Q (.ref hp.objs.size) ⟨hp.push o, g, d, tk, os⟩ → wpAny (model prog w) A' (pyIter v) Q E ⟨hp, g, d, tk, os⟩ :=
      fun q => B.iter prog w _ _ ⟨hp, g, d, tk, os⟩ _ h1 q
    wp_walk using q1
    refine wpAny_stack_any fun st => wpAny_pure ?_
    split
    · rename_i c _ _ _ _ _
      cases (c == Value.type "enumerate")
      · wp_walk using q1
        exact ⟨_, rfl, h⟩
      · wp_walk using q1
        exact ⟨_, rfl, h⟩
    · wp_walk using q1
      exact ⟨_, rfl, h⟩
section
variable {prog : Program} {w : World} {A : Around} {E : Value → Shared → Prop} {s : Shared}
theorem rf_call_enum1 {v : Value} {o : Obj} {H : Heap → Prop} {Q : Value → Shared → Prop} (B : Begins v o H) (h1 : H s.heap)
    (h : ∀ h', IsEnum h' (s.heap.objs.size + 1) s.heap.objs.size 0 .none → h'.get? s.heap.objs.size = some o → h'.objs.size = s.heap.objs.size + 2 →
      (∀ b o, s.heap.get? b = some o → h'.get? b = some o) → Q (.ref (s.heap.objs.size + 1)) { s with heap := h' }) :
    wpAny (model prog w) A (call (.type "enumerate") [v]) Q E s := by
  refine callType_new F.called_enumerate (by decide) (F.typeCall_enumerate_1 _) (F.newCall_enumerate_1 _) (fun obj => F.args_object_init_2 obj _) F.entry_enumerate_new
    (rf_meets_enum1 B) ⟨h1, ?_⟩
  have hz : (s.heap.push o).objs.size = s.heap.objs.size + 1 := Heap.size_push ..
  show _ ∧ _
  rw [hz]
  have he : IsEnum ((s.heap.push o).push { cls := .type "enumerate", data := .fields #[.none, .bool false, .ref s.heap.objs.size, rawInt 0, .none, .none] }) (s.heap.objs.size + 1) s.heap.objs.size 0 .none := by
    have := Heap.get?_push_size (s.heap.push o) (o := { cls := .type "enumerate", data := .fields #[.none, .bool false, .ref s.heap.objs.size, rawInt 0, .none, .none] }) rfl
    rw [hz] at this; exact this
  refine ⟨⟨_, he, rfl⟩, h _ he (Heap.get?_push_of_some _ (Heap.get?_push_size _ B.free)) (by rw [Heap.size_push, hz]) fun b o x => Heap.get?_push_of_some _ (Heap.get?_push_of_some _ x)⟩
theorem rf_next_enum_end {e it t : Addr} {j : Nat} {items : Array Value} {i : Int} {old : Value} {Q : Option Value → Shared → Prop} (hh : A.handled = none) (he : IsEnum s.heap e it i old) (hit : s.heap.IsTupleIter it t j) (ht : s.heap.IsTuple t items) (hx : items[j]? = none)
    (hQ : ∀ h', Heap.ExtBut it s.heap h' → Q none { s with heap := h' }) : wpAny (model prog w) A (pyNext (.ref e)) Q E s := by
  have hT : s.TypeIs (.ref e) "enumerate" := ⟨_, he, rfl⟩
  unfold pyNext
  refine wpAny_bind (wpAny_attempt (wpAny_callSpecial?_slot (name := Str.ofString "__next__") hT F.slot_enumerate_next
    (wpAny_call_entry F.slot_enumerate_next hT F.entry_enumerate_next ?_ (F.args_enumerate_next_1 _))))
  show wpAny _ _ (field (.ref e) 2 >>= _) _ _ _
  refine wpAny_bind (wpAny_field he rfl (x := .ref it) rfl ?_)
  refine wpAny_bind (wpAny_nextOf_tuple_end (A := A.in1) (show A.in1.handled = none from hh) hit ht hx fun h' x he' hx' => ?_)
  obtain ⟨o, ho, hc⟩ := hx'
  refine wpAny_bind (wpAny_isInstance (T := "StopIteration") (b := true) ⟨o, ho, hc⟩ isSubtype_stop ?_)
  exact wpAny_pure (hQ _ he')
end
end PySem
namespace Rf
open PySem PySem.Spec PyProof.Rows L2
def IteT (K : PySem.W.Frag) (a : Addr) : It :=
  ⟨fun i H => ∃ (xs : List V) (x : V), SqT K H a xs ∧ xs[i]? = some x, fun i H v H' => ∃ T x, v = .ref T ∧ H T = none ∧ H' = upd H T (.tup [.int (i : Nat), x]) ∧ ∀ xs, SqT K H a xs → xs[i]? = some x, fun i H => ∃ xs : List V, SqT K H a xs ∧ xs.length ≤ i⟩
theorem turn_enumT {P : Program} {w : World} {K : PySem.W.Frag} {elts : List Expr} {kk : Nat} {tpos : Pos} (a e it : Addr) (hai : a ≠ it) :
    Turn P w K (.Tuple elts kk tpos) (IteT K a) [e, it] e (fun i h => (∃ old, IsEnum h e it ((i : Nat) : Int) old) ∧ h.IsTupleIter it a i ∧ e ≠ it) where
  mem := by simp
  obj := fun i h st b hb => by
    obtain ⟨⟨old, he⟩, ⟨o, ho, hc, hd⟩, _⟩ := st
    have e' : b = e ∨ b = it := by simpa using hb
    rcases e' with z | z
    · rw [z]; exact ⟨_, he, fun v q => nomatch q⟩
    · rw [z]; exact ⟨o, ho, fun v q => by rw [hd] at q; cases q⟩
  keep := fun i h h' st k => let ⟨⟨old, he⟩, hi, hne⟩ := st; ⟨⟨old, k e (by simp) _ he⟩, hi.at fun o q => k it (by simp) o q, hne⟩
  item := by
    intro X hP hw hK hc i pins s σ H E I hf st hg
    subst hP hw hK
    obtain ⟨⟨old, he⟩, hit, hne⟩ := st
    obtain ⟨xs, x, hq, hx⟩ := hg
    obtain ⟨its, rv, p, hz⟩ := I.tuple hq
    obtain ⟨u, hu, ru⟩ := rv.get hx
    have hel : e < s.heap.objs.size := Heap.lt_size he
    have hil : it < s.heap.objs.size := by obtain ⟨_, q, _⟩ := hit; exact Heap.lt_size q
    have hea : e ≠ a := fun z => by
      obtain ⟨o, ho, hc, _⟩ := p
      rw [← z] at ho
      have he' : s.heap.get? e = some _ := he
      rw [he'] at ho
      cases ho
      have hc : Value.type "enumerate" = .type "tuple" := hc
      exact absurd hc (by decide)
    refine wpAny_pyNext_enum_itemD (Draws.tuple (A := X.A.in1) (show X.A.in1.handled = none from I.ok.hd hc) it a hai its.toArray) he ⟨hit, show s.heap.IsTuple a its.toArray from p⟩ (by rw [List.size_toArray]; exact (List.getElem?_eq_some_iff.mp hu).1) hne (by simp [hne, hea]) fun x' h' tk hx' ho hst hT hsz hk => ?_
    have hx' : its.toArray[i]? = some x' := hx'
    have ex : x' = u := by
      rw [List.getElem?_toArray, hu] at hx'
      exact (Option.some.inj hx').symm
    subst ex
    obtain ⟨hit', _⟩ := hst
    refine ⟨_, rfl, wpAny_letOwnedTupleGo_enum (s := { s with heap := h', toks := tk + 1 }) ho fun h'' he' sb => ?_⟩
    have hT2 : h''.get? s.heap.objs.size = some { cls := .type "tuple", data := .seq #[.int i tk, x'] } := (sb.2 _ (Nat.ne_of_gt hel)).trans hT
    have new : ObjOk X.prog X.w (upd H s.heap.objs.size (.tup [.int (i : Nat), x])) h'' s.heap.objs.size (.tup [.int (i : Nat), x]) :=
      ⟨by show 2 ≤ sizeLine; decide, [.int i tk, x'], .cons ⟨_, rfl⟩ (.cons ru .nil), ⟨_, hT2, rfl, _, rfl⟩⟩
    have I1 : Inv X pins σ (upd H s.heap.objs.size (.tup [.int (i : Nat), x])) { s with heap := h'', toks := tk + 1 } :=
      I.turnedNew (ch := [e, it]) (fun b ob hb q => (sb.2 b (fun z => hb (by simp [z]))).trans (hk b ob (fun z => hb (by simp [z])) (fun z => hb (by simp [z])) q)) hf (Nat.le_refl _) new
    refine ⟨.ref s.heap.objs.size, _, I1, rfl, ⟨_, x, rfl, I.hok.fresh (Nat.le_refl _), rfl, fun ys hy => by rw [I.tuple_inj hy hq]; exact hx⟩, ⟨⟨x', ?_⟩, hit'.at fun o q => (sb.2 it (Ne.symm hne)).trans q, hne⟩, fun b hb => ?_⟩
    · have e1 : ((i + 1 : Nat) : Int) = (i : Int) + 1 := by omega
      rw [e1]; exact he'
    · have hb' : b < s.heap.objs.size := by
        have e' : b = e ∨ b = it := by simpa using hb
        rcases e' with z | z
        · rw [z]; exact hel
        · rw [z]; exact hil
      rw [upd_ne (Nat.ne_of_lt hb')]
      exact (hf b hb).1
  done := by
    intro X hP hw hK hc i pins s σ H E I hf st hg
    subst hP hw hK
    obtain ⟨⟨old, he⟩, hit, hne⟩ := st
    obtain ⟨xs, hq, hx⟩ := hg
    obtain ⟨its, rv, p, hz⟩ := I.tuple hq
    obtain ⟨f0, f1, f2, f3, f4, f5⟩ := hf it (by simp)
    have hl := rv.length
    exact rf_next_enum_end (I.ok.hd hc) he hit (show s.heap.IsTuple a its.toArray from p) (by simp; omega) fun h' eb => ⟨rfl, I.turned (t' := s.toks) (fun b o hb q => eb b o hb q) f0 f1 f3 f4 f5⟩
  self := fun A i s Q E st h => let ⟨⟨_, he⟩, _⟩ := st; wpAny_pyIter_enum he h
def iEnumT (K : PySem.W.Frag) (ta : TA) : TI := fun σ H R => ta σ H fun vs H1 => ∃ a xs, vs = [.ref a] ∧ SqT K H1 a xs ∧ R (IteT K a) H1
theorem pi_enumT {X : Cx} {e : Expr} {ta : TA} {p pos tpos : Pos} {elts : List Expr} {kk : Nat} (hg : Gl X "enumerate") (hm : X.mg "enumerate" = none) (ha : PA X [e] ta) (hs : starEach [e] X.env = [(false, eval e X.env)] := by rfl) :
    PI X (.Tuple elts kk tpos) (.Call (.Name "enumerate" p) [e] [] pos) (iEnumT X.K ta) := by
  refine ⟨fun pins s σ H R I h => ?_⟩
  refine Call_ (ld_blt I hg hm boot_enumerate (PyProof.Rows.callWith_type1 (thn (ha.run pos pins s σ H _ I h) fun us s1 ⟨vs, H1, I1, r1, q1⟩ => ?_) hs rfl))
  obtain ⟨a, xs, ex, hq, q⟩ := q1
  subst ex
  cases r1 with
  | cons r rr =>
    cases rr
    cases r
    obtain ⟨its, rv, p', hz⟩ := I1.tuple hq
    have hlt : a < s1.heap.objs.size := by obtain ⟨o, ho, _⟩ := p'; exact Heap.lt_size ho
    refine rf_call_enum1 (begins_tuple a its.toArray) (show s1.heap.IsTuple a its.toArray from p') fun h' he hit hsz hk => wpAny_pyIter_enum he ?_
    have I2 : Inv X pins σ H1 { s1 with heap := h' } := I1.kept (t' := s1.toks) hk
    refine ⟨s1.heap.objs.size + 1, [s1.heap.objs.size + 1, s1.heap.objs.size], _, _, H1, rfl, I2, turn_enumT a (s1.heap.objs.size + 1) s1.heap.objs.size (Nat.ne_of_lt hlt), ⟨⟨.none, he⟩, ⟨_, hit, rfl, rfl⟩, Nat.succ_ne_self _⟩, fun b hb => ?_, q⟩
    have e' : b = s1.heap.objs.size + 1 ∨ b = s1.heap.objs.size := by simpa using hb
    have hle : s1.heap.objs.size ≤ b := by
      rcases e' with z | z
      · rw [z]; exact Nat.le_add_right _ _
      · rw [z]; exact Nat.le_refl _
    exact I1.fpOk hle (I1.hok.fresh hle)
end Rf
/-! R11b: xs[::-1], loops by enumerate, defs that get a lambda. -/
namespace Rf
open PySem PySem.Spec PyProof.Rows L2
section
variable {X : Cx} {ex : ExF} {ca : Nat → Addr} {W : WX} {sb : Sub} {a : Expr} {ra : Sls → R Sl} {ia : IE} {pos : Pos}
theorem FzL.rev {K : PySem.W.Frag} {H : Hp} : ∀ {ds : List D} {xs : List V}, FzL K H ds xs → FzL K H ds.reverse xs.reverse
  | [], _, h => by rw [h]; exact rfl
  | d :: ds, _, h => by
    obtain ⟨x, r, e, hx, hr⟩ := h
    subst e
    rw [List.reverse_cons, List.reverse_cons]
    exact (FzL.rev hr).append (FzL.one hx)
theorem s_rev {k : Nat} {p1 p2 p3 : Pos} (ha : PE X a (tA X.K ex ca W ia ra)) : PE X (.Subscript a (.Slice none none (some (.UnaryOp .USub (.Constant (.int 1) k p1) p2)) p3) pos) (tE X.K ex ca W fun σ => (ra σ).bind fun x σ1 => wo ia σ1 x fun p => ofO (revD p) σ1) := by
  refine (pe_revA ha).weak fun σ H Q ⟨σd, rs, q⟩ => ⟨σd, rs, (Res.bind q).imp fun x σ1 q1 v H1 n1 v1 => ?_⟩
  obtain ⟨p, sp, q2⟩ := v1.see n1.rs q1
  obtain ⟨s, e, q3⟩ := q2.ofO
  cases p with
  | tup ds =>
    cases e
    obtain ⟨b, xs, rfl, s1, f⟩ := sp
    refine ⟨b, xs, rfl, .inr ⟨s1, fun p hp => ?_⟩⟩
    have r : ResR X.K H1 (.im (.tup ds.reverse)) (.ref p) (upd H1 p (.tup xs.reverse)) := ⟨same_new hp, p, xs.reverse, rfl, .inl (.inl upd_same), Keep.fzL (Keep.same (same_new hp)) _ _ f.rev⟩
    exact q3 _ _ (n1.trans (r.nx n1.rs)) (r.val n1)
  | lst ds =>
    cases e
    obtain ⟨b, xs, rfl, s1, f⟩ := sp
    refine ⟨b, xs, rfl, .inl ⟨.inl s1, fun p hp => ?_⟩⟩
    have r : ResR X.K H1 (.mu ds.reverse) (.ref p) (upd H1 p (.lst xs.reverse)) := ⟨same_new hp, p, xs.reverse, rfl, hp, upd_same, Keep.fzL (Keep.same (same_new hp)) _ _ f.rev⟩
    exact q3 _ _ (n1.trans (r.nx n1.rs)) (r.val n1)
  | _ => cases e
/-! ### enumerate -/
theorem enmL_get : ∀ (ds : List D) (n i : Nat) (d : D), ds[i]? = some d → (enmL n ds)[i]? = some (.tup [.int ((n + i : Nat) : Int), d])
  | [], n, i, d, h => by simp at h
  | x :: ds, n, 0, d, h => by
    have e : x = d := by simpa using h
    subst e
    rfl
  | x :: ds, n, i + 1, d, h => by
    have e : ds[i]? = some d := by simpa using h
    have z := enmL_get ds (n + 1) i d e
    rw [show n + 1 + i = n + (i + 1) by omega] at z
    exact z
theorem enmL_len : ∀ (ds : List D) (n : Nat), (enmL n ds).length = ds.length
  | [], _ => rfl
  | _ :: ds, n => by show (enmL (n + 1) ds).length + 1 = _; rw [enmL_len ds]; rfl
theorem it_enmL {K : PySem.W.Frag} {H : Hp} {a : Addr} {xs : List V} {ds : List D} (s : FrL H a xs) (f : FzL K H ds xs) : ItD K (Ite K a) (enmL 0 ds) H where
  go := fun H' i k hi => by
    rw [enmL_len] at hi
    obtain ⟨d, hd⟩ : ∃ d, ds[i]? = some d := ⟨_, List.getElem?_eq_getElem hi⟩
    obtain ⟨x, hx, _⟩ := f.get hd
    exact ⟨xs, x, .inl (k.frL s).rd, hx⟩
  yld := fun H' i v H'' k y hi => by
    rw [enmL_len] at hi
    obtain ⟨T, x, rfl, hT, rfl, y⟩ := y
    obtain ⟨d, hd⟩ : ∃ d, ds[i]? = some d := ⟨_, List.getElem?_eq_getElem hi⟩
    obtain ⟨z, hz, fz⟩ := f.get hd
    have e := y xs (.inl (k.frL s).rd)
    rw [hz] at e; cases e
    refine ⟨same_new hT, _, enmL_get ds 0 i d hd, T, _, rfl, .inl (.inl upd_same), _, _, rfl, ?_, _, _, rfl, Keep.fz (Keep.same (same_new hT)) _ _ (k.fz d _ fz), rfl⟩
    show V.int _ = V.int _
    rw [Nat.zero_add]
  stop := fun H' k => ⟨xs, .inl (k.frL s).rd, by rw [enmL_len, f.length]; exact Nat.le_refl _⟩
theorem it_enmT {K : PySem.W.Frag} {H : Hp} {a : Addr} {xs : List V} {ds : List D} (s : SqT K H a xs) (f : FzL K H ds xs) : ItD K (IteT K a) (enmL 0 ds) H where
  go := fun H' i k hi => by
    rw [enmL_len] at hi
    obtain ⟨d, hd⟩ : ∃ d, ds[i]? = some d := ⟨_, List.getElem?_eq_getElem hi⟩
    obtain ⟨x, hx, _⟩ := f.get hd
    exact ⟨xs, x, k.sqT s, hx⟩
  yld := fun H' i v H'' k y hi => by
    rw [enmL_len] at hi
    obtain ⟨T, x, rfl, hT, rfl, y⟩ := y
    obtain ⟨d, hd⟩ : ∃ d, ds[i]? = some d := ⟨_, List.getElem?_eq_getElem hi⟩
    obtain ⟨z, hz, fz⟩ := f.get hd
    have e := y xs (k.sqT s)
    rw [hz] at e; cases e
    refine ⟨same_new hT, _, enmL_get ds 0 i d hd, T, _, rfl, .inl (.inl upd_same), _, _, rfl, ?_, _, _, rfl, Keep.fz (Keep.same (same_new hT)) _ _ (k.fz d _ fz), rfl⟩
    show V.int _ = V.int _
    rw [Nat.zero_add]
  stop := fun H' k => ⟨xs, k.sqT s, by rw [enmL_len, f.length]; exact Nat.le_refl _⟩
theorem i_enm {elts : List Expr} {kk : Nat} {tpos p : Pos} (hg : Gl X "enumerate") (hm : X.mg "enumerate" = none) (hs : isStar a = false) (h : PE X a (tE X.K ex ca W ra)) :
    PI X (.Tuple elts kk tpos) (.Call (.Name "enumerate" p) [a] [] pos) (tI X.K ex ca W fun σ => (ra σ).bind fun x σ1 => wd x fun p => (match p.its? with
    | some ds => .ok (.mu (enmL 0 ds)) σ1
    | none => .bad)) := by
  refine ((pi_enum hg hm (pa_cons (pe_frz h) pa_nil (star1 hs)) (by rw [star1 hs]; rfl)).or (pi_enumT hg hm (pa_cons h pa_nil (star1 hs)) (by rw [star1 hs]; rfl))).weak fun σ H Q ⟨σd, rs, q⟩ => ?_
  have q1 := q.bind.bind
  cases e : ra σd with
  | bad => rw [e] at q1; exact q1.elim
  | exc x σ1 =>
    rw [e] at q1
    exact .inl ⟨σd, rs, by rw [e]; exact q1⟩
  | ok s σ1 =>
    rw [e] at q1
    cases s with
    | un => exact q1.elim
    | exn x => exact q1.elim
    | clo x => exact q1.elim
    | mu ds =>
      have q2 : ∀ J H', Nx X.K ex σd σ H σ1 σ H' → ItD X.K J (enmL 0 ds) H' → Q J H' := q1
      refine .inl ⟨σd, rs, by
        rw [e]
        intro v H1 n1 v1
        obtain ⟨b, xs, e1, h1, f, no, p⟩ := v1
        subst e1
        refine .inr ⟨b, xs, h1, fun o => ⟨b, xs, rfl, .inl (.inr ⟨o, upd_same⟩), q2 _ _ (n1.frz h1 no p o) ?_⟩⟩
        have z := fz_frz h1 f o
        obtain ⟨b', xs', e2, s2, f2⟩ := z
        cases e2
        exact it_enmL s2 f2⟩
    | im d => cases d with
      | tup ds =>
        have q2 : ∀ J H', Nx X.K ex σd σ H σ1 σ H' → ItD X.K J (enmL 0 ds) H' → Q J H' := q1
        refine .inr ⟨σd, rs, by
          rw [e]
          intro v H1 n1 v1
          obtain ⟨b, xs, e1, s1, f⟩ := v1
          exact ⟨b, xs, by rw [e1], s1, q2 _ _ n1 (it_enmT s1 f)⟩⟩
      | lst ds =>
        have q2 : ∀ J H', Nx X.K ex σd σ H σ1 σ H' → ItD X.K J (enmL 0 ds) H' → Q J H' := q1
        refine .inl ⟨σd, rs, by
          rw [e]
          intro v H1 n1 v1
          obtain ⟨b, xs, e1, s1, f⟩ := v1
          exact .inl ⟨b, xs, by rw [e1], .inl s1.rd, q2 _ _ n1 (it_enmL s1 f)⟩⟩
      | _ => exact q1.elim
/-! ### defs that get a lambda -/
theorem visB_of' {sc : Scope} {x : Str} (h : visB sc x = true) : L2.Vis sc x := by
  unfold visB at h
  split at h
  · rename_i e; exact .inl e
  · rename_i e; exact .inr (.inl e)
  · rename_i e; exact .inr (.inr e)
  · cases h
theorem mask_get {caps : List Nat} {σ : Sls} {i : Nat} {s : Sl} (h : (maskS caps σ)[i]? = some s) : s = .un ∨ ∃ d, s = .im d ∧ σ[i]? = some (.im d) := by
  unfold maskS at h
  rw [List.getElem?_mapIdx] at h
  obtain ⟨t, h1, h2⟩ := Option.map_eq_some_iff.mp h
  cases t with
  | im d =>
    dsimp only at h2
    split at h2
    · exact .inr ⟨d, h2.symm, h1⟩
    · exact .inl h2.symm
  | _ => exact .inl h2.symm
theorem mask_len {caps : List Nat} {σ : Sls} : (maskS caps σ).length = σ.length := by simp [maskS]
theorem mask_own {caps : List Nat} {σ : Sls} {σc : L2.St} {b : Addr} (h : Own (maskS caps σ) σc b) : False := by
  obtain ⟨i, ds, h1, _⟩ := h
  rcases mask_get h1 with e | ⟨d, e, _⟩ <;> cases e
theorem lam_ok {c : CE} {k : Nat} {cf : Nat → List Sl → FR} (ok : XOk X c ex W ca sb k cf) (hh : c.hot = false) {scope : Scope} (hsc : X.env.scope = c.sc) (L : LamX.LamS X.env.scope scope) (A : Around) (outer : List Env) (s : Shared) (H : Hp) (E : XK) (f c' : Addr)
    (hr : Room k (A.deeper (LamX.lamEnv X scope s.heap.objs.size f c'))) : XOk (LamX.lamCx X A outer s H E scope f c') { c with sc := scope, clo := none, lam := false } (ExF.of ex.T) (fun cls d _ H => E cls d H) ca sb k cf where
  vis := fun x h => visB_of' h
  loc := fun x h => by
    have h : locB scope x = true := h
    unfold locB at h
    split at h
    · rename_i e; exact absurd rfl (L.own _ (PySem.mem_of_lookup e)).1
    · rename_i e; exact absurd rfl (L.own _ (PySem.mem_of_lookup e)).2
    · cases h
  loc1 := fun x h => h
  loc2 := fun x h => h
  gl := fun x h => by
    have h : glB scope x = true := h
    unfold glB at h
    show scope.names.lookup x = _
    split at h
    · rename_i e; exact e
    · cases h
  fre := fun x h => h
  N := ok.N
  nd := ok.nd
  cool := fun _ => ⟨rfl, hr, fun _ _ z => z⟩
  un := by have := hr.un; have := ok.k8; show (A.deeper _).units + 300 < _; omega
  k8 := ok.k8
  exx := fun _ _ z => z.elim
  tk := L2.takes_of rfl rfl rfl rfl
  clk := fun _ _ z => nomatch z
  xcd := fun z => Bool.noConfusion (hh.symm.trans z)
  lam := fun z => nomatch z
  lk := ok.lk
theorem noArgs_def {a : Arguments} (h : noArgs a = true) : a = { posonlyargs := [], args := [], vararg := none, kwonlyargs := [], kw_defaults := [], kwarg := none, defaults := [] } := by
  obtain ⟨a1, a2, a3, a4, a5, a6, a7⟩ := a
  simp only [noArgs, Bool.and_eq_true, List.isEmpty_iff, Option.isNone_iff_eq_none] at h
  obtain ⟨⟨⟨⟨⟨⟨h1, h2⟩, h3⟩, h4⟩, h5⟩, h6⟩, h7⟩ := h
  subst h1 h2 h3 h4 h5 h6 h7
  rfl
theorem s_hof {c : CE} {k : Nat} {cf : Nat → List Sl → FR} (ok : XOk X c ex W ca sb k cf) (hh : c.hot = false) (hl : c.lam = true) {x : Str} {fi np : Nat} {io : Bool} {scope : Scope} {ps : Arguments} {body : Expr} {lpos p : Pos} {b : IE} {caps : List Nat} (hgl : Gl X x) (hd : (x == ("__debug__" : Str)) = false)
    (hx : x ∈ c.hfs) (hi : ixF x c.fns = some (fi, np, io)) (hL : LamX.lamSB c.sc scope = true) (hps : noArgs ps = true)
    (hb : ∀ X' W', XOk X' { c with sc := scope, clo := none, lam := false } (ExF.of ex.T) W' ca sb k cf → PE X' body (tE X'.K (ExF.of ex.T) ca W' (evE sb cf b))) :
    PE X (.Call (.Name x p) [.Lambda ps body scope lpos] [] pos) (tE X.K ex ca W fun σ => (match cf fi [.clo fun _ => cloV (evE sb cf b (maskS caps σ))] with
      | .ok s _ => .ok s σ
      | _ => .bad)) := by
  obtain ⟨cc, P, hcode, TB, hmT, hu, _, hsc⟩ := ok.lam hl hh
  obtain ⟨a, gA, pg, bg, sg, dV, kV, doc, pm, cdv, ct, oc, an, od, osl, Ng, m1, m2, m3, m4, m5, m6, m7, m8, m9, m10, hG⟩ := ok.lk.hf x hx fi np io hi
  have hr : Room (k + 2) X.A := by
    have := (ok.cool hh).2.1
    rwa [hl] at this
  have L : LamX.LamS X.env.scope scope := by rw [hsc]; exact LamX.lamS_by hL
  have ea := noArgs_def hps
  subst ea
  refine (pe_lamD (t := fun E => tE X.K (ExF.of ex.T) ca (fun cls d _ H => E cls d H) (evE sb cf b)) hgl m1 m2 m3 m4 m5 m6 m7 m8 (hG X _ rfl rfl rfl rfl rfl (hr.mono (Nat.le_add_right _ _))) TB hcode hmT hu hr L rfl (fun _ _ _ _ _ => rfl)
    (fun A outer s H E f c' hr' => hb _ _ (lam_ok ok hh hsc L A outer s H E f c' hr')) hd m9 m10).weak fun σ H Q ⟨σd, rs, q⟩ => ⟨rs.tab.1, fun H1 eD T1 => ?_⟩
  have kp : Keep H H1 := fun a o e _ hm => eD.1 a o e hm
  have sm : SmT ex.T H H1 := ⟨eD.1, T1, eD.2⟩
  have n0 := Nx.sm rs sm
  have q : Res X.K ex ca W σd σ H (match cf fi [.clo fun _ => cloV (evE sb cf b (maskS caps σd))] with
      | .ok s _ => R.ok s σd
      | _ => .bad) _ := q
  refine ⟨T1, fun _ => cloV (evE sb cf b (maskS caps σd)), fun H' => ∀ (i : Nat) (d : D), (maskS caps σd)[i]? = some (.im d) → ∃ v, σ[i]? = some (some v) ∧ Fz X.K H' d v, fun H H' k j i d h => ?_, fun i d h => ?_, fun HZ E Q' TZ JZ hc => ?_, ?_⟩
  · obtain ⟨v, e, f⟩ := j i d h
    exact ⟨v, e, k.fz d v f⟩
  · rcases mask_get h with e | ⟨d', e, e2⟩
    · cases e
    · cases e
      obtain ⟨v, e3, f⟩ := rs.at_ i _ e2
      exact ⟨v, e3, kp.fz d v f⟩
  · have r1 : RS X.K (ExF.of ex.T) HZ (maskS caps σd) σ :=
      { len := mask_len.trans rs.len
        at_ := fun i s h => by
          rcases mask_get h with rfl | ⟨d, rfl, _⟩
          · exact True.intro
          · exact JZ i d h
        inj := fun i j ds es a h1 _ _ _ => by rcases mask_get h1 with e | ⟨d, e, _⟩ <;> cases e
        tab := ⟨TZ, True.intro⟩ }
    refine ⟨maskS caps σd, r1, ?_⟩
    have sm2 : ∀ {σ' H'}, Nx X.K (ExF.of ex.T) (maskS caps σd) σ HZ σ' σ H' → SmT ex.T HZ H' := fun n => ⟨fun a o h hm => n.ext a o h mask_own hm, n.rs.tab.1, n.dom⟩
    cases e : evE sb cf b (maskS caps σd) with
    | bad => rw [e] at hc; exact hc.elim
    | exc x s => rw [e] at hc; exact fun d H' n xc => hc d H' (sm2 n) xc
    | ok t s =>
      rw [e] at hc
      cases t with
      | im d => exact fun v H' n vr => hc v H' (sm2 n) vr
      | _ => exact hc.elim
  · cases e : cf fi [.clo fun _ => cloV (evE sb cf b (maskS caps σd))] with
    | bad => rw [e] at q; exact q.elim
    | exc x => rw [e] at q; exact q.elim
    | ok s io =>
      rw [e] at q
      intro v H' smm hv
      have n2 := Nx.sm n0.rs smm
      exact q v H' (n0.trans n2) (hv.val n0 n2 fun a z => by obtain ⟨xs, h⟩ := n0.rs.own_lst z; exact ⟨_, h⟩)
/-! ### f() -/
theorem s_call0 {k : Nat} {f : Addr} {fd : FuncData} {x : Str} {p : Pos} {cf : Nat → List Sl → FR} {fi : Nat} (F : FnOk X.prog X.w X.K X.mg X.base (L2.CX X.prog X.w) k f fd [] (spF X.K ca ex.T (cf fi) false)) (hr : Room k X.A) (tk : Takes X W) (hg : Gl X x) (hm : X.mg x = some (.ref f)) (hk : PySem.W.keepIn X.K (.ref f) = true) (hb : Binds X.K fd [] [])
    (hd : (x == ("__debug__" : Str)) = false) : PE X (.Call (.Name x p) [] [] pos) (tE X.K ex ca W (evE sb cf (.call fi .nil))) := by
  refine ⟨fun pins s σ H Q I ⟨σd, rs, q⟩ => ?_⟩
  refine wpAny_Call_Name_kw (ld_glob I hg hm (PySem.W.callWith_K0 I.kIn hk (run_fnS (us := []) (vs := []) F hr hb (passAt tk σ) I .nil ?_)) hd)
  refine ⟨rs.tab.1, [], rfl, ?_⟩
  have q : Res X.K ex ca W σd σ H (callR (cf fi []) σd) (fun s σd' => ∀ v H', Nx X.K ex σd σ H σd' σ H' → ValR X.K (fun a => H a = none) H' σd' σ s v → Q v H') := q
  show (match cf fi [] with
      | .ok s _ => ∀ v H', SmT ex.T H H' → VF X.K H H' s v → Q v H'
      | .exc x => ∀ d H', SmT ex.T H H' → XcR X.K H' x d → WE W σ (.ref (ca x.cls)) d H'
      | .bad => False)
  cases e : cf fi [] with
  | bad => rw [e] at q; exact q.elim
  | exc x => rw [e] at q; exact fun d H' sm xc => q d H' (.sm rs sm) xc
  | ok s io =>
    rw [e] at q
    intro v H' sm hv
    have n2 := Nx.sm rs sm
    exact q v H' n2 (hv.val (.refl rs) n2 fun a z => by obtain ⟨xs, h⟩ := rs.own_lst z; exact ⟨_, h⟩)
end
end Rf
/-! R11c: x.index(e), x.pop(e). -/
namespace Rf
open PySem PySem.Spec PyProof.Rows L2
section
variable {X : Cx} {ex : ExF} {ca : Nat → Addr} {W : WX} {e : Expr} {re : Sls → R Sl} {pos : Pos}
theorem inxL_py {b : D} : ∀ {xs : List D} {n m : Nat}, inxL b n xs = some m → ∃ j z, m = n + j ∧ (D.pys xs)[j]? = some z ∧ PyData.eqv z b.py = true ∧ ∀ (i : Nat) (z' : PyData), i < j → (D.pys xs)[i]? = some z' → PyData.eqv z' b.py = false
  | [], n, m, h => by cases h
  | x :: xs, n, m, h => by
    unfold inxL at h
    split at h
    · rename_i he
      cases h
      exact ⟨0, x.py, rfl, rfl, he, fun i z hi => absurd hi (Nat.not_lt_zero _)⟩
    · rename_i he
      obtain ⟨j, z, e1, e2, e3, e4⟩ := inxL_py h
      refine ⟨j + 1, z, by omega, e2, e3, fun i z' hi hz => ?_⟩
      cases i with
      | zero =>
        have hz : some x.py = some z' := hz
        cases hz
        exact Bool.eq_false_iff.mpr he
      | succ i => exact e4 i z' (by omega) hz
theorem s_inx {i : Nat} {y : Str} {py apos : Pos} (hu : X.A.units + 65 < cLine) (hN : X.N[i]? = some y) (hv : Vis X.env.scope y) (hyd : (y == ("__debug__" : Str)) = false) (hyc : (y == ("__classdict__" : Str)) = false) (hl : (apos.endLine == pos.line) = true) (hs : isStar e = false)
    (he : PE X e (tE X.K ex ca W re)) :
    PE X (.Call (.Attribute (.Name y py) "index" apos) [e] [] pos) (tE X.K ex ca W fun σ => (match σ[i]? with
      | some (.mu _) => (re σ).bind fun y σ1 => wd y fun q => (match σ1[i]? with
        | some (.mu ds) => ofO (inxD ds q) σ1
        | _ => .bad)
      | _ => .bad)) := by
  refine (pe_bm PySem.F.plainAttrs_list PySem.F.slot_list_index PySem.F.type_list_index (mt_indexD hu) (pe_var hN hv hyd hyc) (pa_cons (pe_frz he) pa_nil (star1 hs)) rfl (by rw [star1 hs]; rfl) hl (star1 hs) rfl).weak fun σ H Q ⟨σd, rs, q⟩ => ?_
  dsimp only at q
  cases e0 : σd[i]? with
  | none => rw [e0] at q; exact q.elim
  | some s0 => cases s0 with
    | un => rw [e0] at q; exact q.elim
    | im d => rw [e0] at q; exact q.elim
    | exn x => rw [e0] at q; exact q.elim
    | clo x => rw [e0] at q; exact q.elim
    | mu ds =>
      rw [e0] at q
      obtain ⟨a0, xs0, ea, h0, f0⟩ := rs.at_ i _ e0
      refine ⟨.ref a0, ea, .inl ⟨rfl, xs0, .inl (.inl h0)⟩, σd, rs, (Res.bind q).imp fun s σ1 q v H1 n1 v1 => ?_⟩
      obtain ⟨p, hp, lock⟩ := ValR.lock n1 v1 q
      refine lock _ fun H2 n2 f2 => ?_
      cases e1 : σ1[i]? with
      | none => rw [e1] at hp; exact hp.elim
      | some s1 => cases s1 with
        | un => rw [e1] at hp; exact hp.elim
        | im d => rw [e1] at hp; exact hp.elim
        | exn x => rw [e1] at hp; exact hp.elim
        | clo x => rw [e1] at hp; exact hp.elim
        | mu es =>
          rw [e1] at hp
          obtain ⟨s, eq1, hq⟩ := Res.ofO hp
          obtain ⟨a1, xs1, ea1, h1, f1⟩ := n2.rs.at_ i _ e1
          rw [ea] at ea1
          cases ea1
          unfold inxD at eq1
          split at eq1
          · rename_i hz
            obtain ⟨m, hm, rfl⟩ := Option.map_eq_some_iff.mp eq1
            obtain ⟨j, z, rfl, k2, k3, k4⟩ := inxL_py hm
            have sl : See X.K H2 (.lst es) (.ref a0) := ⟨a0, xs1, rfl, .inl h1, f1⟩
            rw [Nat.zero_add] at hq
            have s1 : SeqAt.shaped (D.lst es).py = true := by
              unfold SeqAt.shaped
              rw [sl.lay, Bool.true_and, decide_eq_true_iff]
              exact hz.1
            have s2 : SeqAt.shaped p.py = true := by
              unfold SeqAt.shaped
              rw [f2.see.lay, Bool.true_and, decide_eq_true_iff]
              exact hz.2
            exact ⟨a0, v, p.py, D.pys es, j, z, rfl, rfl, sl.dp, f2.dp, s1, s2, k2, k3, k4, hq _ _ n2 (show Fz X.K H2 (.int _) _ from rfl)⟩
          · cases eq1
theorem FzL.erase {K : PySem.W.Frag} {H : Hp} : ∀ {ds : List D} {xs : List V} (n : Nat), FzL K H ds xs → FzL K H (ds.eraseIdx n) (xs.eraseIdx n)
  | [], _, _, h => by rw [h]; exact rfl
  | d :: ds, _, 0, h => by
    obtain ⟨x, r, e, hx, hr⟩ := h
    subst e
    exact hr
  | d :: ds, _, n + 1, h => by
    obtain ⟨x, r, e, hx, hr⟩ := h
    subst e
    exact ⟨x, _, rfl, hx, FzL.erase n hr⟩
theorem s_popat {i : Nat} {y : Str} {py apos : Pos} (hN : X.N[i]? = some y) (hv : Vis X.env.scope y) (hyd : (y == ("__debug__" : Str)) = false) (hyc : (y == ("__classdict__" : Str)) = false) (hl : (apos.endLine == pos.line) = true) (hs : isStar e = false)
    (he : PE X e (tE X.K ex ca W re)) :
    PE X (.Call (.Attribute (.Name y py) "pop" apos) [e] [] pos) (tE X.K ex ca W fun σ => (match σ[i]? with
    | some (.mu _) => (re σ).bind fun y σ1 => wd y fun q => (match σ1[i]?, q with
      | some (.mu ds), .int k => if rngIn k = true then (match L2.ixN ds.length k with
        | some n => (match ds[n]? with
          | some x => .ok (.im x) (σ1.set i (.mu (ds.eraseIdx n)))
          | none => .bad)
        | none => .bad) else .bad
      | _, _ => .bad)
    | _ => .bad)) := by
  refine (pe_bm PySem.F.plainAttrs_list PySem.F.slot_list_pop PySem.F.type_list_pop mt_popAt (pe_var hN hv hyd hyc) (pa_cons (pe_frz he) pa_nil (star1 hs)) rfl (by rw [star1 hs]; rfl) hl (star1 hs) rfl).weak fun σ H Q ⟨σd, rs, q⟩ => ?_
  dsimp only at q
  cases e0 : σd[i]? with
  | none => rw [e0] at q; exact q.elim
  | some s0 => cases s0 with
    | un => rw [e0] at q; exact q.elim
    | im d => rw [e0] at q; exact q.elim
    | exn x => rw [e0] at q; exact q.elim
    | clo x => rw [e0] at q; exact q.elim
    | mu ds =>
      rw [e0] at q
      obtain ⟨a0, xs0, ea, h0, f0⟩ := rs.at_ i _ e0
      refine ⟨.ref a0, ea, .inl ⟨rfl, xs0, .inl (.inl h0)⟩, σd, rs, (Res.bind q).imp fun s σ1 q v H1 n1 v1 => ?_⟩
      obtain ⟨p, hp, lock⟩ := ValR.lock n1 v1 q
      refine lock _ fun H2 n2 f2 => ?_
      cases e1 : σ1[i]? with
      | none => rw [e1] at hp; exact hp.elim
      | some s1 => cases s1 with
        | un => rw [e1] at hp; exact hp.elim
        | im d => rw [e1] at hp; exact hp.elim
        | exn x => rw [e1] at hp; exact hp.elim
        | clo x => rw [e1] at hp; exact hp.elim
        | mu es =>
          rw [e1] at hp
          cases p with
          | int k =>
            dsimp only at hp
            split at hp
            · rename_i hz
              have hz := of_decide_eq_true hz
              cases e2 : L2.ixN es.length k with
              | none => rw [e2] at hp; exact hp.elim
              | some n =>
                rw [e2] at hp
                dsimp only at hp
                cases e3 : es[n]? with
                | none => rw [e3] at hp; exact hp.elim
                | some x =>
                  rw [e3] at hp
                  obtain ⟨a1, xs1, ea1, h1, f1⟩ := n2.rs.at_ i _ e1
                  rw [ea] at ea1
                  cases ea1
                  cases f2
                  obtain ⟨x', hx', fx⟩ := f1.get e3
                  obtain ⟨g1, g2, g3, g4⟩ := L2.ixN_seq e2
                  have hf : ∀ b o, H2 b = some o → b ≠ a0 → (upd H2 a0 (.lst (xs1.eraseIdx n))) b = some o := fun b o h hb => by rw [upd_ne hb]; exact h
                  have keep := (keep_but n2.rs e1 ea hf).keep
                  have n3 := n2.trans (Nx.upd_own n2.rs e1 ea hf upd_same (FzL.erase n (keep.fzL es xs1 f1)))
                  exact ⟨a0, xs1, k, n, x', rfl, rfl, h1, by omega, by omega, by rw [f1.length]; exact g1, hx', hp _ _ n3 (keep.fz x x' fx)⟩
            · exact hp.elim
          | _ => exact hp.elim
end
end Rf
/-! S8: zip of a tuple and a list, by the iterators of any kind (KE.GoesZip). -/
namespace Rf
open PySem PySem.Spec PyProof.Rows L2
/-- the tuple at a and the list at b as they stand at each turn -/
def ItzM (K : PySem.W.Frag) (a b : Addr) : It :=
  ⟨fun i H => ∃ (xs ys : List V) (x y : V), SqT K H a xs ∧ SqL K H b ys ∧ xs[i]? = some x ∧ ys[i]? = some y,
    fun i H v H' => ∃ T x y, v = .ref T ∧ H T = none ∧ H' = upd H T (.tup [x, y]) ∧ (∀ xs, SqT K H a xs → xs[i]? = some x) ∧ ∀ ys, SqL K H b ys → ys[i]? = some y,
    fun i H => ∃ xs ys : List V, SqT K H a xs ∧ SqL K H b ys ∧ i ≤ xs.length ∧ i ≤ ys.length ∧ (i = xs.length ∨ i = ys.length)⟩
theorem turn_zipM {P : Program} {w : World} {K : PySem.W.Frag} {elts : List Expr} {kk : Nat} {tpos : Pos} {a b z TI TO i1 i2 : Addr} (D : ZipSep2 z TI TO i1 i2 [i1, a] [i2, b]) (ha : a ≠ i1) (hb : b ≠ i2) :
    Turn P w K (.Tuple elts kk tpos) (ItzM K a b) [z, TI, TO, i1, i2] z (fun i h => IsZip h z TI TO .none ∧ IsTupOf2 h TI (.ref i1) (.ref i2) ∧ (∃ x y, IsTupOf2 h TO x y) ∧ h.IsTupleIter i1 a i ∧ h.IsListIter i2 b i) where
  mem := by simp
  obj := fun i h st c hc => by
    obtain ⟨hz, hTI, ⟨x, y, hTO⟩, ⟨o1, e1, _, d1⟩, ⟨o2, e2, _, d2⟩⟩ := st
    have e' : c = z ∨ c = TI ∨ c = TO ∨ c = i1 ∨ c = i2 := by simpa using hc
    rcases e' with q | q | q | q | q
    · rw [q]; exact ⟨_, hz, fun v q => nomatch q⟩
    · rw [q]; exact ⟨_, hTI, fun v q => nomatch q⟩
    · rw [q]; exact ⟨_, hTO, fun v q => nomatch q⟩
    · rw [q]; exact ⟨o1, e1, fun v q => by rw [d1] at q; cases q⟩
    · rw [q]; exact ⟨o2, e2, fun v q => by rw [d2] at q; cases q⟩
  keep := fun i h h' st k => by
    obtain ⟨hz, hTI, ⟨x, y, hTO⟩, h1, h2⟩ := st
    exact ⟨k z (by simp) _ hz, k TI (by simp) _ hTI, ⟨x, y, k TO (by simp) _ hTO⟩, h1.at fun o q => k i1 (by simp) o q, h2.at fun o q => k i2 (by simp) o q⟩
  item := by
    intro X hP hw hK hc i pins s σ H E I hf st hg
    subst hP hw hK
    obtain ⟨hz, hTI, ⟨x0, y0, hTO⟩, h1, h2⟩ := st
    obtain ⟨xs, ys, x, y, hqx, hqy, hx, hy⟩ := hg
    obtain ⟨its, rv, p, _⟩ := I.tuple hqx
    obtain ⟨its2, rv2, p2, _⟩ := I.list hqy
    obtain ⟨u, hu, ru⟩ := rv.get hx
    obtain ⟨u2, hu2, ru2⟩ := rv2.get hy
    have hh : X.A.in1.handled = none := I.ok.hd hc
    have hzl : z < s.heap.objs.size := Heap.lt_size hz
    refine wpAny_pyNext_zipD2_item D (Draws.tuple hh i1 a ha its.toArray) (Draws.list hh i2 b hb its2.toArray) hz hTI hTO ⟨h1, show s.heap.IsTuple a its.toArray from p⟩ ⟨h2, p2.isList⟩
      (by rw [List.size_toArray]; exact (List.getElem?_eq_some_iff.mp hu).1) (by rw [List.size_toArray]; exact (List.getElem?_eq_some_iff.mp hu2).1) fun v1 v2 h' tk e1 e2 z' TO' s1 s2 hT hsz hk => ?_
    have e1 : its.toArray[i]? = some v1 := e1
    have e2 : its2.toArray[i]? = some v2 := e2
    rw [List.getElem?_toArray, hu] at e1
    rw [List.getElem?_toArray, hu2] at e2
    cases e1
    cases e2
    refine ⟨_, rfl, wpAny_letOwnedTupleGo_zip (s := { s with heap := h', toks := tk }) z' fun h'' z'' sb => ?_⟩
    have hT2 : h''.get? s.heap.objs.size = some { cls := .type "tuple", data := .seq #[u, u2] } := (sb.2 _ (Nat.ne_of_gt hzl)).trans hT
    have new : ObjOk X.prog X.w (upd H s.heap.objs.size (.tup [x, y])) h'' s.heap.objs.size (.tup [x, y]) :=
      ⟨by show 2 ≤ sizeLine; decide, [u, u2], .cons ru (.cons ru2 .nil), ⟨_, hT2, rfl, _, rfl⟩⟩
    have I1 : Inv X pins σ (upd H s.heap.objs.size (.tup [x, y])) { s with heap := h'', toks := tk } :=
      I.turnedNew (ch := [z, TI, TO, i1, i2]) (fun c o hb q => (sb.2 c (fun q' => hb (by simp [q']))).trans (hk c o (fun q' => hb (by simp [q'])) (fun q' => hb (by simp [q'])) (fun q' => hb (by simp [q'])) (fun q' => hb (by simp [q'])) q)) hf (Nat.le_refl _) new
    refine ⟨.ref s.heap.objs.size, _, I1, rfl, ⟨_, x, y, rfl, I.hok.fresh (Nat.le_refl _), rfl, fun l hl => by rw [I.tuple_inj hl hqx]; exact hx, fun l hl => by rw [I.list_inj hl hqy]; exact hy⟩, ⟨z'', ?_, ⟨u, u2, ?_⟩, ?_, ?_⟩, fun c hcm => ?_⟩
    · exact (sb.2 _ D.TIz).trans (hk _ _ D.TIz D.TITO D.TIi1 D.TIi2 hTI)
    · exact (sb.2 _ D.TOz).trans TO'
    · exact s1.1.at fun o q => (sb.2 _ D.zi1.symm).trans q
    · exact s2.1.at fun o q => (sb.2 _ D.zi2.symm).trans q
    · have hlt : c < s.heap.objs.size := by
        have e' : c = z ∨ c = TI ∨ c = TO ∨ c = i1 ∨ c = i2 := by simpa using hcm
        rcases e' with q | q | q | q | q
        · rw [q]; exact hzl
        · rw [q]; exact Heap.lt_size hTI
        · rw [q]; exact Heap.lt_size hTO
        · rw [q]; obtain ⟨_, e1, _⟩ := h1; exact Heap.lt_size e1
        · rw [q]; obtain ⟨_, e2, _⟩ := h2; exact Heap.lt_size e2
      rw [upd_ne (Nat.ne_of_lt hlt)]
      exact (hf c hcm).1
  done := by
    intro X hP hw hK hc i pins s σ H E I hf st hg
    subst hP hw hK
    obtain ⟨hz, hTI, ⟨x0, y0, hTO⟩, h1, h2⟩ := st
    obtain ⟨xs, ys, hqx, hqy, g1, g2, hend⟩ := hg
    obtain ⟨its, rv, p, _⟩ := I.tuple hqx
    obtain ⟨its2, rv2, p2, _⟩ := I.list hqy
    have l1 := rv.length
    have l2 := rv2.length
    have hh : X.A.in1.handled = none := I.ok.hd hc
    exact wpAny_pyNext_zipD2_end D (Draws.tuple hh i1 a ha its.toArray) (Draws.list hh i2 b hb its2.toArray) hz hTI hTO ⟨h1, show s.heap.IsTuple a its.toArray from p⟩ ⟨h2, p2.isList⟩ (by simp; omega) (by simp; omega) (by simp; omega) fun h' tk hk => ⟨rfl, I.turnedL (t' := tk) (ch := [z, TI, TO, i1, i2]) (fun c o hb q =>
      hk c o (fun q' => hb (by simp [q'])) (fun q' => hb (by simp [q'])) (fun q' => hb (by simp [q'])) (fun q' => hb (by simp [q'])) q) hf⟩
  self := fun A i s Q E st h => wpAny_pyIter_zip st.1 h
def iZipM (K : PySem.W.Frag) (ta : TA) : TI := fun σ H R => ta σ H fun vs H1 => ∃ a b xs ys, vs = [.ref a, .ref b] ∧ SqT K H1 a xs ∧ SqL K H1 b ys ∧ R (ItzM K a b) H1
theorem pi_zipM {X : Cx} {e e2 : Expr} {ta : TA} {p pos tpos : Pos} {elts : List Expr} {kk : Nat} (hg : Gl X "zip") (hm : X.mg "zip" = none) (ha : PA X [e, e2] ta)
    (hs : starEach [e, e2] X.env = (false, eval e X.env) :: starEach [e2] X.env := by rfl) (hpl : (backTo pos (starEach [e2] X.env)).any (·.1) = false := by rfl) :
    PI X (.Tuple elts kk tpos) (.Call (.Name "zip" p) [e, e2] [] pos) (iZipM X.K ta) := by
  refine ⟨fun pins s σ H R I h => ?_⟩
  refine Call_ (ld_blt I hg hm PyProof.Rows.boot_zip (PyProof.Rows.callWith_type1 (thn (ha.run pos pins s σ H _ I h) fun us s1 ⟨vs, H1, I1, r1, q1⟩ => ?_) hs hpl))
  obtain ⟨a, b, xs, ys, ex, hqx, hqy, q⟩ := q1
  subst ex
  cases r1 with
  | cons r rr =>
    cases rr with
    | cons r' rr =>
      cases rr
      cases r
      cases r'
      obtain ⟨its, rv, p1, _⟩ := I1.tuple hqx
      obtain ⟨its2, rv2, p2, _⟩ := I1.list hqy
      have la : a < s1.heap.objs.size := by obtain ⟨o, ho, _⟩ := id p1; exact Heap.lt_size ho
      have lb : b < s1.heap.objs.size := p2.lt
      refine zip_begins2 (begins_tuple a its.toArray) (begins_list b its2.toArray) (show s1.heap.IsTuple a its.toArray from p1) p2.isList fun h' hz hTI hTO h1 h2 hsz hk => wpAny_pyIter_zip hz ?_
      have I2 : Inv X pins σ H1 { s1 with heap := h' } := I1.kept (t' := s1.toks) hk
      refine ⟨s1.heap.objs.size + 4, [s1.heap.objs.size + 4, s1.heap.objs.size + 2, s1.heap.objs.size + 3, s1.heap.objs.size, s1.heap.objs.size + 1], _, _, H1, rfl, I2, turn_zipM (zip_sep2 (fun c hc => by rw [List.mem_singleton.mp hc]; exact la) (fun c hc => by rw [List.mem_singleton.mp hc]; exact lb)) (Nat.ne_of_lt la) (Nat.ne_of_lt (Nat.lt_succ_of_lt lb)), ⟨hz, hTI, ⟨_, _, hTO⟩, ⟨_, h1, rfl, rfl⟩, ⟨_, h2, rfl, rfl⟩⟩, fun c hcm => ?_, q⟩
      have e' : c = s1.heap.objs.size + 4 ∨ c = s1.heap.objs.size + 2 ∨ c = s1.heap.objs.size + 3 ∨ c = s1.heap.objs.size ∨ c = s1.heap.objs.size + 1 := by simpa using hcm
      have hle : s1.heap.objs.size ≤ c := by
        rcases e' with z | z | z | z | z
        · rw [z]; exact Nat.le_add_right _ _
        · rw [z]; exact Nat.le_add_right _ _
        · rw [z]; exact Nat.le_add_right _ _
        · rw [z]; exact Nat.le_refl _
        · rw [z]; exact Nat.le_add_right _ _
      exact I1.fpOk hle (I1.hok.fresh hle)
end Rf
/-! R11d: loops by zip. -/
namespace Rf
open PySem PySem.Spec PyProof.Rows L2
section
variable {X : Cx} {ex : ExF} {ca : Nat → Addr} {W : WX} {a b : Expr} {ra rb : Sls → R Sl} {pos : Pos}
theorem zipL_get : ∀ {xs ys : List D} {i : Nat}, i < (zipL xs ys).length → ∃ x y, xs[i]? = some x ∧ ys[i]? = some y ∧ (zipL xs ys)[i]? = some (.tup [x, y])
  | [], ys, i, h => by simp [zipL] at h
  | x :: xs, [], i, h => by simp [zipL] at h
  | x :: xs, y :: ys, 0, _ => ⟨x, y, rfl, rfl, rfl⟩
  | x :: xs, y :: ys, i + 1, h => zipL_get (xs := xs) (ys := ys) (i := i) (by simpa [zipL] using h)
theorem zipL_end : ∀ (xs ys : List D), xs.length ≤ (zipL xs ys).length ∨ ys.length ≤ (zipL xs ys).length
  | [], ys => .inl (Nat.le_refl _)
  | x :: xs, [] => .inr (Nat.le_refl _)
  | x :: xs, y :: ys => by
    rcases zipL_end xs ys with h | h
    · exact .inl (Nat.succ_le_succ h)
    · exact .inr (Nat.succ_le_succ h)
theorem it_zipL {K : PySem.W.Frag} {H : Hp} {a b : Addr} {xs ys : List V} {ds es : List D} (s : FrL H a xs) (f : FzL K H ds xs) (s2 : FrL H b ys) (f2 : FzL K H es ys) : ItD K (Itz K a b) (zipL ds es) H where
  go := fun H' i k hi => by
    obtain ⟨d, e, h1, h2, _⟩ := zipL_get hi
    obtain ⟨x, hx, _⟩ := f.get h1
    obtain ⟨y, hy, _⟩ := f2.get h2
    exact ⟨xs, ys, x, y, .inl (k.frL s).rd, .inl (k.frL s2).rd, hx, hy⟩
  yld := fun H' i v H'' k y hi => by
    obtain ⟨T, x, x2, rfl, hT, rfl, y1, y2⟩ := y
    obtain ⟨d, e, h1, h2, h3⟩ := zipL_get hi
    obtain ⟨z, hz, fz⟩ := f.get h1
    obtain ⟨z2, hz2, fz2⟩ := f2.get h2
    have q1 := y1 xs (.inl (k.frL s).rd)
    have q2 := y2 ys (.inl (k.frL s2).rd)
    rw [hz] at q1; cases q1
    rw [hz2] at q2; cases q2
    have kp := Keep.same (same_new hT) (H' := upd H' T (.tup [x, x2]))
    exact ⟨same_new hT, _, h3, T, _, rfl, .inl (.inl upd_same), _, _, rfl, kp.fz _ _ (k.fz d _ fz), _, _, rfl, kp.fz _ _ (k.fz e _ fz2), rfl⟩
  stop := fun H' k => ⟨xs, ys, .inl (k.frL s).rd, .inl (k.frL s2).rd, by rw [f.length, f2.length]; exact zipL_end ds es⟩
theorem it_zipT {K : PySem.W.Frag} {H : Hp} {a b : Addr} {xs ys : List V} {ds es : List D} (s : SqT K H a xs) (f : FzL K H ds xs) (s2 : SqT K H b ys) (f2 : FzL K H es ys) : ItD K (RZ.ItzT K a b) (zipL ds es) H where
  go := fun H' i k hi => by
    obtain ⟨d, e, h1, h2, _⟩ := zipL_get hi
    obtain ⟨x, hx, _⟩ := f.get h1
    obtain ⟨y, hy, _⟩ := f2.get h2
    exact ⟨xs, ys, x, y, k.sqT s, k.sqT s2, hx, hy⟩
  yld := fun H' i v H'' k y hi => by
    obtain ⟨T, x, x2, rfl, hT, rfl, y1, y2⟩ := y
    obtain ⟨d, e, h1, h2, h3⟩ := zipL_get hi
    obtain ⟨z, hz, fz⟩ := f.get h1
    obtain ⟨z2, hz2, fz2⟩ := f2.get h2
    have q1 := y1 xs (k.sqT s)
    have q2 := y2 ys (k.sqT s2)
    rw [hz] at q1; cases q1
    rw [hz2] at q2; cases q2
    have kp := Keep.same (same_new hT) (H' := upd H' T (.tup [x, x2]))
    exact ⟨same_new hT, _, h3, T, _, rfl, .inl (.inl upd_same), _, _, rfl, kp.fz _ _ (k.fz d _ fz), _, _, rfl, kp.fz _ _ (k.fz e _ fz2), rfl⟩
  stop := fun H' k => ⟨xs, ys, k.sqT s, k.sqT s2, by rw [f.length, f2.length]; exact zipL_end ds es⟩
theorem it_zipM {K : PySem.W.Frag} {H : Hp} {a b : Addr} {xs ys : List V} {ds es : List D} (s : SqT K H a xs) (f : FzL K H ds xs) (s2 : FrL H b ys) (f2 : FzL K H es ys) : ItD K (ItzM K a b) (zipL ds es) H where
  go := fun H' i k hi => by
    obtain ⟨d, e, h1, h2, _⟩ := zipL_get hi
    obtain ⟨x, hx, _⟩ := f.get h1
    obtain ⟨y, hy, _⟩ := f2.get h2
    exact ⟨xs, ys, x, y, k.sqT s, .inl (k.frL s2).rd, hx, hy⟩
  yld := fun H' i v H'' k y hi => by
    obtain ⟨T, x, x2, rfl, hT, rfl, y1, y2⟩ := y
    obtain ⟨d, e, h1, h2, h3⟩ := zipL_get hi
    obtain ⟨z, hz, fz⟩ := f.get h1
    obtain ⟨z2, hz2, fz2⟩ := f2.get h2
    have q1 := y1 xs (k.sqT s)
    have q2 := y2 ys (.inl (k.frL s2).rd)
    rw [hz] at q1; cases q1
    rw [hz2] at q2; cases q2
    have kp := Keep.same (same_new hT) (H' := upd H' T (.tup [x, x2]))
    exact ⟨same_new hT, _, h3, T, _, rfl, .inl (.inl upd_same), _, _, rfl, kp.fz _ _ (k.fz d _ fz), _, _, rfl, kp.fz _ _ (k.fz e _ fz2), rfl⟩
  stop := fun H' k => by
    have hl : (zipL ds es).length ≤ xs.length ∧ (zipL ds es).length ≤ ys.length ∧ ((zipL ds es).length = xs.length ∨ (zipL ds es).length = ys.length) := by
      have e1 : ∀ ds es : List D, (zipL ds es).length ≤ ds.length ∧ (zipL ds es).length ≤ es.length := by
        intro ds
        induction ds with
        | nil => intro es; exact ⟨Nat.zero_le _, Nat.zero_le _⟩
        | cons d ds ih =>
          intro es
          cases es with
          | nil => exact ⟨Nat.zero_le _, Nat.zero_le _⟩
          | cons e es =>
            obtain ⟨g1, g2⟩ := ih es
            exact ⟨Nat.succ_le_succ g1, Nat.succ_le_succ g2⟩
      rw [f.length, f2.length]
      have g := e1 ds es
      rcases zipL_end ds es with h | h
      · exact ⟨g.1, g.2, .inl (by omega)⟩
      · exact ⟨g.1, g.2, .inr (by omega)⟩
    exact ⟨xs, ys, k.sqT s, .inl (k.frL s2).rd, hl.1, hl.2.1, hl.2.2⟩
theorem Res.imp' {K : PySem.W.Frag} {σd0 : Sls} {σ : L2.St} {H0 : Hp} {α : Type} {r : R α} {ok ok' : α → Sls → Prop} (h : Res K ex ca W σd0 σ H0 r ok) (w : ∀ a σd', r = .ok a σd' → ok a σd' → ok' a σd') : Res K ex ca W σd0 σ H0 r ok' := by
  cases r with
  | ok a s => exact w a s rfl h
  | exc x s => exact h
  | bad => exact h
theorem i_zip {elts : List Expr} {kk : Nat} {tpos p : Pos} (hg : Gl X "zip") (hm : X.mg "zip" = none) (hs : isStar a = false) (hs' : isStar b = false) (ha : PE X a (tE X.K ex ca W ra)) (hb : PE X b (tE X.K ex ca W rb)) :
    PI X (.Tuple elts kk tpos) (.Call (.Name "zip" p) [a, b] [] pos) (tI X.K ex ca W fun σ => (ra σ).bind fun x σ1 => wd x fun p => (rb σ1).bind fun y σ2 => wd y fun q => (match p, q with
      | .tup xs, .tup ys => .ok (.mu (zipL xs ys)) σ2
      | .lst xs, .lst ys => .ok (.mu (zipL xs ys)) σ2
      | .tup xs, .lst ys => .ok (.mu (zipL xs ys)) σ2
      | _, _ => .bad)) := by
  have pa : PA X [a, b] (tCons (fun σ H Q => tE X.K ex ca W ra σ H (FrzQ Q)) (tCons (fun σ H Q => tE X.K ex ca W rb σ H (FrzQ Q)) tNil)) := pa_cons (pe_frz ha) (pa_cons (pe_frz hb) pa_nil (star1 hs')) (star1 hs)
  refine ((RZ.pi_zipA hg hm pa (by rw [star1 hs, star1 hs']) (by rw [star1 hs']; rfl)).or (pi_zipM hg hm pa (by rw [star1 hs, star1 hs']) (by rw [star1 hs']; rfl))).weak fun σ H Q ⟨σd, rs, q⟩ => ?_
  by_cases M : ∃ xs σ1 y σ2 ys, ra σd = .ok (.im (.tup xs)) σ1 ∧ rb σ1 = .ok y σ2 ∧ (y = .mu ys ∨ y = .im (.lst ys))
  · obtain ⟨xs, σ1, y, σ2, ys, e1, e2, hy⟩ := M
    refine .inr ⟨σd, rs, ?_⟩
    have q1 := q.bind.bind
    rw [e1] at q1 ⊢
    intro v H1 n1 v1
    refine .inl ⟨σ1, n1.rs, ?_⟩
    have q2 : Res X.K ex ca W σd σ H ((rb σ1).bind fun y σ2 => wd y fun q => (match D.tup xs, q with
      | .tup xs, .tup ys => R.ok (Sl.mu (zipL xs ys)) σ2
      | .lst xs, .lst ys => R.ok (Sl.mu (zipL xs ys)) σ2
      | .tup xs, .lst ys => R.ok (Sl.mu (zipL xs ys)) σ2
      | _, _ => R.bad)) _ := q1
    have q3 := q2.bind
    rw [e2] at q3 ⊢
    intro w H3 n3 w3
    obtain ⟨A, vs, rfl, s1, g1⟩ := v1
    have hq : ∀ J H', Nx X.K ex σd σ H σ2 σ H' → ItD X.K J (zipL xs ys) H' → Q J H' := by
      rcases hy with rfl | rfl <;> exact q3
    rcases hy with rfl | rfl
    · obtain ⟨B, us, rfl, h3, f3, no, pp⟩ := w3
      refine .inr ⟨B, us, h3, fun o => ?_⟩
      have n4 := n3.frz h3 no pp o
      have kp := n4.keep n1.rs
      have z := fz_frz h3 f3 o
      obtain ⟨b', us', ez, s2, f2⟩ := z
      cases ez
      exact ⟨A, B, vs, us', rfl, kp.sqT s1, .inl s2.rd, hq _ _ (n1.trans n4) (it_zipM (kp.sqT s1) (kp.fzL _ _ g1) s2 f2)⟩
    · obtain ⟨B, us, rfl, s2, f2⟩ := w3
      have kp := n3.keep n1.rs
      exact .inl ⟨A, B, vs, us, rfl, kp.sqT s1, .inl s2.rd, hq _ _ (n1.trans n3) (it_zipM (kp.sqT s1) (kp.fzL _ _ g1) s2 f2)⟩
  · refine .inl ⟨σd, rs, q.bind.bind.imp' fun x σ1 ex1 q1 v H1 n1 v1 => ?_⟩
    obtain ⟨p, hpx, hp, lock⟩ : ∃ p, (x = .im p ∨ ∃ ds, x = .mu ds ∧ p = .lst ds) ∧ Res X.K ex ca W σd σ H ((rb σ1).bind fun y σ2 => wd y fun q => (match p, q with
      | .tup xs, .tup ys => R.ok (Sl.mu (zipL xs ys)) σ2
      | .lst xs, .lst ys => R.ok (Sl.mu (zipL xs ys)) σ2
      | .tup xs, .lst ys => R.ok (Sl.mu (zipL xs ys)) σ2
      | _, _ => R.bad)) (fun x σ' => Res X.K ex ca W σd σ H (wd x fun p => (match p.its? with
        | some ds => .ok ds σ'
        | none => .bad)) fun ds σd' => ∀ J H', Nx X.K ex σd σ H σd' σ H' → ItD X.K J ds H' → Q J H') ∧ ∀ Q : VK, (∀ H', Nx X.K ex σd σ H σ1 σ H' → Fz X.K H' p v → Q v H') → FrzQ Q v H1 := by
      cases x with
      | un => exact q1.elim
      | exn z => exact q1.elim
      | clo z => exact q1.elim
      | im d => exact ⟨d, .inl rfl, q1, fun Q g => .inl (g H1 n1 v1)⟩
      | mu ds =>
        obtain ⟨B, us, rfl, h3, f3, no, pp⟩ := v1
        exact ⟨.lst ds, .inr ⟨ds, rfl, rfl⟩, q1, fun Q g => .inr ⟨B, us, h3, fun o => g _ (n1.frz h3 no pp o) (fz_frz h3 f3 o)⟩⟩
    refine lock _ fun H2 n2 f2 => ⟨σ1, n2.rs, (hp.bind.re n2 fun _ _ h => h).imp' fun y σ2 ey q2 w H3 n3 w3 => ?_⟩
    obtain ⟨p2, hp2x, hp2, lock2⟩ : ∃ p2, (y = .im p2 ∨ ∃ ds, y = .mu ds ∧ p2 = .lst ds) ∧ Res X.K ex ca W σd σ H (match p, p2 with
      | .tup xs, .tup ys => R.ok (Sl.mu (zipL xs ys)) σ2
      | .lst xs, .lst ys => R.ok (Sl.mu (zipL xs ys)) σ2
      | .tup xs, .lst ys => R.ok (Sl.mu (zipL xs ys)) σ2
      | _, _ => R.bad) (fun x σ' => Res X.K ex ca W σd σ H (wd x fun p => (match p.its? with
        | some ds => .ok ds σ'
        | none => .bad)) fun ds σd' => ∀ J H', Nx X.K ex σd σ H σd' σ H' → ItD X.K J ds H' → Q J H') ∧ ∀ Q : VK, (∀ H', Nx X.K ex σ1 σ H2 σ2 σ H' → Fz X.K H' p2 w → Q w H') → FrzQ Q w H3 := by
      cases y with
      | un => exact q2.elim
      | exn z => exact q2.elim
      | clo z => exact q2.elim
      | im d => exact ⟨d, .inl rfl, q2, fun Q g => .inl (g H3 n3 w3)⟩
      | mu ds =>
        obtain ⟨B, us, rfl, h3, f3, no, pp⟩ := w3
        exact ⟨.lst ds, .inr ⟨ds, rfl, rfl⟩, q2, fun Q g => .inr ⟨B, us, h3, fun o => g _ (n3.frz h3 no pp o) (fz_frz h3 f3 o)⟩⟩
    refine lock2 _ fun H4 n4 f4 => ?_
    have f2' := Keep.fz (n4.keep n2.rs) p v f2
    have n5 := n2.trans n4
    cases p with
    | tup xs => cases p2 with
      | tup ys =>
        obtain ⟨A, vs, rfl, s1, g1⟩ := f2'
        obtain ⟨B, us, rfl, s2, g2⟩ := f4
        have hp2 : ∀ J H', Nx X.K ex σd σ H σ2 σ H' → ItD X.K J (zipL xs ys) H' → Q J H' := hp2
        exact ⟨A, B, vs, us, rfl, .inr ⟨s1, s2, hp2 _ _ n5 (it_zipT s1 g1 s2 g2)⟩⟩
      | lst ys =>
        exfalso
        rcases hpx with rfl | ⟨ds, _, e⟩
        · rcases hp2x with rfl | ⟨ds, rfl, e⟩
          · exact M ⟨xs, σ1, _, σ2, ys, ex1, ey, .inr rfl⟩
          · cases e
            exact M ⟨xs, σ1, _, σ2, ys, ex1, ey, .inl rfl⟩
        · cases e
      | _ => exact hp2.elim
    | lst xs => cases p2 with
      | lst ys =>
        obtain ⟨A, vs, rfl, s1, g1⟩ := f2'
        obtain ⟨B, us, rfl, s2, g2⟩ := f4
        have hp2 : ∀ J H', Nx X.K ex σd σ H σ2 σ H' → ItD X.K J (zipL xs ys) H' → Q J H' := hp2
        exact ⟨A, B, vs, us, rfl, .inl ⟨.inl s1.rd, .inl s2.rd, hp2 _ _ n5 (it_zipL s1 g1 s2 g2)⟩⟩
      | _ => exact hp2.elim
    | _ => exact hp2.elim
end
end Rf
/-! R12: expressions of the text do as the small language says. -/
namespace Rf
open PySem PySem.Spec PyProof.Rows L2
section
variable {ca : Nat → Addr} {sb : Sub} {k : Nat} {cf : Nat → List Sl → FR}
def HE (ca : Nat → Addr) (sb : Sub) (k : Nat) (cf : Nat → List Sl → FR) (n : Nat) : Prop := ∀ X c ex W, XOk X c ex W ca sb k cf → SE X ex ca W sb cf (cE n c)
def HT' (ca : Nat → Addr) (sb : Sub) (k : Nat) (cf : Nat → List Sl → FR) (n : Nat) : Prop := ∀ X c ex W, XOk X c ex W ca sb k cf → ST X ex ca W sb cf (cT n c)
def HI (ca : Nat → Addr) (sb : Sub) (k : Nat) (cf : Nat → List Sl → FR) (n : Nat) : Prop := ∀ X c ex W, XOk X c ex W ca sb k cf → ∀ e r tg tt, (tt = true → isTupT tg = true) → cI n c tt e = some r → PI X tg e (tI X.K ex ca W (evE sb cf r))
theorem isSet_marks {op : CmpOp} {b : Expr} (h : isSet b = false) : behindInMarks op b = false := by
  cases b <;> first | rfl | cases h
theorem set_iter {b : Expr} (h : isSet b = false) {env : Env} : ∀ x, foldedSetIterable b env x = pure x := by
  intro x
  cases b <;> first | rfl | cases h
theorem relabel_get (env : Env) (x : Str) : ∀ names : List (Str × NameKind), (names.map fun (n, k) => if (k == NameKind.free && env.scope.kind == .function && env.kindOf n == some .cell) then (n, NameKind.cell) else (n, k)).lookup x =
    (names.lookup x).map fun k => if (k == NameKind.free && env.scope.kind == .function && env.kindOf x == some .cell) = true then NameKind.cell else k
  | [] => rfl
  | (n, k) :: r => by
    have ih := relabel_get env x r
    rw [List.map_cons]
    dsimp only
    by_cases hx : x = n
    · subst hx
      split
      · rename_i h
        simp only [List.lookup_cons, beq_self_eq_true, Option.map_some, if_pos h]
      · rename_i h
        simp only [List.lookup_cons, beq_self_eq_true, Option.map_some, if_neg h]
    · have e : (x == n) = false := by simpa using hx
      split
      · simp only [List.lookup_cons, e]; exact ih
      · simp only [List.lookup_cons, e]; exact ih
theorem blk_ok {X : Cx} {c : CE} {ex : ExF} {W : WX} (ok : XOk X c ex W ca sb k cf) (hh : c.hot = false) {s : Shared} {H : Hp} {scope : Scope} {C : Addr} {cl : List (Str × Addr)} {fp : List Addr} :
    XOk (X.blk s H scope (compEnvC scope cl C X.env) fp) { c with sc := scope, clo := none, lam := false } ex WF ca sb k cf := by
  have key : ∀ x, (compEnvC scope cl C X.env).scope.names.lookup x = (scope.names.lookup x).map fun k => if (k == NameKind.free && X.env.scope.kind == .function && X.env.kindOf x == some .cell) = true then NameKind.cell else k := fun x => relabel_get X.env x scope.names
  have loc : ∀ x, locB scope x = true → L2.Loc (compEnvC scope cl C X.env).scope x ∧ ((scope.names.lookup x == some NameKind.cell) = true ∨ (compEnvC scope cl C X.env).scope.names.lookup x = some .local) := fun x h => by
    unfold locB at h
    unfold L2.Loc
    rw [key x]
    split at h
    · rename_i e; rw [e]; exact ⟨.inl rfl, .inr rfl⟩
    · rename_i e; rw [e]; exact ⟨.inr rfl, .inl rfl⟩
    · cases h
  refine ⟨fun x h => ?_, loc, fun x h => by show (compEnvC scope cl C X.env).scope.names.lookup x = _; rw [key x, h]; rfl, fun x h => by show (compEnvC scope cl C X.env).scope.names.lookup x = _; rw [key x, h]; rfl, fun x h => ?_, fun x h => ?_, ok.N, ok.nd, fun h => ⟨(ok.cool h).1, (ok.cool h).2.1.mono (Nat.le_add_right _ _), (ok.cool h).2.2⟩, ok.un, ok.k8, fun a z h => absurd h ((ok.cool hh).2.2 a z), fun u s' ⟨a, B, sI, pins, σ, H, cls, d, _, _, _, _, _, _, _, _, w⟩ => w.elim, (fun _ _ z => nomatch z), (fun z => Bool.noConfusion (hh.symm.trans z)), (fun z => nomatch z), ok.lk⟩
  · have h : visB scope x = true := h
    unfold visB at h
    show L2.Vis (compEnvC scope cl C X.env).scope x
    unfold L2.Vis
    rw [key x]
    split at h
    · rename_i e; rw [e]; exact .inl rfl
    · rename_i e; rw [e]; exact .inr (.inl rfl)
    · rename_i e; rw [e]
      simp only [Option.map_some]
      split
      · exact .inr (.inl rfl)
      · exact .inr (.inr rfl)
    · cases h
  · have h : glB scope x = true := h
    unfold glB at h
    show (compEnvC scope cl C X.env).scope.names.lookup x = _
    rw [key x]
    split at h
    · rename_i e; rw [e]; rfl
    · cases h
  · show (compEnvC scope cl C X.env).scope.names.lookup x = _ ∨ (compEnvC scope cl C X.env).scope.names.lookup x = _
    rw [key x]
    rcases h with h | h
    · rw [show scope.names.lookup x = some .cell from h]; exact .inl rfl
    · rw [show scope.names.lookup x = some .free from h]
      simp only [Option.map_some]
      split
      · exact .inl rfl
      · exact .inr rfl
theorem e_step (n : Nat) (hE : HE ca sb k cf n) (hT : HT' ca sb k cf n) (hI : HI ca sb k cf n) : HE ca sb k cf (n + 1) := by
  intro X c ex W ok e r h
  have E := hE X c ex W ok
  have T := hT X c ex W ok
  unfold cE at h
  split at h
  · rename_i x p
    split at h
    · rename_i i hi
      cases h
      obtain ⟨h1, h2, h3, h4⟩ := slot_of ok hi
      exact s_var h1 h2 h3 h4
    · obtain ⟨d, h1, h2⟩ := Option.map_eq_some_iff.mp h
      subst h2
      obtain ⟨g1, g2, g3⟩ := con_of ok h1
      obtain ⟨u, v, m1, m2, m3⟩ := ok.lk.cs x d g3
      exact s_cst (pe_glob g1 m1 m2 g2) m3
  · cases h; exact s_cst pe_non fun _ => rfl
  · cases h; exact s_cst pe_bl fun _ => rfl
  · cases h; exact s_cst pe_int fun _ => rfl
  · split at h
    · rename_i hz; cases h; exact s_cst pe_str fun _ => ⟨rfl, hz⟩
    · cases h
  · obtain ⟨t, h1, h2⟩ := Option.map_eq_some_iff.mp h
    subst h2
    exact s_tup (listL_ok E h1).1
  · obtain ⟨t, h1, h2⟩ := Option.map_eq_some_iff.mp h
    subst h2
    exact s_lst (listL_ok E h1).1
  · obtain ⟨p, q, h1, h2, rfl⟩ := o2_ok h
    obtain ⟨t, h3, h4⟩ := Option.map_eq_some_iff.mp h1
    subst h4
    exact s_rep (s_lst (listL_ok E h3).1) (opA_ok ok E h2)
  · split at h
    · rename_i o ho
      obtain ⟨p, q, h1, h2, rfl⟩ := o2_ok h
      exact s_bin ho (opA_ok ok E h1) (opA_ok ok E h2)
    · cases h
  · obtain ⟨t, h1, h2⟩ := Option.map_eq_some_iff.mp h
    subst h2
    exact s_neg (opA_ok ok E h1)
  · obtain ⟨t, h1, h2⟩ := Option.map_eq_some_iff.mp h
    subst h2
    exact s_nt (opA_ok ok E h1)
  · exact chain_an E h
  · exact chain_or E h
  · obtain ⟨t, h1, h2⟩ := Option.map_eq_some_iff.mp h
    subst h2
    exact s_cmp' rfl cop_isn (opA_ok ok E h1) (tA_of (s_cst pe_non fun _ => rfl) fun _ z => nomatch z)
  · obtain ⟨t, h1, h2⟩ := Option.map_eq_some_iff.mp h
    subst h2
    exact s_cmp' rfl cop_isnn (opA_ok ok E h1) (tA_of (s_cst pe_non fun _ => rfl) fun _ z => nomatch z)
  · split at h
    · cases h
    · rename_i hs
      split at h
      · rename_i o ho
        obtain ⟨p, q, h1, h2, rfl⟩ := o2_ok h
        exact s_cmp' (isSet_marks (by simpa using hs)) (cop_ok ok.un ho) (opA_ok ok E h1) (opA_ok ok E h2)
      · cases h
  · split at h
    · cases h
    · rename_i hs
      split at h
      · rename_i o p ho hp
        obtain ⟨q1, q2, q3, h1, h2, h3, rfl⟩ := o3_ok h
        exact s_chn (isSet_marks (by simpa using hs)) (cop_ok ok.un ho) (cop_ok ok.un hp) (opA_ok ok E h1) (opA_ok ok E h2) (opA_ok ok E h3)
      · cases h
  · obtain ⟨q1, q2, q3, h1, h2, h3, rfl⟩ := o3_ok h
    exact s_ite (T _ _ h1) (E _ _ h2) (E _ _ h3)
  · obtain ⟨q1, q2, q3, h1, h2, h3, rfl⟩ := o3_ok h
    have bnd : ∀ (o : Option Expr) (q : IE), (match o with
        | none => some (IE.cst .non)
        | some e => cE n c e) = some q → PO X o (tO X.K ex ca W (evE sb cf q)) := fun o q hq => by
      cases o with
      | none => cases hq; exact o_none
      | some e => exact o_some (E _ _ hq)
    exact s_slc (opA_ok ok E h1) (bnd _ _ h2) (bnd _ _ h3)
  · obtain ⟨t, h1, h2⟩ := Option.map_eq_some_iff.mp h
    subst h2
    exact s_rev (opA_ok ok E h1)
  · split at h
    · cases h
    · rename_i hs
      obtain ⟨p, q, h1, h2, rfl⟩ := o2_ok h
      exact s_idx (by simpa using hs) (opA_ok ok E h1) (opA_ok ok E h2)
  · split at h
    · rename_i hc
      simp only [Bool.and_eq_true, beq_iff_eq] at hc
      obtain ⟨hh, rfl⟩ := hc
      split at h
      · rename_i i hi
        cases h
        obtain ⟨h1, h2, h3, h4⟩ := slot_of ok hi
        exact ok.xcd hh _ _ _ _ h1 h2 h3 h4
      · cases h
    · cases h
  · split at h
    · rename_i a i hcl
      split at h
      · rename_i hc
        simp only [Bool.and_eq_true, beq_iff_eq, Bool.not_eq_true'] at hc
        obtain ⟨rfl, hh⟩ := hc
        cases h
        exact ok.clk _ _ hcl hh W X.pn X.xe ok.tk _ _
      · cases h
    · split at h
      · rename_i fi np io hfn
        split at h
        · rename_i hc
          simp only [Bool.and_eq_true, beq_iff_eq, Bool.not_eq_true'] at hc
          obtain ⟨⟨rfl, rfl⟩, hh⟩ := hc
          cases h
          obtain ⟨g1, g2, g3⟩ := fn_of' ok hfn
          obtain ⟨fa, fd, ps, F, m1, m2, m3, m4⟩ := ok.lk.fn _ _ _ _ g3
          have hp : ps = [] := List.length_eq_zero_iff.mp m4
          subst hp
          exact s_call0 F ((ok.cool hh).2.1.mono (Nat.le_add_right _ _)) ok.tk g1 m1 m2 m3 g2
        · cases h
      · cases h
  · split at h
    · rename_i fi np io hfn
      split at h
      · rename_i hc
        simp only [Bool.and_eq_true, beq_iff_eq, Bool.not_eq_true', List.contains_iff_mem] at hc
        obtain ⟨⟨⟨⟨⟨⟨hx, rfl⟩, hio⟩, hl⟩, hh⟩, hL⟩, hps⟩ := hc
        obtain ⟨t, h1, h2⟩ := Option.map_eq_some_iff.mp h
        subst h2
        obtain ⟨g1, g2, g3⟩ := fn_of' ok hfn
        exact s_hof ok hh hl g1 g2 hx g3 hL hps fun X' W' ok' => hE X' _ _ W' ok' _ _ h1
      · cases h
    · cases h
  · split at h
    · rename_i f p r rp a cp pos hc
      unfold rgC at hc
      simp only [Bool.and_eq_true, Bool.or_eq_true, beq_iff_eq, Bool.not_eq_true'] at hc
      obtain ⟨⟨⟨⟨hB, hB2⟩, rfl⟩, hf⟩, hh⟩ := hc
      obtain ⟨g1, g2, g3⟩ := bltIn ok hB2 (by decide)
      obtain ⟨f1, f2, f3⟩ := bltIn ok hB (by rcases hf with rfl | rfl <;> decide)
      split at h
      · cases h
      · rename_i hs
        obtain ⟨t, h1, h2⟩ := Option.map_eq_some_iff.mp h
        subst h2
        exact s_lrg1 (by rcases hf with rfl | rfl <;> rfl) (ok.cool hh).1 f1 f3 g1 g3 (by simpa using hs) (E _ _ h1)
    · exact callC_ok ok E h
  · split at h
    · rename_i f p r rp a b cp pos hc
      unfold rgC at hc
      simp only [Bool.and_eq_true, Bool.or_eq_true, beq_iff_eq, Bool.not_eq_true'] at hc
      obtain ⟨⟨⟨⟨hB, hB2⟩, rfl⟩, hf⟩, hh⟩ := hc
      obtain ⟨g1, g2, g3⟩ := bltIn ok hB2 (by decide)
      obtain ⟨f1, f2, f3⟩ := bltIn ok hB (by rcases hf with rfl | rfl <;> decide)
      split at h
      · cases h
      · rename_i hs
        simp only [Bool.or_eq_true, not_or, Bool.not_eq_true] at hs
        obtain ⟨p1, p2, h1, h2, rfl⟩ := o2_ok h
        exact s_lrg2 (by rcases hf with rfl | rfl <;> rfl) (ok.cool hh).1 f1 f3 g1 g3 hs.1 hs.2 (E _ _ h1) (E _ _ h2)
    · exact callC_ok ok E h
  · exact callC_ok ok E h
  · split at h
    · rename_i hm
      simp only [Bool.and_eq_true, decide_eq_true_eq] at hm
      split at h
      · rename_i i hi
        cases h
        obtain ⟨h1, h2, h3, h4⟩ := slot_of ok hi
        obtain ⟨⟨e1, _⟩, e2⟩ := hm
        subst e1
        exact s_pop h1 h2 h3 h4 e2
      · cases h
    · cases h
  · split at h
    · rename_i hm
      simp only [Bool.and_eq_true, Bool.not_eq_true'] at hm
      obtain ⟨⟨hh, hst⟩, hln⟩ := hm
      split at h
      · rename_i i hi
        obtain ⟨h1, h2, h3, h4⟩ := slot_of ok hi
        split at h
        · rename_i hm
          subst hm
          obtain ⟨a', ha', rfl⟩ := Option.map_eq_some_iff.mp h
          exact s_popat h1 h2 h3 h4 hln hst (E _ _ ha')
        · split at h
          · rename_i hm
            subst hm
            obtain ⟨a', ha', rfl⟩ := Option.map_eq_some_iff.mp h
            exact s_inx (by have := ok.un; omega) h1 h2 h3 h4 hln hst (E _ _ ha')
          · cases h
      · cases h
    · cases h
  · rename_i e t it ifs as scope pos
    split at h
    · cases h
    · rename_i hc
      simp only [Bool.or_eq_true, not_or, Bool.not_eq_true, Bool.not_eq_true', Bool.not_eq_eq_eq_not, Bool.not_true, Bool.not_false] at hc
      obtain ⟨⟨⟨⟨has, hh⟩, hset⟩, hblk⟩, _⟩ := hc
      have has : as = 0 := by simpa using has
      subst has
      split at h
      · rename_i t' q ht hq
        split at h
        · rename_i hto
          obtain ⟨p1, p2, h1, h2, rfl⟩ := o2_ok h
          have hblk : L2.blkC c.N c.sc scope (ownOf c.N scope.names) = true := by simpa using hblk
          have bk := L2.blkOk_by hblk
          have okb := fun (s : Shared) (H : Hp) (C : Addr) (cl : List (Str × Addr)) (fp : List Addr) => blk_ok ok hh (s := s) (H := H) (scope := scope) (C := C) (cl := cl) (fp := fp)
          refine s_comp (own := ownOf c.N scope.names) (ok.cool hh).1 (by rw [ok.N]; exact ok.nd) (hI X c ex W ok _ _ _ _ (fun z => z) h1) (by rw [ok.N]; exact ⟨bk.kind, bk.uniq, bk.ix, fun y hy e => ok.fre _ (bk.free y hy e), bk.own⟩) (fun i hi => ?_)
            (fun s H C cl fp => cTg_ok (okb s H C cl fp) n _ _ ht) (fun s H C cl fp => ?_) (fun s H C cl fp => hE _ _ _ _ (okb s H C cl fp) _ _ h2) (set_iter hset)
          · have := List.all_eq_true.mp hto i hi
            simpa using this
          · split at hq
            · cases hq
              exact ⟨fun pins s σ H Q I ⟨σd, rs, k, e, q⟩ => by cases e; exact pts_nil.run pins s σ H Q I (q H (.refl rs))⟩
            · exact pts_one (hT _ _ _ _ (okb s H C cl fp) _ _ hq)
            · cases hq
        · cases h
      · cases h
  · cases h
theorem t_step (n : Nat) (hE : HE ca sb k cf n) (hT : HT' ca sb k cf n) : HT' ca sb k cf (n + 1) := by
  intro X c ex W ok e r h
  have E := hE X c ex W ok
  have T := hT X c ex W ok
  have tr : ∀ {e : Expr} {r : IE}, (noLv (cE n c e)).map .tr = some r → (∀ whole, isTrue e X.env whole = (do let v ← whole; standAt e.pos; holding [v] (truthy v))) → PT X e (tT X.K ex ca W (evE sb cf r)) := fun {e r} h he => by
    obtain ⟨t, h1, h2⟩ := Option.map_eq_some_iff.mp h
    subst h2
    exact t_tr (tA_of (E _ _ (noLv_ok h1).1) (noLv_ok h1).2) he
  unfold cT at h
  split at h
  · exact (chainT_an T h).pt
  · exact (chainT_or T h).pt
  · obtain ⟨t, h1, h2⟩ := Option.map_eq_some_iff.mp h
    subst h2
    exact t_nt (T _ _ h1)
  · obtain ⟨t, h1, h2⟩ := Option.map_eq_some_iff.mp h
    subst h2
    exact t_cmp' rfl cop_isn (opA_ok ok E h1) (tA_of (s_cst pe_non fun _ => rfl) fun _ z => nomatch z)
  · obtain ⟨t, h1, h2⟩ := Option.map_eq_some_iff.mp h
    subst h2
    exact t_cmp' rfl cop_isnn (opA_ok ok E h1) (tA_of (s_cst pe_non fun _ => rfl) fun _ z => nomatch z)
  · split at h
    · cases h
    · rename_i hs
      split at h
      · rename_i o ho
        obtain ⟨p, q, h1, h2, rfl⟩ := o2_ok h
        exact t_cmp' (isSet_marks (by simpa using hs)) (cop_ok ok.un ho) (opA_ok ok E h1) (opA_ok ok E h2)
      · cases h
  · split at h
    · cases h
    · rename_i hs
      split at h
      · rename_i o p ho hp
        obtain ⟨q1, q2, q3, h1, h2, h3, rfl⟩ := o3_ok h
        exact t_chn (isSet_marks (by simpa using hs)) (cop_ok ok.un ho) (cop_ok ok.un hp) (opA_ok ok E h1) (opA_ok ok E h2) (opA_ok ok E h3)
      · cases h
  · rename_i x p
    obtain ⟨i, h1, h2⟩ := Option.map_eq_some_iff.mp h
    subst h2
    obtain ⟨n1, n2, n3, n4⟩ := slot_of ok h1
    exact t_tr (s_lv n1 n2 n3 n4) fun _ => rfl
  · exact tr h fun _ => rfl
  · exact tr h fun _ => rfl
  · exact tr h fun _ => rfl
  · exact tr h fun _ => rfl
  · cases h
theorem i_step (n : Nat) (hE : HE ca sb k cf n) : HI ca sb k cf (n + 1) := by
  intro X c ex W ok e r tg tt htt h
  have E := hE X c ex W ok
  have sq : ∀ {e r}, cE n c e = some r → PI X tg e (tI X.K ex ca W (evE sb cf r)) := fun h => i_seq (E _ _ h)
  unfold cI at h
  split at h
  · rename_i f p a pos
    split at h
    · rename_i hc
      simp only [Bool.and_eq_true, beq_iff_eq] at hc
      obtain ⟨hB, rfl⟩ := hc
      obtain ⟨g1, g2, g3⟩ := bltIn ok hB (by decide)
      split at h
      · cases h
      · rename_i hs
        obtain ⟨t, h1, h2⟩ := Option.map_eq_some_iff.mp h
        subst h2
        exact i_rng1 g1 g3 (by simpa using hs) (E _ _ h1)
    · split at h
      · rename_i hc
        simp only [Bool.and_eq_true, beq_iff_eq] at hc
        obtain ⟨hB, rfl⟩ := hc
        obtain ⟨g1, g2, g3⟩ := bltIn ok hB (by decide)
        split at h
        · cases h
        · rename_i hs
          simp only [Bool.or_eq_true, not_or, Bool.not_eq_true, Bool.not_eq_true', Bool.not_eq_false] at hs
          obtain ⟨⟨hs1, hs2⟩, hs3⟩ := hs
          obtain ⟨t, h1, h2⟩ := Option.map_eq_some_iff.mp h
          subst h2
          have htg := htt (by simpa using hs3)
          cases tg <;> first | (cases htg; done) | exact i_enm g1 g3 hs1 (E _ _ h1)
      · exact sq h
  · rename_i f p a b pos
    split at h
    · rename_i hc
      simp only [Bool.and_eq_true, beq_iff_eq] at hc
      obtain ⟨hB, rfl⟩ := hc
      obtain ⟨g1, g2, g3⟩ := bltIn ok hB (by decide)
      split at h
      · cases h
      · rename_i hs
        simp only [Bool.or_eq_true, not_or, Bool.not_eq_true] at hs
        obtain ⟨p1, p2, h1, h2, rfl⟩ := o2_ok h
        exact i_rng2 g1 g3 hs.1 hs.2 (E _ _ h1) (E _ _ h2)
    · split at h
      · rename_i hc
        simp only [Bool.and_eq_true, beq_iff_eq] at hc
        obtain ⟨hB, rfl⟩ := hc
        obtain ⟨g1, g2, g3⟩ := bltIn ok hB (by decide)
        split at h
        · cases h
        · rename_i hs
          simp only [Bool.or_eq_true, not_or, Bool.not_eq_true, Bool.not_eq_true', Bool.not_eq_false] at hs
          obtain ⟨⟨⟨hs1, hs2⟩, hs3⟩, hs4⟩ := hs
          obtain ⟨p1, p2, h1, h2, rfl⟩ := o2_ok h
          have htg := htt (by simpa using hs4)
          cases tg <;> first | (cases htg; done) | exact i_zip g1 g3 hs1 hs2 (E _ _ h1) (E _ _ h2)
      · exact sq h
  · exact sq h
theorem sound (n : Nat) : HE ca sb k cf n ∧ HT' ca sb k cf n ∧ HI ca sb k cf n := by
  induction n with
  | zero => exact ⟨fun X c ex W ok e r h => by simp [cE] at h, fun X c ex W ok e r h => by simp [cT] at h, fun X c ex W ok e r tg tt _ h => by simp [cI] at h⟩
  | succ n ih => exact ⟨e_step n ih.1 ih.2.1 ih.2.2, t_step n ih.1 ih.2.1, i_step n ih.1⟩
end
end Rf
/-! R13: statements. -/
namespace Rf
open PySem PySem.Spec PyProof.Rows L2

structure NxS (K : PySem.W.Frag) (ex : ExF) (io : Bool) (σd : Sls) (σ : L2.St) (H : Hp) (σd' : Sls) (σ' : L2.St) (H' : Hp) : Prop where
  nx : Nx K ex σd σ H σd' σ' H'
  z : io = true → σ'[0]? = σ[0]?
/-- what the flow q wishes of the ends -/
def FlP (K : PySem.W.Frag) (ex : ExF) (ca : Nat → Addr) (W : WX) (io : Bool) (D : Ends) (σd : Sls) (σ : L2.St) (H : Hp) : R Fl → Prop
  | .ok .nx σd' => ∀ σ' H', NxS K ex io σd σ H σd' σ' H' → D.nx σ' H'
  | .ok .bk σd' => ∀ σ' H', NxS K ex io σd σ H σd' σ' H' → D.bk σ' H'
  | .ok .ct σd' => ∀ σ' H', NxS K ex io σd σ H σd' σ' H' → D.ct σ' H'
  | .ok (.rt s) σd' => ∀ v σ' H', NxS K ex io σd σ H σd' σ' H' → ValR K (fun a => Own σd σ a ∨ H a = none) H' σd' σ' s v → D.rt v H'
  | .exc x σd' => ∀ d σ' H', NxS K ex io σd σ H σd' σ' H' → XcR K H' x d → W (.ref (ca x.cls)) d σ' H'
  | .bad => False
def tS (K : PySem.W.Frag) (ex : ExF) (ca : Nat → Addr) (W : WX) (io : Bool) (r : Sls → R Fl) : TS := fun D σ H => ∃ σd, RS K ex H σd σ ∧ FlP K ex ca W io D σd σ H (r σd)
section
variable {K : PySem.W.Frag} {ex : ExF} {ca : Nat → Addr} {W : WX} {io : Bool} {Dn : Ends} {σd σd1 : Sls} {σ σ1 : L2.St} {H H1 : Hp} {α : Type}
theorem NxS.refl (r : RS K ex H σd σ) : NxS K ex io σd σ H σd σ H := ⟨.refl r, fun _ => rfl⟩
theorem NxS.trans {σd2 : Sls} {σ2 : L2.St} {H2 : Hp} (a : NxS K ex io σd σ H σd1 σ1 H1) (b : NxS K ex io σd1 σ1 H1 σd2 σ2 H2) : NxS K ex io σd σ H σd2 σ2 H2 := ⟨a.nx.trans b.nx, fun z => (b.z z).trans (a.z z)⟩
theorem NxS.of (n : Nx K ex σd σ H σd1 σ H1) : NxS K ex io σd σ H σd1 σ H1 := ⟨n, fun _ => rfl⟩
theorem FlP.re {q : R Fl} (n : NxS K ex io σd σ H σd1 σ1 H1) (h : FlP K ex ca W io Dn σd σ H q) : FlP K ex ca W io Dn σd1 σ1 H1 q := by
  cases q with
  | bad => exact h
  | exc x s => exact fun d σ' H' n2 c => h d σ' H' (n.trans n2) c
  | ok f s => cases f with
    | nx => exact fun σ' H' n2 => h σ' H' (n.trans n2)
    | bk => exact fun σ' H' n2 => h σ' H' (n.trans n2)
    | ct => exact fun σ' H' n2 => h σ' H' (n.trans n2)
    | rt t => exact fun v σ' H' n2 vr => h v σ' H' (n.trans n2) (by
        cases t with
        | un => exact True.intro
        | im d => exact vr
        | exn x => exact vr
        | clo x => exact vr
        | mu ds =>
          obtain ⟨a, xs, e, h1, f, no, p⟩ := vr
          refine ⟨a, xs, e, h1, f, no, ?_⟩
          rcases p with p | p
          · exact n.nx.own a p
          · refine .inr ?_
            cases q : H a with
            | none => rfl
            | some o => obtain ⟨o', e'⟩ := n.nx.dom a o q; rw [p] at e'; cases e')
theorem FlP.bind {r : R α} {f : α → Sls → R Fl} (h : FlP K ex ca W io Dn σd σ H (r.bind f)) : Res K ex ca W σd σ H r fun a σ1 => FlP K ex ca W io Dn σd σ H (f a σ1) := by
  cases r with
  | ok a s => exact h
  | exc x s => exact fun d H' n c => h d σ H' (.of n) c
  | bad => exact h
/-- the flow passes on, but for going next -/
theorem FlP.nx {q : R Fl} {N : L2.St → Hp → Prop} (h : FlP K ex ca W io Dn σd σ H (q.bind fun f σ1 => (match f with
    | .nx => R.ok .nx σ1
    | f => .ok f σ1))) (w : ∀ σd1 σ1 H1, q = .ok .nx σd1 → NxS K ex io σd σ H σd1 σ1 H1 → N σ1 H1) : FlP K ex ca W io { Dn with nx := N } σd σ H q := by
  cases q with
  | bad => exact h
  | exc x s => exact h
  | ok f s => cases f with
    | nx => exact fun σ' H' n => w s σ' H' rfl n
    | bk => exact h
    | ct => exact h
    | rt t => exact h
theorem wd_fl {σd0 : Sls} {σ0 : L2.St} {H0 : Hp} {s : Sl} {v : V} {F : D → R Fl} (n : Nx K ex σd0 σ0 H0 σd1 σ1 H1) (h : ValR K (fun a => H0 a = none) H1 σd1 σ1 s v) (q : FlP K ex ca W io Dn σd σ H (wd s F)) :
    ∃ p, FlP K ex ca W io Dn σd σ H (F p) ∧ ∀ Q : VK, (∀ H', Nx K ex σd0 σ0 H0 σd1 σ1 H' → Fz K H' p v → Q v H') → FrzQ Q v H1 := by
  cases s with
  | un => exact q.elim
  | im d => exact ⟨d, q, fun Q g => .inl (g H1 n h)⟩
  | mu ds =>
    obtain ⟨a, xs, e, h1, f, no, p⟩ := h
    subst e
    exact ⟨.lst ds, q, fun Q g => .inr ⟨a, xs, h1, fun o => g _ (n.frz h1 no p o) (fz_frz h1 f o)⟩⟩
  | exn x => exact q.elim
  | clo x => exact q.elim
theorem wo_fl {s : Sl} {v : V} {a : IE} {P : Addr → Prop} {F : D → R Fl} (r : RS K ex H1 σd1 σ1) (h : ValA K P H1 σd1 σ1 a s v) (q : FlP K ex ca W io Dn σd σ H (wo a σd1 s F)) : ∃ p, See K H1 p v ∧ FlP K ex ca W io Dn σd σ H (F p) := by
  have base : ∀ {t : Sl}, FlP K ex ca W io Dn σd σ H (wd t F) → ValR K P H1 σd1 σ1 t v → ∃ p, See K H1 p v ∧ FlP K ex ca W io Dn σd σ H (F p) := fun {t} q h => by
    cases t with
    | un => exact q.elim
    | im d => exact ⟨d, Fz.see h, q⟩
    | mu ds =>
      obtain ⟨a, xs, e, h1, f, _⟩ := h
      exact ⟨.lst ds, ⟨a, xs, e, .inl h1, f⟩, q⟩
    | exn x => exact q.elim
    | clo x => exact q.elim
  cases a with
  | lv i =>
    simp only [wo] at q
    cases e : σd1[i]? with
    | none => rw [e] at q; exact q.elim
    | some t =>
      rw [e] at q
      have z := r.at_ i t e
      have h' : σ1[i]? = some (some v) := h
      cases t with
      | un => exact q.elim
      | im d =>
        obtain ⟨w, e1, f⟩ := z
        rw [h'] at e1; cases e1
        exact ⟨d, f.see, q⟩
      | mu ds =>
        obtain ⟨b, xs, e1, h1, f⟩ := z
        rw [h'] at e1; cases e1
        exact ⟨.lst ds, ⟨b, xs, rfl, .inl h1, f⟩, q⟩
      | exn x => exact q.elim
      | clo x => exact q.elim
  | _ => exact base q h
/-- a value is stored in a slot -/
theorem NxS.setv {i : Nat} {s : Sl} {v : V} (n : Nx K ex σd σ H σd1 σ H1) (h : ValR K (fun a => H a = none) H1 σd1 σ s v) (hs : (∃ d, s = .im d) ∨ ∃ ds, s = .mu ds) (hi : io = true → i ≠ 0) : NxS K ex io σd σ H (σd1.set i s) (σ.set i (some v)) H1 := by
  refine ⟨?_, fun z => List.getElem?_set_ne (hi z)⟩
  rcases hs with ⟨d, rfl⟩ | ⟨ds, rfl⟩
  · exact ⟨n.rs.set_im h, n.ext, fun a z => n.own a (own_set_im n.rs z), n.dom⟩
  · obtain ⟨a, xs, rfl, h1, f, no, p⟩ := h
    refine ⟨n.rs.set_mu h1 f no, n.ext, fun b z => ?_, n.dom⟩
    rcases own_set_mu n.rs z with rfl | z
    · exact .inr p
    · exact n.own b z
end
section
variable {X : Cx} {c : CE} {ex : ExF} {W : WX} {ca : Nat → Addr} {io : Bool} {e a b : Expr} {re ra rb : Sls → R Sl} {ie ia ib : IE} {pos : Pos}
theorem asgS_nm {i : Nat} {s : Sl} {σ σ' : Sls} (h : asgS (.nm i) s σ = some σ') : σ' = σ.set i s ∧ ((∃ d, s = .im d) ∨ ∃ ds, s = .mu ds) := by
  cases s <;> simp only [asgS] at h <;> cases h
  · exact ⟨rfl, .inl ⟨_, rfl⟩⟩
  · exact ⟨rfl, .inr ⟨_, rfl⟩⟩
theorem asg_nm_imp {i : Nat} {te : TE} (hi : io = true → i ≠ 0) (ht : ∀ σ H Q, tE X.K ex ca W re σ H Q → te σ H Q) {D : Ends} {σ : L2.St} {H : Hp}
    (h : tS X.K ex ca W io (fun σ => (re σ).bind fun x σ1 => (match asgS (.nm i) x σ1 with
      | some σ2 => .ok .nx σ2
      | none => .bad)) D σ H) : tAsg te (gName i) D σ H := by
  obtain ⟨σd, rs, q⟩ := h
  refine ht σ H _ ⟨σd, rs, (FlP.bind q).imp fun s σ1 q v H1 n v1 => ?_⟩
  cases e1 : asgS (.nm i) s σ1 with
  | none => rw [e1] at q; exact q.elim
  | some σ2 =>
    rw [e1] at q
    obtain ⟨rfl, hs⟩ := asgS_nm e1
    exact q _ _ (.setv n v1 hs hi)
theorem noLc {e : Expr} (h : isLc e = false) {t : Option Expr} {l : Nat} {env : Env} : swapsWith e t l env = pure false := by
  cases e <;> first | rfl | cases h
theorem p_asg {i : Nat} {x : Str} {px : Pos} (hN : X.N.Nodup) (hi : X.N[i]? = some x) (hx : L2.Loc X.env.scope x) (hf : X.fn x = true ∨ X.env.scope.names.lookup x = some .local) (hz : io = true → i ≠ 0) (hl : isLc e = false) (he : PE X e (tE X.K ex ca W re)) :
    PS X (.Assign [.Name x px] e pos) (tS X.K ex ca W io fun σ => (re σ).bind fun x σ1 => (match asgS (.nm i) x σ1 with
      | some σ2 => .ok .nx σ2
      | none => .bad)) :=
  (ps_set hN hi hx he (noLc hl) hf).weak fun D σ H h => asg_nm_imp hz (fun _ _ _ z => z) h
theorem p_asgT {ts : List Expr} {kt : Nat} {pt : Pos} {t : Tg} (hg : PG X (.Tuple ts kt pt) (gD X.K ex t)) (ht : ∀ i, t ≠ .nm i) (hz : io = true → 0 ∉ tgs t) (hl : isLc e = false) (hw : swappedStores [.Tuple ts kt pt] e X.env = pure none) (he : PE X e (tE X.K ex ca W re)) :
    PS X (.Assign [.Tuple ts kt pt] e pos) (tS X.K ex ca W io fun σ => (re σ).bind fun x σ1 => (match asgS t x σ1 with
      | some σ2 => .ok .nx σ2
      | none => .bad)) := by
  refine (ps_asg he hg (by simp only [swapsWithSole]; exact noLc hl) hw).weak fun D σ H ⟨σd, rs, q⟩ => ?_
  refine ⟨σd, rs, (FlP.bind q).imp fun s σ1 q v H1 n v1 => ?_⟩
  cases e1 : asgS t s σ1 with
  | none => rw [e1] at q; exact q.elim
  | some σ2 =>
    rw [e1] at q
    have hd : ∃ d, s = .im d ∧ asgT t d σ1 = some σ2 := by
      cases t with
      | nm i => exact absurd rfl (ht i)
      | nl => cases s <;> simp only [asgS] at e1 <;> first | (cases e1; done) | exact ⟨_, rfl, e1⟩
      | cs t ts => cases s <;> simp only [asgS] at e1 <;> first | (cases e1; done) | exact ⟨_, rfl, e1⟩
    obtain ⟨d, rfl, e2⟩ := hd
    exact ⟨σ1, d, σ2, n.rs, v1, e2, fun σ' rs' ow sm ln => q σ' H1 ⟨⟨rs', n.ext, fun a z => n.own a (ow a z), n.dom⟩, fun z => sm 0 (hz z)⟩⟩
theorem p_par {i j : Nat} {x y : Str} {px py pt : Pos} {kt k2 : Nat} {pt2 : Pos} (hc : X.calm = true) (hN : X.N.Nodup) (hi : X.N[i]? = some x) (hj : X.N[j]? = some y) (hij : i ≠ j) (hx : X.env.scope.names.lookup x = some .local) (hy : X.env.scope.names.lookup y = some .local)
    (hzi : io = true → i ≠ 0) (hzj : io = true → j ≠ 0) (hsa : isStar a = false) (hsb : isStar b = false) (hw : X.env.scope.kind = .function → swappedStores [.Tuple [.Name x px, .Name y py] kt pt] (.Tuple [a, b] k2 pt2) X.env = pure (some [x, y]))
    (ha : PE X a (tE X.K ex ca W ra)) (hb : PE X b (tE X.K ex ca W rb)) :
    PS X (.Assign [.Tuple [.Name x px, .Name y py] kt pt] (.Tuple [a, b] k2 pt2) pos) (tS X.K ex ca W io fun σ => (ra σ).bind fun x σ1 => wd x fun p => (rb σ1).bind fun y σ2 => wd y fun q => .ok .nx ((σ2.set i (.im p)).set j (.im q))) := by
  refine ⟨fun pins s σ H D I h => ?_⟩
  have pa : PA X [a, b] (tCons (fun σ H Q => tE X.K ex ca W ra σ H (FrzQ Q)) (tCons (fun σ H Q => tE X.K ex ca W rb σ H (FrzQ Q)) tNil)) := pa_cons (pe_frz ha) (pa_cons (pe_frz hb) pa_nil (star1 hsb)) (star1 hsa)
  refine (ps_par hc hN hi hj hij hx hy pa (hw I.ok.kind)).run pins s σ H D I ?_
  obtain ⟨σd, rs, q⟩ := h
  refine ⟨σd, rs, (FlP.bind q).imp fun s σ1 q v H1 n1 v1 => ?_⟩
  obtain ⟨p, hp, lock⟩ := wd_fl n1 v1 q
  refine lock _ fun H2 n2 f2 => ⟨σ1, n2.rs, (FlP.bind hp).re n2 fun s2 σ2 q2 w H3 n3 w3 => ?_⟩
  obtain ⟨p2, hp2, lock2⟩ := wd_fl n3 w3 q2
  refine lock2 _ fun H4 n4 f4 => ⟨v, w, rfl, ?_⟩
  have f5 := Keep.fz (n4.keep n2.rs) p v f2
  have n5 := n2.trans n4
  refine hp2 _ _ ⟨⟨(n4.rs.set_im f5).set_im f4, n5.ext, fun a z => n5.own a (own_set_im n4.rs (own_set_im (n4.rs.set_im f5) z)), n5.dom⟩, fun z => ?_⟩
  rw [List.getElem?_set_ne (hzj z), List.getElem?_set_ne (hzi z)]
/-! ### name op= e -/
theorem ip_mul : PIp X .Mult (fun x y H Q => ∃ i j, x = .int i ∧ y = .int j ∧ mulOk i j = true ∧ Q (.int (i * j)) H) := by
  intro pins s σ H x y v u Q I r1 r2 h
  obtain ⟨i, j, e1, e2, hz, q⟩ := h
  subst e1; subst e2
  obtain ⟨t, rfl⟩ := r1
  obtain ⟨t', rfl⟩ := r2
  exact PySem.AutoIntOps.imul_0 (⟨.int _, H, I.tok _, ⟨_, rfl⟩, q⟩) (CMulW.ok (show i.natAbs.log2 + j.natAbs.log2 < 1000000 from of_decide_eq_true hz))
theorem p_aug {i : Nat} {x : Str} {px : Pos} {op : Operator} {o : BOp} (ho : cAug op = some o) (hN : X.N.Nodup) (hi : X.N[i]? = some x) (hx : L2.Loc X.env.scope x) (hf : X.fn x = true ∨ X.env.scope.names.lookup x = some .local) (hz : io = true → i ≠ 0) (he : PE X e (tE X.K ex ca W re)) :
    PS X (.AugAssign (.Name x px) op e pos) (tS X.K ex ca W io fun σ => (match σ[i]? with
    | some (.im (.int a)) => (re σ).bind fun y σ1 => wd y fun q => (match bopD o (.int a) q with
      | some (.im (.int d)) => .ok .nx (σ1.set i (.im (.int d)))
      | _ => .bad)
    | _ => .bad)) := by
  have hp : PIp X op (fun x y H Q => ∃ i j d, x = .int i ∧ y = .int j ∧ bopD o (.int i) (.int j) = some (.im (.int d)) ∧ Q (.int d) H) := by
    intro pins s σ H x y v u Q I r1 r2 ⟨i, j, d, e1, e2, hb, q⟩
    cases op <;> simp only [cAug] at ho <;> cases ho
    · simp only [bopD] at hb
      cases hb
      exact ip_add pins s σ H x y v u Q I r1 r2 ⟨i, j, e1, e2, q⟩
    · simp only [bopD] at hb
      cases hb
      exact ip_sub pins s σ H x y v u Q I r1 r2 ⟨i, j, e1, e2, q⟩
    · simp only [bopD] at hb
      split at hb
      · rename_i hm
        cases hb
        exact ip_mul pins s σ H x y v u Q I r1 r2 ⟨i, j, e1, e2, hm, q⟩
      · cases hb
  refine (ps_aug hN hi hx he hp hf).weak fun D σ H ⟨σd, rs, q⟩ => ?_
  dsimp only at q
  cases e0 : σd[i]? with
  | none => rw [e0] at q; exact q.elim
  | some s0 => cases s0 with
    | un => rw [e0] at q; exact q.elim
    | mu d => rw [e0] at q; exact q.elim
    | exn x => rw [e0] at q; exact q.elim
    | clo x => rw [e0] at q; exact q.elim
    | im d => cases d with
      | int k =>
        rw [e0] at q
        obtain ⟨x0, e1, f0⟩ := rs.at_ i _ e0
        cases f0
        refine ⟨_, e1, σd, rs, (FlP.bind q).imp fun s σ1 q v H1 n1 v1 => ?_⟩
        cases s with
        | im d => cases d with
          | int j =>
            cases v1
            have q : FlP X.K ex ca W io D σd σ H (match bopD o (.int k) (.int j) with
              | some (.im (.int d)) => R.ok .nx (σ1.set i (.im (.int d)))
              | _ => .bad) := q
            split at q
            · rename_i d hd
              exact ⟨k, j, d, rfl, rfl, hd, q _ _ (.setv n1 (show Fz X.K H1 (.int d) _ from rfl) (.inl ⟨_, rfl⟩) hz)⟩
            · exact q.elim
          | _ =>
            exfalso
            have q : FlP X.K ex ca W io D σd σ H (match bopD o (.int k) _ with
              | some (.im (.int d)) => R.ok .nx (σ1.set i (.im (.int d)))
              | _ => .bad) := q
            cases op <;> simp only [cAug] at ho <;> cases ho <;> exact q.elim
        | mu ds =>
          exfalso
          have q : FlP X.K ex ca W io D σd σ H (match bopD o (.int k) (.lst ds) with
            | some (.im (.int d)) => R.ok .nx (σ1.set i (.im (.int d)))
            | _ => .bad) := q
          cases op <;> simp only [cAug] at ho <;> cases ho <;> exact q.elim
        | _ => exact q.elim
      | _ => rw [e0] at q; exact q.elim
end
end Rf
/-! R14: further statements. -/
namespace Rf
open PySem PySem.Spec PyProof.Rows L2
section
variable {X : Cx} {c : CE} {ex : ExF} {W : WX} {ca : Nat → Addr} {io : Bool} {e a b : Expr} {re ra rb rc : Sls → R Sl} {ie ia ib : IE} {pos : Pos} {sa sb : Sls → R Fl}
theorem p_setLc {i : Nat} {y : Str} {py : Pos} {elt tg iter : Expr} {ifs : List Expr} {scope : Scope} {own : List (Str × Nat)} {t : Tg} {spos : Pos} {ri rq re : Sls → R Sl} (hc : X.calm = true) (hN : X.N.Nodup) (hy : X.N[i]? = some y) (hyl : X.env.scope.names.lookup y = some .local)
    (hz : io = true → i ≠ 0) (hsw : X.env.scope.kind = .function → swapsWith (.ListComp elt [⟨tg, iter, ifs, 0⟩] scope pos) (some (.Name y py)) spos.line X.env = pure true) (hi : PI X tg iter (tI X.K ex ca W ri)) (ok : BlkOk X.N X.env.scope scope own) (hto : ∀ i ∈ tgs t, i ∈ own.map (·.2))
    (hg : ∀ (s : Shared) (H : Hp) (C : Addr) (cl : List (Str × Addr)) (fp : List Addr), PG (X.blk s H scope (compEnvC scope cl C X.env) fp) tg (gD X.K ex t)) (ht : ∀ (s : Shared) (H : Hp) (C : Addr) (cl : List (Str × Addr)) (fp : List Addr), PTs (X.blk s H scope (compEnvC scope cl C X.env) fp) ifs (tT X.K ex ca WF rq))
    (he : ∀ (s : Shared) (H : Hp) (C : Addr) (cl : List (Str × Addr)) (fp : List Addr), PE (X.blk s H scope (compEnvC scope cl C X.env) fp) elt (tE X.K ex ca WF re)) (hs : ∀ x, foldedSetIterable iter X.env x = pure x) :
    PS X (.Assign [.Name y py] (.ListComp elt [⟨tg, iter, ifs, 0⟩] scope pos) spos) (tS X.K ex ca W io fun σ => ((ri σ).bind fun x σ1 => wd x fun p => (match p.its? with
      | some ds => (compF (own.map (·.2)) t rq re ds σ1).bind fun ys σ2 => if ys.length ≤ sizeLine then .ok (.mu ys) σ2 else .bad
      | none => .bad)).bind fun x σ1 => (match asgS (.nm i) x σ1 with
      | some σ2 => .ok .nx σ2
      | none => .bad)) :=
  ⟨fun pins s σ H D I h => (ps_setLc hc hN hy hyl (hsw I.ok.kind) hi ok hg ht (fun s H C cl fp => pe_frz (he s H C cl fp)) hs).run pins s σ H D I (asg_nm_imp hz (comp_imp hto) h)⟩
theorem p_six {i : Nat} {x : Str} {px psub : Pos} {ix : Expr} {rix : Sls → R Sl} {iix : IE} (hN : X.N[i]? = some x) (hv : L2.Vis X.env.scope x) (hd : (x == ("__debug__" : Str)) = false) (hcd : (x == ("__classdict__" : Str)) = false) (hl : isLc e = false) (hs : isSlice ix = false)
    (hi : PE X ix (tA X.K ex ca W iix rix)) (he : PE X e (tE X.K ex ca W re)) :
    PS X (.Assign [.Subscript (.Name x px) ix psub] e pos) (tS X.K ex ca W io fun σ => (re σ).bind fun y σ1 => wd y fun q => (match σ1[i]? with
    | some (.mu _) => (rix σ1).bind fun z σ2 => wo iix σ2 z fun p => (match σ2[i]?, p with
      | some (.mu ds), .int k => (match L2.ixN ds.length k with
        | some n => .ok .nx (σ2.set i (.mu (ds.set n q)))
        | none => .bad)
      | _, _ => .bad)
    | _ => .bad)) := by
  refine (ps_asg (pe_frz he) (pg_sub (pe_var hN hv hd hcd) hi set_list (fun v => by cases ix <;> first | rfl | cases hs)) (by simp only [swapsWithSole]; exact noLc hl) (by cases e <;> rfl) rfl).weak fun D σ H ⟨σd, rs, q⟩ => ?_
  refine ⟨σd, rs, (FlP.bind q).imp fun s σ1 q v H1 n1 v1 => ?_⟩
  obtain ⟨p, hp, lock⟩ := wd_fl n1 v1 q
  refine lock _ fun H2 n2 f2 => ?_
  show ∃ o, σ[i]? = some (some o) ∧ _
  cases e0 : σ1[i]? with
  | none => rw [e0] at hp; exact hp.elim
  | some s0 => cases s0 with
    | un => rw [e0] at hp; exact hp.elim
    | im d => rw [e0] at hp; exact hp.elim
    | exn x => rw [e0] at hp; exact hp.elim
    | clo x => rw [e0] at hp; exact hp.elim
    | mu ds0 =>
      rw [e0] at hp
      obtain ⟨a0, xs0, ea, _, _⟩ := n2.rs.at_ i _ e0
      refine ⟨_, ea, σ1, n2.rs, (FlP.bind hp).re n2 fun z σ2 q3 w H3 n3 w3 => ?_⟩
      obtain ⟨p2, sp2, q4⟩ := wo_fl n3.rs w3 q3
      cases e1 : σ2[i]? with
      | none => rw [e1] at q4; exact q4.elim
      | some s1 => cases s1 with
        | un => rw [e1] at q4; exact q4.elim
        | im d => rw [e1] at q4; exact q4.elim
        | exn x => rw [e1] at q4; exact q4.elim
        | clo x => rw [e1] at q4; exact q4.elim
        | mu ds =>
          rw [e1] at q4
          cases p2 with
          | int k =>
            dsimp only at q4
            cases e2 : ixN ds.length k with
            | none => rw [e2] at q4; exact q4.elim
            | some n =>
              rw [e2] at q4
              obtain ⟨a1, xs1, ea1, h1, f1⟩ := n3.rs.at_ i _ e1
              rw [ea] at ea1
              cases ea1
              cases sp2
              refine ⟨a0, xs1, k, n, rfl, rfl, h1, by rw [f1.length]; exact e2, q4 _ _ ?_⟩
              have hf : ∀ b o, H3 b = some o → b ≠ a0 → (upd H3 a0 (.lst (xs1.set n v))) b = some o := fun b o h hb => by rw [upd_ne hb]; exact h
              have keep := (keep_but n3.rs e1 ea hf).keep
              have n4 := n2.trans n3
              exact .of (n4.trans (Nx.upd_own n3.rs e1 ea hf upd_same ((keep.fzL ds xs1 f1).set (keep.fz p v (Keep.fz (n3.keep n2.rs) p v f2)) n)))
          | _ => exact q4.elim
theorem p_app {i : Nat} {y : Str} {py apos cpos : Pos} (hN : X.N[i]? = some y) (hv : L2.Vis X.env.scope y) (hyd : (y == ("__debug__" : Str)) = false) (hyc : (y == ("__classdict__" : Str)) = false) (hl : (apos.endLine == cpos.line) = true) (hs : isStar e = false) (he : PE X e (tE X.K ex ca W re)) :
    PS X (.Expr (.Call (.Attribute (.Name y py) "append" apos) [e] [] cpos) pos) (tS X.K ex ca W io fun σ => (match σ[i]? with
    | some (.mu _) => (re σ).bind fun y σ1 => wd y fun q => (match σ1[i]? with
      | some (.mu ds) => if ds.length < sizeLine then .ok .nx (σ1.set i (.mu (ds ++ [q]))) else .bad
      | _ => .bad)
    | _ => .bad)) := by
  refine (ps_expr (pe_bm PySem.F.plainAttrs_list PySem.F.slot_list_append PySem.F.type_list_append mt_append (pe_var hN hv hyd hyc) (pa_cons (pe_frz he) pa_nil (star1 hs)) rfl (by rw [star1 hs]; rfl) hl (star1 hs) rfl) rfl).weak fun D σ H ⟨σd, rs, q⟩ => ?_
  dsimp only at q
  cases e0 : σd[i]? with
  | none => rw [e0] at q; exact q.elim
  | some s0 => cases s0 with
    | un => rw [e0] at q; exact q.elim
    | im d => rw [e0] at q; exact q.elim
    | exn x => rw [e0] at q; exact q.elim
    | clo x => rw [e0] at q; exact q.elim
    | mu ds =>
      rw [e0] at q
      obtain ⟨a0, xs0, ea, h0, f0⟩ := rs.at_ i _ e0
      refine ⟨.ref a0, ea, .inl ⟨rfl, xs0, .inl (.inl h0)⟩, σd, rs, (FlP.bind q).imp fun s σ1 q v H1 n1 v1 => ?_⟩
      obtain ⟨p, hp, lock⟩ := wd_fl n1 v1 q
      refine lock _ fun H2 n2 f2 => ?_
      cases e1 : σ1[i]? with
      | none => rw [e1] at hp; exact hp.elim
      | some s1 => cases s1 with
        | un => rw [e1] at hp; exact hp.elim
        | im d => rw [e1] at hp; exact hp.elim
        | exn x => rw [e1] at hp; exact hp.elim
        | clo x => rw [e1] at hp; exact hp.elim
        | mu es =>
          rw [e1] at hp
          have hp : FlP X.K ex ca W io D σd σ H (if es.length < sizeLine then R.ok .nx (σ1.set i (.mu (es ++ [p]))) else .bad) := hp
          split at hp
          · rename_i hz
            obtain ⟨a1, xs1, ea1, h1, f1⟩ := n2.rs.at_ i _ e1
            rw [ea] at ea1
            cases ea1
            refine ⟨a0, xs1, v, rfl, rfl, h1, by rw [f1.length]; exact hz, hp _ _ ?_⟩
            have hf : ∀ b o, H2 b = some o → b ≠ a0 → (upd H2 a0 (.lst (xs1 ++ [v]))) b = some o := fun b o h hb => by rw [upd_ne hb]; exact h
            have keep := (keep_but n2.rs e1 ea hf).keep
            exact .of (n2.trans (Nx.upd_own n2.rs e1 ea hf upd_same ((keep.fzL es xs1 f1).append (FzL.one (keep.fz p v f2)))))
          · exact hp.elim
theorem p_ext {i : Nat} {y : Str} {py apos cpos : Pos} (hN : X.N[i]? = some y) (hv : L2.Vis X.env.scope y) (hyd : (y == ("__debug__" : Str)) = false) (hyc : (y == ("__classdict__" : Str)) = false) (hl : (apos.endLine == cpos.line) = true) (hs : isStar e = false) (he : PE X e (tE X.K ex ca W re)) :
    PS X (.Expr (.Call (.Attribute (.Name y py) "extend" apos) [e] [] cpos) pos) (tS X.K ex ca W io fun σ => (match σ[i]? with
    | some (.mu _) => (re σ).bind fun y σ1 => (match y, σ1[i]? with
      | .mu es, some (.mu ds) => if ds.length + es.length ≤ sizeLine then .ok .nx (σ1.set i (.mu (ds ++ es))) else .bad
      | _, _ => .bad)
    | _ => .bad)) := by
  refine (ps_expr (pe_bm PySem.F.plainAttrs_list PySem.F.slot_list_extend PySem.F.type_list_extend mt_extend (pe_var hN hv hyd hyc) (pa_cons he pa_nil (star1 hs)) rfl (by rw [star1 hs]; rfl) hl (star1 hs) rfl) rfl).weak fun D σ H ⟨σd, rs, q⟩ => ?_
  dsimp only at q
  cases e0 : σd[i]? with
  | none => rw [e0] at q; exact q.elim
  | some s0 => cases s0 with
    | un => rw [e0] at q; exact q.elim
    | im d => rw [e0] at q; exact q.elim
    | exn x => rw [e0] at q; exact q.elim
    | clo x => rw [e0] at q; exact q.elim
    | mu ds =>
      rw [e0] at q
      obtain ⟨a0, xs0, ea, h0, f0⟩ := rs.at_ i _ e0
      refine ⟨.ref a0, ea, .inl ⟨rfl, xs0, .inl (.inl h0)⟩, σd, rs, (FlP.bind q).imp fun s σ1 hp v H1 n1 v1 => ?_⟩
      cases s with
      | un => exact hp.elim
      | im d => exact hp.elim
      | exn x => exact hp.elim
      | clo x => exact hp.elim
      | mu es =>
        obtain ⟨b, zs, rfl, hb, fb, no, _⟩ := v1
        cases e1 : σ1[i]? with
        | none => rw [e1] at hp; exact hp.elim
        | some s1 => cases s1 with
          | un => rw [e1] at hp; exact hp.elim
          | im d => rw [e1] at hp; exact hp.elim
          | exn x => rw [e1] at hp; exact hp.elim
          | clo x => rw [e1] at hp; exact hp.elim
          | mu ds1 =>
            rw [e1] at hp
            have hp : FlP X.K ex ca W io D σd σ H (if ds1.length + es.length ≤ sizeLine then R.ok .nx (σ1.set i (.mu (ds1 ++ es))) else .bad) := hp
            split at hp
            · rename_i hz
              obtain ⟨a1, xs1, ea1, h1, f1⟩ := n1.rs.at_ i _ e1
              rw [ea] at ea1
              cases ea1
              refine ⟨a0, b, xs1, zs, rfl, rfl, h1, hb, by rw [f1.length, fb.length]; exact hz, hp _ _ ?_⟩
              have hf : ∀ c o, H1 c = some o → c ≠ a0 → (upd H1 a0 (.lst (xs1 ++ zs))) c = some o := fun c o h hc => by rw [upd_ne hc]; exact h
              have keep := (keep_but n1.rs e1 ea hf).keep
              exact .of (n1.trans (Nx.upd_own n1.rs e1 ea hf upd_same ((keep.fzL ds1 xs1 f1).append (keep.fzL es zs fb))))
            · exact hp.elim
theorem get_list : PGet X (rIxL X.K) := by
  intro pins s σ H o i ov iv Q I ro ri h
  obtain ⟨p, xs, k, z, rfl, rfl, hq, he, q⟩ := h
  cases ro
  obtain ⟨t, rfl⟩ := ri
  obtain ⟨its, r, pl, hz⟩ := I.list hq
  obtain ⟨j, h1, h2, h3, h4, h5⟩ := atI_get he
  obtain ⟨w, ew, rw'⟩ := r.get h2
  have hl := r.length
  have hn := line63
  have fin : EP X pins σ Q w s := ⟨z, H, I, rw', q⟩
  by_cases h0 : 0 ≤ k
  · have hj : k.toNat = j := by
      rw [seqIndex_of h0 h5] at h1
      exact Option.some.inj h1
    exact PySem.wpAny_getItem_list pl.isList h0 (by omega) (by rw [hj]; simpa using ew) fin
  · have hj : (k + (its.toArray.size : Int)).toNat = j := by
      rw [seqIndex_neg (by omega) h4] at h1
      rw [List.size_toArray, ← hl]
      exact Option.some.inj h1
    exact PySem.wpAny_getItem_list_neg pl.isList (by omega) (by rw [List.size_toArray] <;> omega) (by omega) (by rw [hj]; simpa using ew) fin
theorem p_ags {i : Nat} {x : Str} {px psub : Pos} {ix : Expr} {rix : Sls → R Sl} {iix : IE} {op : Operator} {o : BOp} (ho : cAug op = some o) (hN : X.N[i]? = some x) (hv : L2.Vis X.env.scope x) (hd : (x == ("__debug__" : Str)) = false) (hcd : (x == ("__classdict__" : Str)) = false) (hs : isSlice ix = false)
    (hi : PE X ix (tA X.K ex ca W iix rix)) (he : PE X e (tE X.K ex ca W re)) :
    PS X (.AugAssign (.Subscript (.Name x px) ix psub) op e pos) (tS X.K ex ca W io fun σ => (match σ[i]? with
    | some (.mu _) => (rix σ).bind fun z σ1 => wo iix σ1 z fun p => (match σ1[i]?, p with
      | some (.mu ds), .int k => (match L2.ixN ds.length k with
        | some n => (match ds[n]? with
          | some (.int x) => (re σ1).bind fun y σ2 => wd y fun q => (match bopD o (.int x) q, σ2[i]? with
            | some (.im (.int d)), some (.mu ds2) => if ds2.length = ds.length then .ok .nx (σ2.set i (.mu (ds2.set n (.int d)))) else .bad
            | _, _ => .bad)
          | _ => .bad)
        | none => .bad)
      | _, _ => .bad)
    | _ => .bad)) := by
  have hp : PIp X op (fun x y H Q => ∃ i j d, x = .int i ∧ y = .int j ∧ bopD o (.int i) (.int j) = some (.im (.int d)) ∧ Q (.int d) H) := by
    intro pins s σ H x y v u Q I r1 r2 ⟨i, j, d, e1, e2, hb, q⟩
    cases op <;> simp only [cAug] at ho <;> cases ho
    · simp only [bopD] at hb
      cases hb
      exact ip_add pins s σ H x y v u Q I r1 r2 ⟨i, j, e1, e2, q⟩
    · simp only [bopD] at hb
      cases hb
      exact ip_sub pins s σ H x y v u Q I r1 r2 ⟨i, j, e1, e2, q⟩
    · simp only [bopD] at hb
      split at hb
      · rename_i hm
        cases hb
        exact ip_mul pins s σ H x y v u Q I r1 r2 ⟨i, j, e1, e2, hm, q⟩
      · cases hb
  refine (ps_augS (pe_var hN hv hd hcd) hi get_list he hp set_list (fun ov iv new => by cases ix <;> first | rfl | cases hs)).weak fun D σ H ⟨σd, rs, q⟩ => ?_
  dsimp only at q
  cases e0 : σd[i]? with
  | none => rw [e0] at q; exact q.elim
  | some s0 => cases s0 with
    | un => rw [e0] at q; exact q.elim
    | im d => rw [e0] at q; exact q.elim
    | exn x => rw [e0] at q; exact q.elim
    | clo x => rw [e0] at q; exact q.elim
    | mu ds0 =>
      rw [e0] at q
      obtain ⟨a0, xs0, ea, _, _⟩ := rs.at_ i _ e0
      refine ⟨_, ea, σd, rs, (FlP.bind q).imp fun z σ1 q3 w H1 n1 w1 => ?_⟩
      obtain ⟨p2, sp2, q4⟩ := wo_fl n1.rs w1 q3
      cases e1 : σ1[i]? with
      | none => rw [e1] at q4; exact q4.elim
      | some s1 => cases s1 with
        | un => rw [e1] at q4; exact q4.elim
        | im d => rw [e1] at q4; exact q4.elim
        | exn x => rw [e1] at q4; exact q4.elim
        | clo x => rw [e1] at q4; exact q4.elim
        | mu ds =>
          rw [e1] at q4
          cases p2 with
          | int k =>
            dsimp only at q4
            cases e2 : ixN ds.length k with
            | none => rw [e2] at q4; exact q4.elim
            | some n =>
              rw [e2] at q4
              dsimp only at q4
              cases e3 : ds[n]? with
              | none => rw [e3] at q4; exact q4.elim
              | some dx => cases dx with
                | int c =>
                  rw [e3] at q4
                  obtain ⟨a1, xs1, ea1, h1, f1⟩ := n1.rs.at_ i _ e1
                  rw [ea] at ea1
                  cases ea1
                  cases sp2
                  obtain ⟨x', hx', fx⟩ := f1.get e3
                  cases fx
                  refine ⟨a0, xs1, k, .int c, rfl, rfl, .inl (.inl h1), by unfold atI; rw [f1.length, e2]; exact hx', σ1, n1.rs, (FlP.bind q4).re n1 fun s σ2 q5 v H2 n2 v2 => ?_⟩
                  cases s with
                  | im d => cases d with
                    | int j =>
                      cases v2
                      have q5 : FlP X.K ex ca W io D σd σ H (match bopD o (.int c) (.int j), σ2[i]? with
                        | some (.im (.int d)), some (.mu ds2) => if ds2.length = ds.length then R.ok .nx (σ2.set i (.mu (ds2.set n (.int d)))) else .bad
                        | _, _ => .bad) := q5
                      split at q5
                      · rename_i d ds2 hb e4
                        split at q5
                        · rename_i hlen
                          obtain ⟨a2, xs2, ea2, h2, f2⟩ := n2.rs.at_ i _ e4
                          rw [ea] at ea2
                          cases ea2
                          refine ⟨c, j, d, rfl, rfl, hb, a0, xs2, k, n, rfl, rfl, h2, by rw [f2.length, hlen]; exact e2, q5 _ _ ?_⟩
                          have hf : ∀ b o, H2 b = some o → b ≠ a0 → (upd H2 a0 (.lst (xs2.set n (.int d)))) b = some o := fun b o h hb => by rw [upd_ne hb]; exact h
                          have keep := (keep_but n2.rs e4 ea hf).keep
                          exact .of ((n1.trans n2).trans (Nx.upd_own n2.rs e4 ea hf upd_same ((keep.fzL ds2 xs2 f2).set (show Fz X.K _ (.int d) (.int d) from rfl) n)))
                        · exact q5.elim
                      · exact q5.elim
                    | _ =>
                      exfalso
                      have q5 : FlP X.K ex ca W io D σd σ H (match bopD o (.int c) _, σ2[i]? with
                        | some (.im (.int d)), some (.mu ds2) => if ds2.length = ds.length then R.ok .nx (σ2.set i (.mu (ds2.set n (.int d)))) else .bad
                        | _, _ => .bad) := q5
                      cases op <;> simp only [cAug] at ho <;> cases ho <;> exact q5.elim
                  | mu es =>
                    exfalso
                    have q5 : FlP X.K ex ca W io D σd σ H (match bopD o (.int c) (.lst es), σ2[i]? with
                      | some (.im (.int d)), some (.mu ds2) => if ds2.length = ds.length then R.ok .nx (σ2.set i (.mu (ds2.set n (.int d)))) else .bad
                      | _, _ => .bad) := q5
                    cases op <;> simp only [cAug] at ho <;> cases ho <;> exact q5.elim
                  | _ => exact q5.elim
                | _ => rw [e3] at q4; exact q4.elim
          | _ => exact q4.elim
theorem p_exp (hl : isLc e = false) (he : PE X e (tE X.K ex ca W re)) : PS X (.Expr e pos) (tS X.K ex ca W io fun σ => (re σ).bind fun _ σ1 => .ok .nx σ1) :=
  (ps_expr he (noLc hl)).weak fun D σ H ⟨σd, rs, q⟩ => ⟨σd, rs, (FlP.bind q).imp fun s σ1 q v H1 n1 v1 => q _ _ (.of n1)⟩
theorem p_ret (he : PE X e (tE X.K ex ca W re)) : PS X (.Return (some e) pos) (tS X.K ex ca W io fun σ => (re σ).bind fun x σ1 => .ok (.rt x) σ1) :=
  (ps_ret he).weak fun D σ H ⟨σd, rs, q⟩ => ⟨σd, rs, (FlP.bind q).imp fun s σ1 q v H1 n1 v1 => q v σ H1 (.of n1) (by
    cases s with
    | un => exact True.intro
    | im d => exact v1
    | exn x => exact v1
    | clo x => exact v1
    | mu ds =>
      obtain ⟨a, xs, e, h1, f, no, p⟩ := v1
      exact ⟨a, xs, e, h1, f, no, .inr p⟩)⟩
theorem p_rtv {i : Nat} {y : Str} {py : Pos} (hN : X.N[i]? = some y) (hv : L2.Vis X.env.scope y) (hyd : (y == ("__debug__" : Str)) = false) (hyc : (y == ("__classdict__" : Str)) = false) :
    PS X (.Return (some (.Name y py)) pos) (tS X.K ex ca W io fun σ => (match σ[i]? with
    | some (.im d) => .ok (.rt (.im d)) σ
    | some (.mu ds) => .ok (.rt (.mu ds)) (σ.set i .un)
    | _ => .bad)) := by
  refine (ps_ret (pe_var hN hv hyd hyc)).weak fun D σ H ⟨σd, rs, q⟩ => ?_
  dsimp only at q
  cases e0 : σd[i]? with
  | none => rw [e0] at q; exact q.elim
  | some s0 => cases s0 with
    | un => rw [e0] at q; exact q.elim
    | exn x => rw [e0] at q; exact q.elim
    | clo x => rw [e0] at q; exact q.elim
    | im d =>
      rw [e0] at q
      obtain ⟨v, e1, f⟩ := rs.at_ i _ e0
      exact ⟨v, e1, q v σ H (.refl rs) f⟩
    | mu ds =>
      rw [e0] at q
      obtain ⟨a, xs, e1, h1, f⟩ := rs.at_ i _ e0
      have hlt : i < σd.length := (List.getElem?_eq_some_iff.mp e0).1
      refine ⟨_, e1, q _ σ H (.of ⟨⟨by rw [List.length_set]; exact rs.len, fun j s hj => ?_, fun j k ds' es' b h2 h3 h4 h5 => ?_, rs.tab⟩, fun _ _ h _ _ => h, fun b z => ?_, fun b o h => ⟨o, h⟩⟩) ⟨a, xs, rfl, h1, f, fun z => ?_, .inl ⟨i, ds, e0, e1⟩⟩⟩
      · by_cases hij : i = j
        · subst hij; rw [List.getElem?_set_self hlt] at hj; cases hj; exact True.intro
        · rw [List.getElem?_set_ne hij] at hj; exact rs.at_ j s hj
      · by_cases hij : i = j
        · subst hij; rw [List.getElem?_set_self hlt] at h2; cases h2
        · by_cases hik : i = k
          · subst hik; rw [List.getElem?_set_self hlt] at h3; cases h3
          · rw [List.getElem?_set_ne hij] at h2
            rw [List.getElem?_set_ne hik] at h3
            exact rs.inj j k ds' es' b h2 h3 h4 h5
      · rcases own_set z with ⟨_, h, _⟩ | z
        · cases h
        · exact .inl z
      · obtain ⟨j, es, h2, h3⟩ := z
        by_cases hij : i = j
        · subst hij; rw [List.getElem?_set_self hlt] at h2; cases h2
        · rw [List.getElem?_set_ne hij] at h2
          exact hij (rs.inj i j ds es a e0 h2 e1 h3)
theorem p_retN : PS X (.Return none pos) (tS X.K ex ca W io fun σ => .ok (.rt (.im .non)) σ) :=
  ps_retN.weak fun D σ H ⟨σd, rs, q⟩ => q .non σ H (.refl rs) rfl
theorem p_skip : PS X (.Pass pos) (tS X.K ex ca W io fun σ => .ok .nx σ) := ps_pass.weak fun D σ H ⟨σd, rs, q⟩ => q σ H (.refl rs)
theorem p_brk : PS X (.Break pos) (tS X.K ex ca W io fun σ => .ok .bk σ) := ps_break.weak fun D σ H ⟨σd, rs, q⟩ => q σ H (.refl rs)
theorem p_cnt : PS X (.Continue pos) (tS X.K ex ca W io fun σ => .ok .ct σ) := ps_continue.weak fun D σ H ⟨σd, rs, q⟩ => q σ H (.refl rs)
theorem ss_nil : PSs X [] (tS X.K ex ca W io fun σ => .ok .nx σ) := pss_nil.weak fun D σ H ⟨σd, rs, q⟩ => q σ H (.refl rs)
theorem ss_cons {st : Stmt} {rest : List Stmt} (h1 : PS X st (tS X.K ex ca W io sa)) (h2 : PSs X rest (tS X.K ex ca W io sb)) : PSs X (st :: rest) (tS X.K ex ca W io fun σ => (sa σ).bind fun f σ1 => (match f with
    | .nx => sb σ1
    | f => .ok f σ1)) := by
  refine (pss_cons h1 h2).weak fun D σ H ⟨σd, rs, q⟩ => ⟨σd, rs, ?_⟩
  dsimp only at q
  cases e : sa σd with
  | bad => rw [e] at q; exact q
  | exc x s => rw [e] at q; exact q
  | ok f s =>
    rw [e] at q
    cases f with
    | nx => exact fun σ' H' n => ⟨s, n.nx.rs, FlP.re n q⟩
    | bk => exact q
    | ct => exact q
    | rt t => exact q
theorem p_if {c : Expr} {p q : List Stmt} (hc : PT X c (tT X.K ex ca W rc)) (ha : PSs X p (tS X.K ex ca W io sa)) (hb : PSs X q (tS X.K ex ca W io sb)) : PS X (.If c p q pos) (tS X.K ex ca W io fun σ => (rc σ).bind fun x σ1 => (match x with
    | .im (.bl true) => sa σ1
    | .im (.bl false) => sb σ1
    | _ => .bad)) := by
  refine (ps_if hc ha hb).weak fun D σ H ⟨σd, rs, q⟩ => ⟨σd, rs, (FlP.bind q).imp fun s σ1 q => ?_⟩
  cases s with
  | im d => cases d with
    | bl k => cases k with
      | true => exact ⟨true, rfl, fun H' n => ⟨σ1, n.rs, FlP.re (.of n) q⟩⟩
      | false => exact ⟨false, rfl, fun H' n => ⟨σ1, n.rs, FlP.re (.of n) q⟩⟩
    | _ => exact q.elim
  | _ => exact q.elim
theorem p_whl {c : Expr} {body : List Stmt} {F : Nat} (hp : PassesOwn (model X.prog X.w) X.A X.env X.xe) (hc : PT X c (tT X.K ex ca W rc)) (hb : PSs X body (tS X.K ex ca W io sb)) : PS X (.While c body [] pos) (tS X.K ex ca W io fun σ => whlF rc sb F σ) := by
  refine (ps_while hp hc hb).weak fun D σ H ⟨σd, rs, q⟩ => ?_
  refine ⟨fun m σ' H' => ∃ σd', NxS X.K ex io σd σ H σd' σ' H' ∧ FlP X.K ex ca W io D σd σ H (whlF rc sb m σd'), ⟨F, σd, .refl rs, q⟩, ?_⟩
  rintro m σ' H' ⟨σd', n, q⟩
  cases m with
  | zero => exact q.elim
  | succ m =>
    unfold whlF at q
    refine ⟨σd', n.nx.rs, ?_⟩
    cases e : rc σd' with
    | bad => rw [e] at q; exact q.elim
    | exc x s =>
      rw [e] at q
      exact fun d H2 n2 xc => q d σ' H2 (n.trans (.of n2)) xc
    | ok s σ1 =>
      rw [e] at q
      cases s with
      | im d => cases d with
        | bl k => cases k with
          | false => exact ⟨false, rfl, fun H2 n2 => q σ' H2 (n.trans (.of n2))⟩
          | true =>
            refine ⟨true, rfl, fun H2 n2 => ?_⟩
            dsimp only
            rw [if_pos rfl]
            refine ⟨_, fun _ _ h => h, σ1, n2.rs, ?_⟩
            have n3 := n.trans (NxS.of (io := io) n2)
            have q : FlP X.K ex ca W io D σd σ H (match sb σ1 with
              | .ok .nx σ2 => whlF rc sb m σ2
              | .ok .ct σ2 => whlF rc sb m σ2
              | .ok .bk σ2 => .ok .nx σ2
              | .ok (.rt s) σ2 => .ok (.rt s) σ2
              | .exc x σ2 => .exc x σ2
              | .bad => .bad) := q
            cases e2 : sb σ1 with
            | bad => rw [e2] at q; exact q.elim
            | exc x s => rw [e2] at q; exact FlP.re n3 q
            | ok f s =>
              rw [e2] at q
              cases f with
              | nx => exact fun σ2 H3 n4 => ⟨m, Nat.lt_succ_self m, s, n3.trans n4, q⟩
              | ct => exact fun σ2 H3 n4 => ⟨m, Nat.lt_succ_self m, s, n3.trans n4, q⟩
              | bk => exact fun σ2 H3 n4 => q σ2 H3 (n3.trans n4)
              | rt t => exact FlP.re n3 q
        | _ => exact q.elim
      | _ => exact q.elim
theorem p_for {tg iter : Expr} {body : List Stmt} {t : Tg} {ri : Sls → R Sl} (hp : PassesOwn (model X.prog X.w) X.A X.env X.xe) (hc : X.calm = true) (hi : PI X tg iter (tI X.K ex ca W ri)) (hg : PG X tg (gD X.K ex t)) (hz : io = true → 0 ∉ tgs t) (hb : PSs X body (tS X.K ex ca W io sb))
    (hs : ∀ x, foldedSetIterable iter X.env x = pure x) : PS X (.For tg iter body [] pos) (tS X.K ex ca W io fun σ => (ri σ).bind fun x σ1 => wd x fun p => (match p.its? with
    | some ds => forF t sb ds σ1
    | none => .bad)) := by
  refine (ps_for hp hc hi hg hb hs).weak fun D σ H ⟨σd, rs, q⟩ => ⟨σd, rs, ?_⟩
  have go : ∀ ds σ1, FlP X.K ex ca W io D σd σ H (forF t sb ds σ1) → ∀ J H1, Nx X.K ex σd σ H σ1 σ H1 → ItD X.K J ds H1 → ∃ W' : Nat → Nat → L2.St → Hp → Prop, (∃ m, W' 0 m σ H1) ∧ ∀ i m σ H, W' i m σ H →
      (J.stop i H ∧ D.nx σ H) ∨ (J.go i H ∧ ∃ N : L2.St → Hp → Prop, (∀ σ' H', N σ' H' → ∃ m', m' < m ∧ W' (i + 1) m' σ' H') ∧ ∀ x H', J.yld i H x H' → gD X.K ex t x σ H' fun σ2 H2 => tS X.K ex ca W io sb { D with nx := N, ct := N, bk := D.nx } σ2 H2) := by
    intro ds σ1 q J H1 n1 it
    refine ⟨fun i m σ' H' => i ≤ ds.length ∧ m = ds.length - i ∧ ∃ σd', NxS X.K ex io σ1 σ H1 σd' σ' H' ∧ FlP X.K ex ca W io D σd σ H (forF t sb (ds.drop i) σd'), ⟨_, Nat.zero_le _, rfl, σ1, .refl n1.rs, q⟩, ?_⟩
    rintro i m σ' H' ⟨hi, rfl, σd', n, q⟩
    have kp := n.nx.keep n1.rs
    have n0 := (NxS.of (io := io) n1).trans n
    rcases Nat.lt_or_ge i ds.length with hi | hi
    · refine .inr ⟨it.go H' i kp hi, fun σ' H' => ∃ σd', NxS X.K ex io σ1 σ H1 σd' σ' H' ∧ FlP X.K ex ca W io D σd σ H (forF t sb (ds.drop (i + 1)) σd'), fun σ2 H2 h => ⟨ds.length - (i + 1), by omega, hi, rfl, h⟩, fun x H2 y => ?_⟩
      obtain ⟨sm, d, hd, fd⟩ := it.yld H' i x H2 kp y hi
      rw [List.drop_eq_getElem_cons hi] at q
      have ed : ds[i] = d := by rw [List.getElem?_eq_getElem hi] at hd; exact Option.some.inj hd
      rw [ed] at q
      unfold forF at q
      have r2 := n.nx.rs.same sm
      cases ea : asgT t d σd' with
      | none => rw [ea] at q; exact q.elim
      | some σa =>
        rw [ea] at q
        refine ⟨σd', d, σa, r2, fd, ea, fun τ rτ ow smi ln => ⟨σa, rτ, ?_⟩⟩
        have na : NxS X.K ex io σd' σ' H' σa τ H2 := ⟨⟨rτ, fun a o h hn _ => sm a o h, fun a z => .inl (ow a z), fun a o h => ⟨o, sm a o h⟩⟩, fun z => smi 0 (hz z)⟩
        have n3 := n.trans na
        have n4 := n0.trans na
        have q : FlP X.K ex ca W io D σd σ H (match sb σa with
          | .ok .nx σ2 => forF t sb (ds.drop (i + 1)) σ2
          | .ok .ct σ2 => forF t sb (ds.drop (i + 1)) σ2
          | .ok .bk σ2 => .ok .nx σ2
          | .ok (.rt s) σ2 => .ok (.rt s) σ2
          | .exc x σ2 => .exc x σ2
          | .bad => .bad) := q
        cases e2 : sb σa with
        | bad => rw [e2] at q; exact q.elim
        | exc x s => rw [e2] at q; exact FlP.re n4 q
        | ok f s =>
          rw [e2] at q
          cases f with
          | nx => exact fun σ2 H3 n5 => ⟨s, n3.trans n5, q⟩
          | ct => exact fun σ2 H3 n5 => ⟨s, n3.trans n5, q⟩
          | bk => exact fun σ2 H3 n5 => q σ2 H3 (n4.trans n5)
          | rt t => exact FlP.re n4 q
    · have e : i = ds.length := Nat.le_antisymm ‹_› hi
      subst e
      rw [List.drop_length] at q
      unfold forF at q
      exact .inl ⟨it.stop H' kp, q σ' H' n0⟩
  have q : FlP X.K ex ca W io D σd σ H ((ri σd).bind fun x σ1 => wd x fun p => (match p.its? with
    | some ds => forF t sb ds σ1
    | none => .bad)) := q
  cases e : ri σd with
  | bad => rw [e] at q; exact q.elim
  | exc x σ1 => rw [e] at q; exact fun d H' n2 xc => q d σ H' (.of n2) xc
  | ok s σ1 =>
    rw [e] at q
    show Res X.K ex ca W σd σ H (wd s fun p => (match p.its? with
      | some ds => R.ok ds σ1
      | none => .bad)) _
    have q : FlP X.K ex ca W io D σd σ H (wd s fun p => (match p.its? with
      | some ds => forF t sb ds σ1
      | none => .bad)) := q
    cases s with
    | un => exact q.elim
    | exn x => exact q.elim
    | clo x => exact q.elim
    | mu ds => exact go ds σ1 q
    | im d =>
      have q : FlP X.K ex ca W io D σd σ H (match d.its? with
        | some ds => forF t sb ds σ1
        | none => .bad) := q
      show Res X.K ex ca W σd σ H (match d.its? with
        | some ds => R.ok ds σ1
        | none => .bad) _
      cases ed : d.its? with
      | none => rw [ed] at q; exact q.elim
      | some ds => rw [ed] at q; exact go ds σ1 q
theorem p_rse {x m : Str} {j : Nat} {p p2 pos' : Pos} {i : Nat} {B newId initId : String} {bmB : List Value} (hc : X.calm = true) (tk : Takes X W) (F : ExcBaseFacts B newId initId bmB) (q : PySem.W.excIn X.K (ca i) bmB newId = true) (gC : X.mg x = some (.ref (ca i))) (kC : PySem.W.keepIn X.K (.ref (ca i)) = true)
    (h1 : PySem.W.subIn X.K (.ref (ca i)) (.type "BaseException") = some true) (h2 : PySem.W.typeIn X.K (.ref (ca i)) = some (.type "type")) (hg : Gl X x) (hdb : (x == ("__debug__" : Str)) = false) :
    PS X (.Raise (some (.Call (.Name x p) [.Constant (.str m) j p2] [] pos)) none pos') (tS X.K ex ca W io fun σ => .exc ⟨i, none⟩ σ) :=
  (ps_raise hc tk (L2.pmk_own F q gC kC (raises_own h1 h2) hg hdb)).weak fun D σ H ⟨σd, rs, q⟩ => q none σ H (.refl rs) ⟨fun _ => rfl, fun _ z => nomatch z⟩
theorem p_rsc {x : Str} {p pos' : Pos} {i : Nat} (hc : X.calm = true) (tk : Takes X W) (T : GeC X.prog X.K (ca i)) (hr : Room 2 X.A) (hg : Gl X x) (hm : X.mg x = some (.ref (ca i))) (hdb : (x == ("__debug__" : Str)) = false) (hs : isStar e = false) (he : PE X e (tE X.K ex ca W re)) :
    PS X (.Raise (some (.Call (.Name x p) [e] [] pos)) none pos') (tS X.K ex ca W io fun σ => (re σ).bind fun y σ1 => wd y fun d => .exc ⟨i, some d⟩ σ1) :=
  (ps_raise hc tk (pmk_ge T hr hg hm (pe_frz he) hdb (star1 hs))).weak fun D σ H ⟨σd, rs, q⟩ => ⟨σd, rs, (FlP.bind q).imp fun s σ1 q v H1 n1 v1 => by
    obtain ⟨p, hp, lock⟩ := wd_fl n1 v1 q
    refine lock _ fun H2 n2 f2 d hd => ?_
    have r : Same H2 (upd H2 d (.xd [("code", v)])) := same_new hd
    exact hp (some d) σ _ (.of (n2.trans (.same n2.rs r))) ⟨(fun z => nomatch z), fun c hc => by cases hc; exact ⟨d, v, rfl, upd_same, Keep.fz (Keep.same r) _ _ f2⟩⟩⟩
end
end Rf
/-! R15: try; the statements of the text. -/
namespace Rf
open PySem PySem.Spec PyProof.Rows L2
section
variable {K : PySem.W.Frag} {ex ex' : ExF} {ca : Nat → Addr} {W W' : WX} {io : Bool} {D0 D1 : Ends} {σd sB : Sls} {σ σB : L2.St} {H HB : Hp}
theorem fl_map {g : Sls → Sls} {gs : L2.St → L2.St} {r : R Fl} (d1 : ∀ σ H, D0.nx (gs σ) H → D1.nx σ H) (d2 : ∀ σ H, D0.bk (gs σ) H → D1.bk σ H) (d3 : ∀ σ H, D0.ct (gs σ) H → D1.ct σ H) (d4 : ∀ v H, D0.rt v H → D1.rt v H)
    (conv : ∀ σ2 σ' H', NxS K ex' io sB σB HB σ2 σ' H' → NxS K ex io σd σ H (g σ2) (gs σ') H' ∧ ∀ a, Own (g σ2) (gs σ') a → Own σ2 σ' a) (own0 : ∀ a, Own sB σB a ∨ HB a = none → Own σd σ a ∨ H a = none)
    (q : FlP K ex ca W io D0 σd σ H (match r with
      | .ok f σ2 => .ok f (g σ2)
      | _ => .bad)) : FlP K ex' ca W' io D1 sB σB HB r := by
  cases r with
  | bad => exact q.elim
  | exc x s => exact q.elim
  | ok f s => cases f with
    | nx => exact fun σ' H' n => d1 _ _ (q _ _ (conv s σ' H' n).1)
    | bk => exact fun σ' H' n => d2 _ _ (q _ _ (conv s σ' H' n).1)
    | ct => exact fun σ' H' n => d3 _ _ (q _ _ (conv s σ' H' n).1)
    | rt t => exact fun v σ' H' n vr => d4 _ _ (q v _ _ (conv s σ' H' n).1 (by
        cases t with
        | un => exact True.intro
        | im d => exact vr
        | exn x => exact vr
        | clo x => exact vr
        | mu ds =>
          obtain ⟨a, xs, e, h1, f, no, p⟩ := vr
          exact ⟨a, xs, e, h1, f, fun z => no ((conv s σ' H' n).2 a z), own0 a p⟩))
theorem RS.unx (r : RS K ex' H σd σ) (hT : ∀ H, ex'.TJ H → ex.TJ H) (hcl : ex'.cl = ex.cl) : RS K ex H (σd.map unx) σ where
  tab := hT _ r.tab
  len := by rw [List.length_map]; exact r.len
  at_ := fun i s h => by
    rw [List.getElem?_map] at h
    obtain ⟨t, h1, h2⟩ := Option.map_eq_some_iff.mp h
    have z := r.at_ i t h1
    cases t with
    | un => cases h2; exact True.intro
    | im d => cases h2; exact z
    | mu d => cases h2; exact z
    | exn x => cases h2; exact True.intro
    | clo f => cases h2; obtain ⟨a, e1, e2⟩ := z; exact ⟨a, e1, hcl ▸ e2⟩
  inj := fun i j ds es a h1 h2 h3 h4 => by
    have back : ∀ {i : Nat} {ds : List D}, (σd.map Rf.unx)[i]? = some (.mu ds) → σd[i]? = some (.mu ds) := fun {i ds} h => by
      rw [List.getElem?_map] at h
      obtain ⟨t, h1, h2⟩ := Option.map_eq_some_iff.mp h
      cases t <;> cases h2
      exact h1
    exact r.inj i j ds es a (back h1) (back h2) h3 h4
theorem own_unx {a : Addr} (h : Own (σd.map unx) σ a) : Own σd σ a := by
  obtain ⟨i, ds, h1, h2⟩ := h
  rw [List.getElem?_map] at h1
  obtain ⟨t, h3, h4⟩ := Option.map_eq_some_iff.mp h1
  cases t <;> cases h4
  exact ⟨i, _, h3, h2⟩
theorem RS.set_un {i : Nat} {o : Option V} (r : RS K ex H σd σ) : RS K ex H (σd.set i .un) (σ.set i o) where
  tab := r.tab
  len := by rw [List.length_set, List.length_set]; exact r.len
  at_ := fun j s h => by
    by_cases hij : i = j
    · subst hij
      by_cases hj : i < σd.length
      · rw [List.getElem?_set_self hj] at h; cases h; exact True.intro
      · rw [List.getElem?_eq_none (by simpa using hj)] at h; cases h
    · rw [List.getElem?_set_ne hij] at h ⊢
      exact r.at_ j s h
  inj := fun j k ds es a h1 h2 h3 h4 => by
    have ne : ∀ {j : Nat} {ds : List D}, (σd.set i .un)[j]? = some (.mu ds) → i ≠ j := fun {j ds} h e => by
      subst e
      by_cases hj : i < σd.length
      · rw [List.getElem?_set_self hj] at h; cases h
      · rw [List.getElem?_eq_none (by simpa using hj)] at h; cases h
    have n1 := ne h1
    have n2 := ne h2
    rw [List.getElem?_set_ne n1] at h1 h3
    rw [List.getElem?_set_ne n2] at h2 h4
    exact r.inj j k ds es a h1 h2 h3 h4
theorem RS.set_exn {i : Nat} {x : Xn} {a : Addr} (r : RS K ex H σd σ) (h : ex a x) : RS K ex H (σd.set i (.exn x)) (σ.set i (some (.ref a))) where
  tab := r.tab
  len := by rw [List.length_set, List.length_set]; exact r.len
  at_ := fun j s h => by
    by_cases hij : i = j
    · subst hij
      by_cases hj : i < σd.length
      · rw [List.getElem?_set_self hj] at h; cases h
        exact ⟨a, List.getElem?_set_self (by rw [← r.len]; exact hj), ‹_›⟩
      · rw [List.getElem?_eq_none (by simpa using hj)] at h; cases h
    · rw [List.getElem?_set_ne hij] at h ⊢
      exact r.at_ j s h
  inj := fun j k ds es a h1 h2 h3 h4 => by
    have ne : ∀ {j : Nat} {ds : List D}, (σd.set i (.exn x))[j]? = some (.mu ds) → i ≠ j := fun {j ds} h e => by
      subst e
      by_cases hj : i < σd.length
      · rw [List.getElem?_set_self hj] at h; cases h
      · rw [List.getElem?_eq_none (by simpa using hj)] at h; cases h
    have n1 := ne h1
    have n2 := ne h2
    rw [List.getElem?_set_ne n1] at h1 h3
    rw [List.getElem?_set_ne n2] at h2 h4
    exact r.inj j k ds es a h1 h2 h3 h4
theorem own_setx {i : Nat} {s : Sl} {o : Option V} {a : Addr} (hs : ∀ ds, s ≠ .mu ds) (h : Own (σd.set i s) (σ.set i o) a) : Own σd σ a := by
  obtain ⟨j, ds, h1, h2⟩ := h
  by_cases hij : i = j
  · subst hij
    by_cases hj : i < σd.length
    · rw [List.getElem?_set_self hj] at h1; cases h1; exact absurd rfl (hs _)
    · rw [List.getElem?_eq_none (by simpa using hj)] at h1; cases h1
  · rw [List.getElem?_set_ne hij] at h1 h2
    exact ⟨j, ds, h1, h2⟩
/-- an empty view -/
theorem RS.rex (r : RS K ex H σd σ) (hT : ex'.TJ H) (hcl : ex.cl = ex'.cl) (h : ∀ a z, ¬ ex a z) : RS K ex' H σd σ where
  tab := hT
  len := r.len
  at_ := fun i s e => by
    have z := r.at_ i s e
    cases s with
    | exn x => obtain ⟨a, _, q⟩ := z; exact absurd q (h a x)
    | clo f => obtain ⟨a, e1, e2⟩ := z; exact ⟨a, e1, hcl ▸ e2⟩
    | _ => exact z
  inj := r.inj
end
section
variable {X : Cx} {c : CE} {ex : ExF} {W : WX} {ca : Nat → Addr} {io : Bool} {sb : Sub} {pos : Pos} {rb rh : Sls → R Fl}
theorem XcR.keep {K : PySem.W.Frag} {H H' : Hp} (k : Keep H H') {x : Xn} {d : Option Addr} (h : XcR K H x d) : XcR K H' x d := ⟨h.1, fun c hc => by
  obtain ⟨dx, v, e1, e2, f⟩ := h.2 c hc
  exact ⟨dx, v, e1, k _ _ e2 (fun _ z => nomatch z) (fun _ z => nomatch z), k.fz c v f⟩⟩
def exOf (ex : ExF) (K : PySem.W.Frag) (ca : Nat → Addr) (sb : Sub) (x : Xn) (a : Addr) (cls : Value) (d : Option Addr) : ExF :=
  ⟨fun b z => b = a ∧ z = x ∧ cls = .ref (ca x.cls) ∧ (x.code = none → d = none) ∧ sb x.cls x.cls = true, ex.T, fun H => ex.J H ∧ XcR K H x d, fun H H' k h => ⟨ex.JK H H' k h.1, h.2.keep k⟩, ex.cl⟩
def tryR (sb : Sub) (k : Nat) (i : Option Nat) (rb rh : Sls → R Fl) : Sls → R Fl := fun σ => (match rb σ with
    | .exc x σ1 => if sb x.cls x.cls = true then (if sb x.cls k = true then (match i with
        | some i => (match rh (σ1.set i (.exn x)) with
          | .ok f σ2 => .ok f ((σ2.map unx).set i .un)
          | _ => .bad)
        | none => (match rh σ1 with
          | .ok f σ2 => .ok f (σ2.map unx)
          | _ => .bad)) else .exc x σ1) else .bad
    | r => r)
theorem p_try0 {x : Str} {np pos' : Pos} {k : Nat} {body suite : List Stmt} {b₀ : Stmt} (hs : X.stack = X.env :: X.outer) (hf : X.env.frame = some X.env.locals) (hc : Names X x (.ref (ca k))) (tk : Takes X W) (hx : ∀ a z, ¬ ex a z)
    (hm : ∀ z, sb z z = true → PySem.W.exmOne X.K (.ref (ca z)) (.ref (ca k)) = some (sb z k))
    (hb : ∀ (W : WX) (pn : List (Addr × Obj)) (xe : Value → Shared → Prop), Takes (X.tr pn xe) W → PassesOwn (model X.prog X.w) X.A X.env xe → PSs (X.tr pn xe) body (tS X.K ex ca W io rb))
    (hsu : ∀ (x : Xn) (a : Addr) (oe : Obj) (cls : Value) (d : Option Addr) (pn : List (Addr × Obj)), Zc cls d oe → (∃ vs, oe.data = .fields vs) → PSs (X.suite a ((a, oe) :: pn)) (b₀ :: suite) (tS X.K (exOf ex X.K ca sb x a cls d) ca WF io rh)) :
    PS X (.Try body [.ExceptHandler (some (.Name x np)) none (b₀ :: suite) pos'] [] [] pos) (tS X.K ex ca W io (tryR sb k none rb rh)) := by
  refine (ps_try_only (tb := fun W => tS X.K ex ca W io rb) (ts := fun a cls d D σ H => ∃ x, tS X.K (exOf ex X.K ca sb x a cls d) ca WF io rh D σ H) hs hf hc tk hb fun a oe cls d pn z1 z2 => ⟨fun pins s σ H D I ⟨x, hw⟩ => (hsu x a oe cls d pn z1 z2).run pins s σ H D I hw⟩).weak fun D σ H ⟨σd, rs, q⟩ => ⟨σd, rs, ?_⟩
  unfold tryR at q
  cases e : rb σd with
  | bad => rw [e] at q; exact q
  | ok f s => rw [e] at q; cases f <;> exact q
  | exc x s =>
    rw [e] at q
    intro d σ' H' n xc
    have q : FlP X.K ex ca W io D σd σ H (if sb x.cls x.cls = true then (if sb x.cls k = true then (match rh s with
          | .ok f σ2 => .ok f (σ2.map unx)
          | _ => .bad) else .exc x s) else .bad) := q
    split at q
    · rename_i h0
      refine ⟨sb x.cls k, hm _ h0, fun h1 a na => ⟨x, s, n.nx.rs.rex ⟨n.nx.rs.tab.1, n.nx.rs.tab.2, xc⟩ rfl hx, ?_⟩, fun h1 => ?_⟩
      · rw [if_pos h1] at q
        refine fl_map (gs := fun σ => σ) (fun _ _ h => h) (fun _ _ h => h) (fun _ _ h => h) (fun _ _ h => h) (fun σ2 σ'' H'' n2 => ⟨n.trans ⟨⟨RS.unx (ex := ex) n2.nx.rs (fun H t => ⟨t.1, t.2.1⟩) rfl, n2.nx.ext, fun b z => n2.nx.own b (own_unx z), n2.nx.dom⟩, n2.z⟩, fun b z => own_unx z⟩) (fun b z => ?_) q
        rcases z with z | z
        · exact n.nx.own b z
        · refine .inr ?_
          cases e0 : H b with
          | none => rfl
          | some o => obtain ⟨o', e'⟩ := n.nx.dom b o e0; rw [z] at e'; cases e'
      · rw [if_neg (by rw [h1]; exact Bool.false_ne_true)] at q
        exact q d σ' H' n xc
    · exact q.elim
theorem p_try1 {x y : Str} {np pos' : Pos} {k i : Nat} {body suite : List Stmt} {b₀ : Stmt} (hs : X.stack = X.env :: X.outer) (hf : X.env.frame = some X.env.locals) (hN : X.N.Nodup) (hi : X.N[i]? = some y) (hln : X.env.scope.names.lookup y = some .local) (hz : io = true → i ≠ 0)
    (hc : Names X x (.ref (ca k))) (tk : Takes X W) (hx : ∀ a z, ¬ ex a z)
    (hm : ∀ z, sb z z = true → PySem.W.exmOne X.K (.ref (ca z)) (.ref (ca k)) = some (sb z k))
    (hb : ∀ (W : WX) (pn : List (Addr × Obj)) (xe : Value → Shared → Prop), Takes (X.tr pn xe) W → PassesOwn (model X.prog X.w) X.A X.env xe → PSs (X.tr pn xe) body (tS X.K ex ca W io rb))
    (hsu : ∀ (x : Xn) (a : Addr) (oe : Obj) (cls : Value) (d : Option Addr) (pn : List (Addr × Obj)), Zc cls d oe → (∃ vs, oe.data = .fields vs) → PSs (X.suite a ((a, oe) :: pn)) (b₀ :: suite) (tS X.K (exOf ex X.K ca sb x a cls d) ca WF io rh)) :
    PS X (.Try body [.ExceptHandler (some (.Name x np)) (some y) (b₀ :: suite) pos'] [] [] pos) (tS X.K ex ca W io (tryR sb k (some i) rb rh)) := by
  refine (ps_try_as (tb := fun W => tS X.K ex ca W io rb) (ts := fun a cls d D σ H => ∃ x, tS X.K (exOf ex X.K ca sb x a cls d) ca WF io rh D σ H) hs hf hN hi hln hc tk hb fun a oe cls d pn z1 z2 => ⟨fun pins s σ H D I ⟨x, hw⟩ => (hsu x a oe cls d pn z1 z2).run pins s σ H D I hw⟩).weak fun D σ H ⟨σd, rs, q⟩ => ⟨σd, rs, ?_⟩
  unfold tryR at q
  cases e : rb σd with
  | bad => rw [e] at q; exact q
  | ok f s => rw [e] at q; cases f <;> exact q
  | exc x s =>
    rw [e] at q
    intro d σ' H' n xc
    have q : FlP X.K ex ca W io D σd σ H (if sb x.cls x.cls = true then (if sb x.cls k = true then (match rh (s.set i (.exn x)) with
          | .ok f σ2 => .ok f ((σ2.map unx).set i .un)
          | _ => .bad) else .exc x s) else .bad) := q
    split at q
    · rename_i h0
      refine ⟨sb x.cls k, hm _ h0, fun h1 a na => ?_, fun h1 => ?_⟩
      · rw [if_pos h1] at q
        have r1 : RS X.K (exOf ex X.K ca sb x a (.ref (ca x.cls)) d) H' (s.set i (.exn x)) (σ'.set i (some (.ref a))) := (RS.rex (ex' := exOf ex X.K ca sb x a (.ref (ca x.cls)) d) n.nx.rs ⟨n.nx.rs.tab.1, n.nx.rs.tab.2, xc⟩ rfl hx).set_exn ⟨rfl, rfl, rfl, xc.1, h0⟩
        refine ⟨x, _, r1, ?_⟩
        have o1 : ∀ {b : Addr}, Own (s.set i (.exn x)) (σ'.set i (some (.ref a))) b → Own s σ' b := fun {b} z => own_setx (s := .exn x) (fun _ z => nomatch z) z
        have o2 : ∀ {σ2 : Sls} {σ'' : L2.St} {b : Addr}, Own ((σ2.map unx).set i .un) (σ''.set i none) b → Own σ2 σ'' b := fun {σ2 σ'' b} z => own_unx (own_setx (s := .un) (fun _ z => nomatch z) z)
        refine fl_map (gs := fun σ => σ.set i none) (fun _ _ h => h) (fun _ _ h => h) (fun _ _ h => h) (fun _ _ h => h) (fun σ2 σ'' H'' n2 => ⟨n.trans ⟨⟨(RS.unx (ex := ex) n2.nx.rs (fun H t => ⟨t.1, t.2.1⟩) rfl).set_un, fun b o hb hn => n2.nx.ext b o hb fun z => hn (o1 z), fun b z => ?_, n2.nx.dom⟩, fun z => ?_⟩, fun b z => o2 z⟩) (fun b z => ?_) q
        · rcases n2.nx.own b (o2 z) with z | z
          · exact .inl (o1 z)
          · exact .inr z
        · rw [List.getElem?_set_ne (hz z), n2.z z, List.getElem?_set_ne (hz z)]
        · rcases z with z | z
          · exact n.nx.own b (o1 z)
          · refine .inr ?_
            cases e0 : H b with
            | none => rfl
            | some o => obtain ⟨o', e'⟩ := n.nx.dom b o e0; rw [z] at e'; cases e'
      · rw [if_neg (by rw [h1]; exact Bool.false_ne_true)] at q
        exact q d σ' H' n xc
    · exact q.elim
end
end Rf
/-! R16: the statements of the text do as the small language says. -/
namespace Rf
open PySem PySem.Spec PyProof.Rows L2
structure SOk (X : Cx) (c : CE) (ex : ExF) (W : WX) (ca : Nat → Addr) (sb : Sub) (k : Nat) (cf : Nat → List Sl → FR) : Prop where
  ok : XOk X c ex W ca sb k cf
  cl : c.hot = false
  hs : X.stack = X.env :: X.outer
  hf : X.env.frame = some X.env.locals
  po : PassesOwn (model X.prog X.w) X.A X.env X.xe
section
variable {ca : Nat → Addr} {sb : Sub} {k : Nat} {cf : Nat → List Sl → FR}
theorem listT_io {c : CE} {T : Expr → Option Tg} (h : ∀ e t, T e = some t → c.io = true → 0 ∉ tgs t) : ∀ {es : List Expr} {t : Tg}, listT T es = some t → c.io = true → 0 ∉ tgs t
  | [], t, e, _ => by cases e; exact List.not_mem_nil
  | x :: es, t, e, z => by
    unfold listT at e
    split at e
    · cases e
    · split at e
      · rename_i t1 ts h1 h2
        cases e
        have a1 := h _ _ h1 z
        have a2 := listT_io h h2 z
        simp only [tgs, List.mem_append, not_or]
        exact ⟨a1, a2⟩
      · cases e
theorem cTg_io {c : CE} : ∀ (n : Nat) (e : Expr) (t : Tg), cTg n c e = some t → c.io = true → 0 ∉ tgs t
  | 0, _, _, h, _ => by simp [cTg] at h
  | n + 1, .Name x p, t, h, z => by
    simp only [cTg] at h
    obtain ⟨i, h1, h2⟩ := Option.map_eq_some_iff.mp h
    subst h2
    unfold CE.tgt at h1
    split at h1
    · split at h1
      · split at h1
        · cases h1
        · rename_i hz
          cases h1
          simp only [tgs, List.mem_singleton]
          intro e
          subst e
          rw [z] at hz
          exact hz rfl
      · cases h1
    · cases h1
  | n + 1, .Tuple es x1 p, t, h, z => by
    simp only [cTg] at h
    split at h
    · cases h
    · exact listT_io (cTg_io n) h z
  | n + 1, .Constant .., t, h, _ => by simp [cTg] at h
/-- what a list comprehension of the text says -/
theorem lc_parts {n : Nat} {X : Cx} {c : CE} {ex : ExF} {W : WX} (ok : XOk X c ex W ca sb k cf) {elt : Expr} {gens : List Comprehension} {scope : Scope} {pos : Pos} {r : IE} (h : cE (n + 1) c (.ListComp elt gens scope pos) = some r) :
    ∃ tg it ifs t q p1 p2 own, gens = [⟨tg, it, ifs, 0⟩] ∧ r = .comp (own.map (·.2)) t p1 q p2 ∧ c.hot = false ∧ BlkOk X.N X.env.scope scope own ∧ (∀ i ∈ tgs t, i ∈ own.map (·.2)) ∧ isSet it = false ∧
      PI X tg it (tI X.K ex ca W (evE sb cf p1)) ∧
      (∀ (s : Shared) (H : Hp) (C : Addr) (cl : List (Str × Addr)) (fp : List Addr), PG (X.blk s H scope (compEnvC scope cl C X.env) fp) tg (gD X.K ex t)) ∧
      (∀ (s : Shared) (H : Hp) (C : Addr) (cl : List (Str × Addr)) (fp : List Addr), PTs (X.blk s H scope (compEnvC scope cl C X.env) fp) ifs (tT X.K ex ca WF (evE sb cf q))) ∧
      (∀ (s : Shared) (H : Hp) (C : Addr) (cl : List (Str × Addr)) (fp : List Addr), PE (X.blk s H scope (compEnvC scope cl C X.env) fp) elt (tE X.K ex ca WF (evE sb cf p2))) := by
  cases gens with
  | nil => simp [cE] at h
  | cons g gs => cases gs with
    | cons _ _ => simp [cE] at h
    | nil =>
      obtain ⟨t, it, ifs, aa⟩ := g
      unfold cE at h
      dsimp only at h
      split at h
      · cases h
      · rename_i hc
        simp only [Bool.or_eq_true, not_or, Bool.not_eq_true, Bool.not_eq_true', Bool.not_eq_eq_eq_not, Bool.not_true, Bool.not_false] at hc
        obtain ⟨⟨⟨⟨has, hh⟩, hset⟩, hblk⟩, _⟩ := hc
        have has : aa = 0 := by simpa using has
        subst has
        split at h
        · rename_i t' q ht hq
          split at h
          · rename_i hto
            obtain ⟨p1, p2, h1, h2, rfl⟩ := o2_ok h
            have hblk : L2.blkC c.N c.sc scope (ownOf c.N scope.names) = true := by simpa using hblk
            have bk := L2.blkOk_by hblk
            have okb := fun (s : Shared) (H : Hp) (C : Addr) (cl : List (Str × Addr)) (fp : List Addr) => blk_ok ok hh (s := s) (H := H) (scope := scope) (C := C) (cl := cl) (fp := fp)
            refine ⟨t, it, ifs, t', q, p1, p2, ownOf c.N scope.names, rfl, rfl, hh, by rw [ok.N]; exact ⟨bk.kind, bk.uniq, bk.ix, fun y hy e => ok.fre _ (bk.free y hy e), bk.own⟩, fun i hi => ?_, hset, (sound n).2.2 X c ex W ok _ _ _ _ (fun z => z) h1,
              fun s H C cl fp => cTg_ok (okb s H C cl fp) n _ _ ht, fun s H C cl fp => ?_, fun s H C cl fp => (sound n).1 _ _ _ _ (okb s H C cl fp) _ _ h2⟩
            · have := List.all_eq_true.mp hto i hi
              simpa using this
            · split at hq
              · cases hq
                exact ⟨fun pins s σ H Q I ⟨σd, rs, k, e, q⟩ => by cases e; exact pts_nil.run pins s σ H Q I (q H (.refl rs))⟩
              · exact pts_one ((sound n).2.1 _ _ _ _ (okb s H C cl fp) _ _ hq)
              · cases hq
          · cases h
        · cases h
def HS (ca : Nat → Addr) (sb : Sub) (k : Nat) (cf : Nat → List Sl → FR) (F n : Nat) : Prop := ∀ X c ex W, SOk X c ex W ca sb k cf → ∀ st r, cS n c st = some r → PS X st (tS X.K ex ca W c.io (evS F sb cf r))
theorem ssq_ok {X : Cx} {ex : ExF} {W : WX} {io : Bool} {F : Nat} {f : Stmt → Option IS} (h : ∀ st r, f st = some r → PS X st (tS X.K ex ca W io (evS F sb cf r))) : ∀ {l : List Stmt} {r : IS}, ssq f l = some r → PSs X l (tS X.K ex ca W io (evS F sb cf r))
  | [], r, e => by cases e; exact ss_nil
  | [s], r, e => pss_one (h s r e)
  | s :: s2 :: l, r, e => by
    unfold ssq at e
    split at e
    · rename_i a b h1 h2
      cases e
      exact ss_cons (h _ _ h1) (ssq_ok h h2)
    · cases e
theorem hot_ok {X : Cx} {c : CE} {ex : ExF} {W : WX} {F : Nat} (S : SOk X c ex W ca sb k cf) {x : Xn} {a : Addr} {oe : Obj} {cls : Value} {d : Option Addr} {pn : List (Addr × Obj)} (hz : Zc cls d oe) (hf : ∃ vs, oe.data = .fields vs) {l : List Stmt} {r : IS} (h : cHot c l = some r) :
    PSs (X.suite a ((a, oe) :: pn)) l (tS X.K (exOf ex X.K ca sb x a cls d) ca WF c.io (evS F sb cf r)) := by
  have xcd : ∀ (i : Nat) (y : Str) (py pos : Pos), X.N[i]? = some y → L2.Vis X.env.scope y → (y == ("__debug__" : Str)) = false → (y == ("__classdict__" : Str)) = false → PE (X.suite a ((a, oe) :: pn)) (.Attribute (.Name y py) "code" pos) (tE X.K (exOf ex X.K ca sb x a cls d) ca WF fun (σ : Sls) => (match σ[i]? with
    | some (Sl.exn ⟨_, some d⟩) => R.ok (.im d) σ
    | _ => .bad)) := fun i y py pos hN hv h1 h2 => by
    refine ⟨fun pins s σ H Q I ⟨σd, rs, q⟩ => ?_⟩
    dsimp only at q
    cases e0 : σd[i]? with
    | none => rw [e0] at q; exact q.elim
    | some s0 => cases s0 with
      | un => rw [e0] at q; exact q.elim
      | im d => rw [e0] at q; exact q.elim
      | mu d => rw [e0] at q; exact q.elim
      | clo f => rw [e0] at q; exact q.elim
      | exn z =>
        obtain ⟨zc, zd⟩ := z
        cases zd with
        | none => rw [e0] at q; exact q.elim
        | some c0 =>
          rw [e0] at q
          obtain ⟨b, e1, e2⟩ := rs.at_ i _ e0
          obtain ⟨rfl, ex2, rfl, e4, e5⟩ := e2
          subst ex2
          obtain ⟨dx, v, rfl, e7, e8⟩ := rs.tab.2.2.2 c0 rfl
          obtain ⟨T, no⟩ := S.ok.lk.xf zc e5
          exact (pe_xf T no hz hf (pe_var (X := X.suite b ((b, oe) :: pn)) (i := i) (pos := py) hN hv h1 h2)).run pins s σ H Q I ⟨.ref b, e1, rfl, rfl, dx, _, v, rfl, e7, rfl, q v H (.refl rs) e8⟩
  have ok : XOk (X.suite a ((a, oe) :: pn)) { c with hot := true } (exOf ex X.K ca sb x a cls d) WF ca sb k cf :=
    ⟨S.ok.vis, S.ok.loc, S.ok.loc1, S.ok.loc2, S.ok.gl, S.ok.fre, S.ok.N, S.ok.nd, (fun z => Bool.noConfusion (show true = false from z)), S.ok.un, S.ok.k8, fun b z ⟨e1, e2, e3, e4, e5⟩ => ⟨e2 ▸ e5, fun hn => ⟨oe, by rw [e1]; exact List.mem_cons_self, by have e6 := e4 (e2 ▸ hn); rw [e2, ← e3, ← e6]; exact hz, hf⟩⟩,
      fun u s' ⟨a, B, sI, pins, σ, H, cls, d, _, _, _, _, _, _, _, _, w⟩ => w.elim, (fun _ _ _ z => Bool.noConfusion (show true = false from z)), fun _ => xcd, (fun _ z => Bool.noConfusion (show true = false from z)), S.ok.lk⟩
  have nd : (X.suite a ((a, oe) :: pn)).N.Nodup := by rw [show (X.suite a ((a, oe) :: pn)).N = X.N from rfl, S.ok.N]; exact S.ok.nd
  refine ssq_ok (f := cHot1 { c with hot := true }) (fun st r h => ?_) h
  unfold cHot1 at h
  split at h
  · obtain ⟨t, h1, h2⟩ := Option.map_eq_some_iff.mp h
    subst h2
    exact p_ret ((sound 60).1 _ _ _ _ ok _ _ h1)
  · cases h; exact p_skip
  · split at h
    · cases h
    · rename_i hl
      split at h
      · rename_i i e' hi he
        cases h
        obtain ⟨g1, g2, g3, g4⟩ := tgt_of ok hi
        exact p_asg nd g1 g2 g3 g4 (by simpa using hl) ((sound 60).1 _ _ _ _ ok _ _ he)
      · cases h
  · cases h
theorem parOf_ok {ts : List Expr} {e : Expr} {x y : Str} {a b : Expr} (h : parOf ts e = some (x, y, a, b)) : ∃ px py k2 pt2, ts = [.Name x px, .Name y py] ∧ e = .Tuple [a, b] k2 pt2 := by
  unfold parOf at h
  split at h
  · cases h; exact ⟨_, _, _, _, rfl, rfl⟩
  · cases h
theorem sw_none {ts : List Expr} {kt : Nat} {pt : Pos} {e : Expr} {env : Env} (h : isTup e = false) : swappedStores [.Tuple ts kt pt] e env = pure none := by
  cases e <;> first | rfl | cases h
theorem sw_lc {elt : Expr} {gens : List Comprehension} {scope : Scope} {pos : Pos} {x : Str} {px : Pos} {l : Nat} {env : Env} (hk : env.scope.kind = .function) (hx : env.scope.names.lookup x = some .local)
    (h : sameLine px (.ListComp elt gens scope pos) = true ∧ (!ownName x (.ListComp elt gens scope pos)) = true) : swapsWith (.ListComp elt gens scope pos) (some (.Name x px)) l env = pure true := by
  obtain ⟨h1, h2⟩ := h
  unfold sameLine at h1
  unfold ownName at h2
  unfold swapsWith Env.blockKind Env.kindOf
  dsimp only
  rw [hk, hx]
  simp only [ScopeKind.isAnnotationScope]
  have h3 : (px.line == (Expr.ListComp elt gens scope pos).pos.line) = true := h1
  simp only [h3, h2]
  rfl
theorem sw_par {x y : Str} {px py pt : Pos} {kt k2 : Nat} {pt2 : Pos} {a b : Expr} {env : Env} (hk : env.scope.kind = .function) (hxy : x ≠ y) (hx : env.scope.names.lookup x = some .local) (hy : env.scope.names.lookup y = some .local) (ha : isStar a = false) (hb : isStar b = false)
    (hp : py.line = px.line) (h1 : isFold a b = false) (h2 : (constantsAlone 8 a && constantsAlone 8 b) = false) : swappedStores [.Tuple [.Name x px, .Name y py] kt pt] (.Tuple [a, b] k2 pt2) env = pure (some [x, y]) := by
  unfold swappedStores Env.blockKind Env.kindOf
  dsimp only
  rw [hk]
  have e2 : [a, b].all (foldedForSure 8) = false := by simpa [isFold] using h1
  have e3 : [a, b].all (constantsAlone 8) = false := by simpa using h2
  refine (if_neg (show ¬ false = true from Bool.false_ne_true)).trans ?_
  refine (if_neg ?_).trans ?_
  · cases a <;> first | (cases ha; done) | (cases b <;> first | (cases hb; done) | exact Bool.false_ne_true)
  rw [e2, e3]
  generalize hnm : List.filterMap _ [Expr.Name x px, Expr.Name y py] = nms
  have e4 : nms = [x, y] := by
    rw [← hnm]
    simp only [List.filterMap_cons, hx, hy, hp, List.filterMap_nil, List.head?_cons, Option.map_some, Option.getD_some, Expr.pos, beq_self_eq_true, Bool.and_self, if_true]
  rw [e4]
  have e5 : [x, y].eraseDups = [x, y] := by
    have : (y == x) = false := by simpa using (Ne.symm hxy)
    simp [List.eraseDups_cons, Ne.symm hxy]
  rw [e5]
  rfl
theorem sw_fold {x y : Str} {px py pt : Pos} {kt k2 : Nat} {pt2 : Pos} {a b : Expr} {env : Env} (h : isFold a b = true) : swappedStores [.Tuple [.Name x px, .Name y py] kt pt] (.Tuple [a, b] k2 pt2) env = pure none := by
  unfold swappedStores
  dsimp only
  have e2 : [a, b].all (foldedForSure 8) = true := by simpa [isFold] using h
  rw [e2]
  split
  · rfl
  · split
    · rfl
    · split
      · rfl
      · rfl
/-- «name = [..]» where the name is a cell stores as any other does -/
theorem sw_cell {elt : Expr} {gs : List Comprehension} {scope : Scope} {pos py : Pos} {y : Str} {l : Nat} {env : Env} (hy : env.scope.names.lookup y = some .cell) : swapsWith (.ListComp elt gs scope pos) (some (.Name y py)) l env = pure false := by
  have ky : env.kindOf y = some .cell := hy
  unfold swapsWith
  simp only [ky, Expr.pos]
  have e : ((some NameKind.cell : Option NameKind) == some .local) = false := by decide
  rw [e, Bool.and_false, Bool.false_and, Bool.false_and]
  all_goals rfl
theorem lc_form {n : Nat} {c : CE} {e : Expr} {r : IE} (hl : isLc e = true) (he : cE (n + 1) c e = some r) : ∃ elt gens scope pos, e = .ListComp elt gens scope pos := by
  cases e <;> first
    | (cases hl; done)
    | exact ⟨_, _, _, _, rfl⟩
    | (simp [cE] at he; done)
theorem s_step (F n : Nat) (ih : HS ca sb k cf F n) : HS ca sb k cf F (n + 1) := by
  intro X c ex W S st r h
  have ok := S.ok
  have E := (sound 60).1 X c ex W ok
  have T := (sound 60).2.1 X c ex W ok
  have nd : X.N.Nodup := by rw [ok.N]; exact ok.nd
  have cool := ok.cool S.cl
  unfold cS at h
  split at h
  · rename_i x px e pos
    split at h
    · split at h
      · rename_i hl hc
        split at h
        · rename_i hc2
          simp only [Bool.and_eq_true, beq_iff_eq] at hc hc2
          split at h
          · rename_i i e' hi he
            cases h
            obtain ⟨g1, g2, g3, g4⟩ := tgt_of ok hi
            obtain ⟨elt, gens, scope, lpos, rfl⟩ := lc_form (n := 59) hl he
            obtain ⟨tg, it, ifs, t, q, p1, p2, own, rfl, rfl, q1, q2, q3, q4, q5, q6, q7, q8⟩ := lc_parts (n := 59) ok he
            refine p_setLc (own := own) cool.1 nd g1 (ok.loc1 _ hc2.2) g4 (fun hk => ?_) q5 q2 q3 q6 q7 q8 (set_iter q4)
            exact sw_lc hk (ok.loc1 _ hc2.2) hc
          · cases h
        · split at h
          · rename_i hc3
            split at h
            · rename_i i e' hi he
              cases h
              obtain ⟨g1, g2, g3, g4⟩ := tgt_of ok hi
              obtain ⟨elt, gens, scope, lpos, rfl⟩ := lc_form (n := 59) hl he
              exact (ps_set nd g1 g2 (E _ _ he) (sw_cell (ok.loc2 _ (by simpa using hc3))) g3).weak fun D σ H h => asg_nm_imp g4 (fun _ _ _ z => z) h
            · cases h
          · cases h
      · cases h
    · rename_i hl
      split at h
      · rename_i i e' hi he
        cases h
        obtain ⟨g1, g2, g3, g4⟩ := tgt_of ok hi
        exact p_asg nd g1 g2 g3 g4 (by simpa using hl) (E _ _ he)
      · cases h
  · rename_i ts kt pt e pos
    split at h
    · cases h
    · split at h
      · rename_i x y a b hp
        obtain ⟨px, py, k2, pt2, rfl, rfl⟩ := parOf_ok hp
        split at h
        · rename_i i j hi hj
          obtain ⟨g1, g2, g3, g4⟩ := tgt_of ok hi
          obtain ⟨f1, f2, f3, f4⟩ := tgt_of ok hj
          split at h
          · rename_i hc
            split at h
            · rename_i a' b' ha hb
              cases h
              simp only [parC, Bool.and_eq_true, Bool.not_eq_true', beq_eq_false_iff_ne, beq_iff_eq] at hc
              obtain ⟨⟨⟨⟨⟨⟨⟨c1, c2⟩, c3⟩, c4⟩, c5⟩, c6⟩, c7⟩, c8⟩ := hc
              refine p_par cool.1 nd g1 f1 (fun e => ?_) (ok.loc1 _ c4) (ok.loc1 _ c5) g4 f4 c2 c3 (fun hk => ?_) (E _ _ ha) (E _ _ hb)
              · subst e; rw [g1] at f1; cases f1; exact c1 rfl
              · exact sw_par hk c1 (ok.loc1 _ c4) (ok.loc1 _ c5) c2 c3 c6 c7 c8
            · cases h
          · split at h
            · rename_i hfold
              split at h
              · rename_i t e' ht he
                cases h
                refine p_asgT (cTg_ok ok _ _ _ ht) (fun m z => ?_) (cTg_io _ _ _ ht) rfl ?_ (E _ _ he)
                · subst z
                  simp only [cTg] at ht
                  split at ht
                  · cases ht
                  · exact (listT_cs _ ht).1 m rfl
                · exact sw_fold hfold
              · cases h
            · cases h
        · cases h
      · split at h
        · cases h
        · rename_i hl
          simp only [Bool.or_eq_true, not_or, Bool.not_eq_true] at hl
          split at h
          · rename_i t e' ht he
            cases h
            refine p_asgT (cTg_ok ok _ _ _ ht) (fun m z => ?_) (cTg_io _ _ _ ht) hl.2 (sw_none hl.1) (E _ _ he)
            subst z
            simp only [cTg] at ht
            split at ht
            · cases ht
            · exact (listT_cs _ ht).1 m rfl
          · cases h
  · rename_i x px ix psub e pos
    split at h
    · cases h
    · rename_i hl
      simp only [Bool.or_eq_true, not_or, Bool.not_eq_true] at hl
      split at h
      · rename_i j i' e' hj hi he
        cases h
        obtain ⟨g1, g2, g3, g4⟩ := slot_of ok hj
        exact p_six g1 g2 g3 g4 hl.1 hl.2 (opA_ok ok E hi) (E _ _ he)
      · cases h
  · rename_i x px o e pos
    split at h
    · rename_i i o' e' hi ho he
      cases h
      obtain ⟨g1, g2, g3, g4⟩ := tgt_of ok hi
      exact p_aug ho nd g1 g2 g3 g4 (E _ _ he)
    · cases h
  · split at h
    · cases h
    · rename_i hs
      split at h
      · rename_i i' ix' o' e' hi hix ho he
        cases h
        obtain ⟨g1, g2, g3, g4⟩ := slot_of ok hi
        exact p_ags ho g1 g2 g3 g4 (Bool.not_eq_true _ ▸ hs) (opA_ok ok E hix) (E _ _ he)
      · cases h
  · rename_i x px m apos a cpos pos
    split at h
    · rename_i hc
      simp only [Bool.and_eq_true, decide_eq_true_eq, Bool.not_eq_true'] at hc
      obtain ⟨⟨rfl, hs⟩, hl⟩ := hc
      split at h
      · rename_i i a' hi ha
        cases h
        obtain ⟨g1, g2, g3, g4⟩ := slot_of ok hi
        exact p_app g1 g2 g3 g4 hl hs (E _ _ ha)
      · cases h
    · split at h
      · rename_i hc
        simp only [Bool.and_eq_true, decide_eq_true_eq, Bool.not_eq_true'] at hc
        obtain ⟨⟨rfl, hs⟩, hl⟩ := hc
        split at h
        · rename_i i a' hi ha
          cases h
          obtain ⟨g1, g2, g3, g4⟩ := slot_of ok hi
          exact p_ext g1 g2 g3 g4 hl hs (E _ _ ha)
        · cases h
      · cases h
  · obtain ⟨t, h1, h2⟩ := Option.map_eq_some_iff.mp h
    subst h2
    exact p_exp rfl (E _ _ h1)
  · split at h
    · rename_i t a b ht ha hb
      cases h
      exact p_if (T _ _ ht) (ssq_ok (ih X c ex W S) ha) (ssq_ok (ih X c ex W S) hb)
    · cases h
  · split at h
    · rename_i t b ht hb
      cases h
      exact p_whl S.po (T _ _ ht) (ssq_ok (ih X c ex W S) hb)
    · cases h
  · split at h
    · cases h
    · rename_i hc
      simp only [Bool.or_eq_true, not_or, Bool.not_eq_true] at hc
      split at h
      · rename_i t it b ht hi hb
        cases h
        exact p_for S.po cool.1 ((sound 60).2.2 X c ex W ok _ _ _ _ (fun z => z) hi) (cTg_ok ok _ _ _ ht) (cTg_io _ _ _ ht) (ssq_ok (ih X c ex W S) hb) (set_iter hc.1)
      · cases h
  · rename_i x p pos
    split at h
    · rename_i i hi
      split at h
      · cases h
      · cases h
        obtain ⟨g1, g2, g3, g4⟩ := slot_of ok hi
        exact p_rtv g1 g2 g3 g4
    · obtain ⟨t, h1, h2⟩ := Option.map_eq_some_iff.mp h
      subst h2
      exact p_ret (E _ _ h1)
  · obtain ⟨t, h1, h2⟩ := Option.map_eq_some_iff.mp h
    subst h2
    exact p_ret (E _ _ h1)
  · cases h; exact p_retN
  · cases h; exact p_brk
  · cases h; exact p_cnt
  · cases h; exact p_skip
  · rename_i x px s j p2 cpos pos
    split at h
    · cases h
    · split at h
      · rename_i hc
        obtain ⟨t, h1, h2⟩ := Option.map_eq_some_iff.mp h
        subst h2
        obtain ⟨g1, g2, g3⟩ := exc_of ok h1
        obtain ⟨⟨B, newId, initId, bmB, F1, F2⟩, m1, m2, m3⟩ := ok.lk.rai x t (by simpa using hc) g3
        exact p_rse cool.1 ok.tk F1 F2 (ok.lk.ex x t g3) m1 m2 m3 g1 g2
      · split at h
        · rename_i hc
          split at h
          · rename_i i e' hi he
            cases h
            obtain ⟨g1, g2, g3⟩ := exc_of ok hi
            exact p_rsc cool.1 ok.tk (ok.lk.rac x i (by simpa using hc) g3) (cool.2.1.mono (Nat.le_trans (show 2 ≤ k from Nat.le_trans (by decide) ok.k8) (Nat.le_add_right _ _))) g1 (ok.lk.ex x i g3) g2 rfl (E _ _ he)
          · cases h
        · cases h
  · rename_i b x np nm hd hs hpos pos
    split at h
    · cases h
    · split at h
      · rename_i kk hk
        obtain ⟨g1, g2, g3⟩ := exc_of ok hk
        have hlt : kk < c.exs.length := (List.getElem?_eq_some_iff.mp (ixS_get g3)).1
        have hn : Names X x (.ref (ca kk)) := ⟨g1, g2, .inl (ok.lk.ex x kk g3)⟩
        split at h
        · rename_i b' h' hb hh
          have body : ∀ (W' : WX) (pn : List (Addr × Obj)) (xe : Value → Shared → Prop), Takes (X.tr pn xe) W' → PassesOwn (model X.prog X.w) X.A X.env xe → PSs (X.tr pn xe) b (tS X.K ex ca W' c.io (evS F sb cf b')) := fun W' pn xe tk po =>
            ssq_ok (ih (X.tr pn xe) c ex W' ⟨⟨ok.vis, ok.loc, ok.loc1, ok.loc2, ok.gl, ok.fre, ok.N, ok.nd, ok.cool, ok.un, ok.k8, fun a z q => absurd q (cool.2.2 a z), tk, fun a i h1 h2 W2 pn2 xe2 tk2 => ok.clk a i h1 h2 W2 pn2 xe2 tk2, (fun z => Bool.noConfusion (S.cl.symm.trans z)), ok.lam, ok.lk⟩, S.cl, S.hs, S.hf, po⟩) hb
          have suite : ∀ (x : Xn) (a : Addr) (oe : Obj) (cls : Value) (d : Option Addr) (pn : List (Addr × Obj)), Zc cls d oe → (∃ vs, oe.data = .fields vs) → PSs (X.suite a ((a, oe) :: pn)) (hd :: hs) (tS X.K (exOf ex X.K ca sb x a cls d) ca WF c.io (evS F sb cf h')) := fun x a oe cls d pn hz hf => hot_ok S hz hf hh
          split at h
          · cases h
            exact p_try0 S.hs S.hf hn ok.tk cool.2.2 (fun z hz => ok.lk.exm z kk hz hlt) body suite
          · rename_i y
            split at h
            · rename_i hy
              split at h
              · rename_i i hi
                cases h
                obtain ⟨f1, f2, f3, f4⟩ := tgt_of ok hi
                exact p_try1 S.hs S.hf nd f1 (ok.loc1 _ (by simpa using hy)) f4 hn ok.tk cool.2.2 (fun z hz => ok.lk.exm z kk hz hlt) body suite
              · cases h
            · cases h
        · cases h
      · cases h
  · cases h
theorem s_sound (F n : Nat) : HS ca sb k cf F n := by
  induction n with
  | zero => exact fun X c ex W S st r h => by simp [cS] at h
  | succ n ih => exact s_step F n ih
theorem b_sound (F : Nat) {X : Cx} {c : CE} {ex : ExF} {W : WX} (S : SOk X c ex W ca sb k cf) {b : List Stmt} {r : IS} (h : cB c b = some r) : PSs X b (tS X.K ex ca W c.io (evS F sb cf r)) :=
  ssq_ok (s_sound F 60 X c ex W S) h
end
end Rf
/-! R17: defs do as the small language says; the law's end. -/
namespace Rf
open PySem PySem.Spec PyProof.Rows L2
/-- a def of the text, as it stands behind the top; cs: code objects and their tables, for defs that make lambdas -/
structure FnT (K : PySem.W.Frag) (mg : Str → Option Value) (c : CE) (prog : List FnI) (cs : List (Addr × Addr)) (T : List (Addr × Str)) (x : Str) (fi np : Nat) (io : Bool) : Prop where
  ex : ∃ (name qual : Str) (params : Arguments) (body : List Stmt) (scope : Scope) (dV kV doc pm cdv ct oc : Value) (an od : Option Addr) (osl : Array (Option Value)) (f : Addr) (N ps : List Str) (I : FnI) (clo : Option (Str × Nat)) (lam : Bool),
    K.lookup f = some ⟨oc, od, .func (PySem.W.fnOf name qual params body scope dV kV doc pm an cdv ct), osl⟩ ∧ PySem.W.codeIn K cdv qual = true ∧ PySem.W.keepIn K (.ref f) = true ∧ mg x = some (.ref f) ∧
    Binds K (PySem.W.fnOf name qual params body scope dV kV doc pm an cdv ct) ps [] ∧ FnScope N ps scope ∧ prog[fi]? = some I ∧ I.np = np ∧ ps.length = np ∧ I.ns = N.length ∧ I.io = io ∧ (io = true → 0 < np) ∧
    (x ∈ c.hfs → name = x ∧ qual = x ∧ io = false ∧ lam = false ∧ ∃ a, clo = some (a, 0) ∧ ps = [a] ∧ (a == ("__debug__" : Str)) = false ∧ (a == ("__classdict__" : Str)) = false) ∧
    (lam = true → ∃ cc P, cdv = .ref cc ∧ (cc, P) ∈ cs ∧ (P, qual ++ ".<locals>." ++ "<lambda>") ∈ T ∧ ∀ p ∈ T, p.1 = P → p.2 = qual ++ ".<locals>." ++ "<lambda>") ∧
    cB { c with N := N, sc := scope, io := io, clo := clo, lam := lam } body = some I.body
structure TabOk (P : Program) (base : Heap) (K : PySem.W.Frag) (mg : Str → Option Value) (c : CE) (prog : List FnI) (ca : Nat → Addr) (sb : Sub) (cs : List (Addr × Addr)) (T : List (Addr × Str)) : Prop where
  fn : ∀ x fi np io, ixF x c.fns = some (fi, np, io) → FnT K mg c prog cs T x fi np io
  tb : ∀ p ∈ cs, LamX.TabB base mg p.1 p.2
  hot : c.hot = false
  cs : ∀ x d, c.cst.lookup x = some d → ∃ u v, mg x = some u ∧ RelV v u ∧ ∀ H, Fz K H d v
  ex : ∀ x i, ixS x c.exs = some i → mg x = some (.ref (ca i))
  bl : ∀ x, x ∈ c.blt → x ≠ "gcd" → mg x = none
  gcd : ("gcd" : Str) ∈ c.blt → mg "gcd" = some (.builtin "math.gcd")
  kit : ∀ z i, sb z z = true → i < c.exs.length → PySem.W.kitOne K (.ref (ca z)) (.ref (ca i)) = some (sb z i)
  exm : ∀ z i, sb z z = true → i < c.exs.length → PySem.W.exmOne K (.ref (ca z)) (.ref (ca i)) = some (sb z i)
  exc : ∀ z, sb z z = true → ExcC K (ca z)
  rai : ∀ x i, x ∈ c.rs → ixS x c.exs = some i → (∃ B newId initId bmB, ExcBaseFacts B newId initId bmB ∧ PySem.W.excIn K (ca i) bmB newId = true) ∧ PySem.W.keepIn K (.ref (ca i)) = true ∧ PySem.W.subIn K (.ref (ca i)) (.type "BaseException") = some true ∧ PySem.W.typeIn K (.ref (ca i)) = some (.type "type")
  rac : ∀ x i, x ∈ c.rc → ixS x c.exs = some i → GeC P K (ca i)
  xf : ∀ z, sb z z = true → XfC K (ca z) ∧ PySem.W.findIn K (.ref (ca z)) "code" = some none
section
variable {P : Program} {w : World} {K : PySem.W.Frag} {mg : Str → Option Value} {base : Heap} {c : CE} {prog : List FnI} {ca : Nat → Addr} {sb : Sub} {F : Nat} {cs : List (Addr × Addr)}
theorem visB_of {sc : Scope} {x : Str} (h : visB sc x = true) : L2.Vis sc x := by
  unfold visB at h
  split at h
  · rename_i e; exact .inl e
  · rename_i e; exact .inr (.inl e)
  · rename_i e; exact .inr (.inr e)
  · cases h
theorem locB_of {sc : Scope} {x : Str} (h : locB sc x = true) : L2.Loc sc x := by
  unfold locB at h
  split at h
  · rename_i e; exact .inl e
  · rename_i e; exact .inr e
  · cases h
theorem glB_of {sc : Scope} {x : Str} (h : glB sc x = true) : sc.names.lookup x = some .globalImplicit := by
  unfold glB at h
  split at h
  · rename_i e; exact e
  · cases h
theorem cf_len {k fi : Nat} {args : List Sl} (h : callK F sb prog (k + 1) fi args ≠ .bad) : ∃ I, prog[fi]? = some I ∧ args.length = I.np ∧ callK F sb prog (k + 1) fi args = (match evS F sb (callK F sb prog k) I.body (args ++ List.replicate (I.ns - I.np) .un) with
      | .ok (.rt s) σ => .ok s (if I.io = true then (σ[0]?).getD .un else .un)
      | .ok .nx σ => .ok (.im .non) (if I.io = true then (σ[0]?).getD .un else .un)
      | .exc x _ => .exc x
      | _ => .bad) := by
  unfold callK at h ⊢
  split at h
  · exact absurd rfl h
  · rename_i I e
    split at h
    · rename_i hl
      refine ⟨I, e, hl, ?_⟩
      rw [if_pos hl]
      try rfl
    · exact absurd rfl h
theorem spF_not {g : List Sl → FR} {io : Bool} {vs : List V} {H : Hp} {Q : VK} {E : XK} {TT : List (Addr × Str)} (h : spF K ca TT g io vs H Q E) : ∃ args : List Sl, g args ≠ .bad ∧ args.length = vs.length := by
  cases io with
  | false =>
    obtain ⟨_, ds, f, q⟩ := h
    refine ⟨ds.map .im, fun e => ?_, by rw [List.length_map, f.length]⟩
    rw [e] at q
    exact q
  | true =>
    obtain ⟨_, cs, a, xs, ds, vs', rfl, h1, f1, f, q⟩ := h
    refine ⟨.mu cs :: ds.map .im, fun e => ?_, by rw [List.length_cons, List.length_cons, List.length_map, f.length]⟩
    rw [e] at q
    exact q
/-- at a def's entry -/
theorem start_len {N : List Str} {vs : List V} (h : vs.length ≤ N.length) : (L2.start N vs).length = N.length := by
  unfold L2.start
  rw [List.length_append, List.length_map, List.length_replicate]
  omega
theorem im_get {ds : List D} {n i : Nat} {s : Sl} (h : (ds.map Sl.im ++ List.replicate n .un)[i]? = some s) : (∃ d, ds[i]? = some d ∧ s = .im d) ∨ s = .un := by
  rw [List.getElem?_append] at h
  split at h
  · rw [List.getElem?_map] at h
    obtain ⟨d, h1, h2⟩ := Option.map_eq_some_iff.mp h
    exact .inl ⟨d, h1, h2.symm⟩
  · exact .inr ((List.mem_replicate.mp (List.mem_of_getElem? h)).2)
theorem st_get {vs : List V} {n i : Nat} {v : V} (h : vs[i]? = some v) : (vs.map some ++ List.replicate n (none : Option V))[i]? = some (some v) := by
  rw [List.getElem?_append_left (by rw [List.length_map]; exact (List.getElem?_eq_some_iff.mp h).1), List.getElem?_map, h]
  rfl
theorem rs_im {ex : ExF} {H : Hp} {ds : List D} {vs : List V} {n : Nat} (tb : ex.TJ H) (f : FzL K H ds vs) : RS K ex H (ds.map Sl.im ++ List.replicate n .un) (vs.map some ++ List.replicate n none) where
  tab := tb
  len := by simp [f.length]
  at_ := fun i s h => by
    rcases im_get h with ⟨d, h1, rfl⟩ | rfl
    · obtain ⟨v, h2, h3⟩ := f.get h1
      exact ⟨v, st_get h2, h3⟩
    · exact True.intro
  inj := fun i j ds' es a h1 _ _ _ => by
    rcases im_get h1 with ⟨d, _, e⟩ | e <;> cases e
theorem own_im {ds : List D} {n : Nat} {σ : L2.St} {a : Addr} (h : Own (ds.map Sl.im ++ List.replicate n .un) σ a) : False := by
  obtain ⟨i, es, h1, _⟩ := h
  rcases im_get h1 with ⟨d, _, e⟩ | e <;> cases e
theorem rs_mu {ex : ExF} {H : Hp} {ds cs : List D} {vs xs : List V} {n : Nat} {a : Addr} (tb : ex.TJ H) (h0 : H a = some (.lst xs)) (f0 : FzL K H cs xs) (f : FzL K H ds vs) : RS K ex H (.mu cs :: (ds.map Sl.im ++ List.replicate n .un)) (some (.ref a) :: (vs.map some ++ List.replicate n none)) where
  tab := tb
  len := by simp [f.length]
  at_ := fun i s h => by
    cases i with
    | zero =>
      rw [List.getElem?_cons_zero] at h
      cases h
      exact ⟨a, xs, rfl, h0, f0⟩
    | succ i =>
      rw [List.getElem?_cons_succ] at h ⊢
      exact (rs_im (ex := ex) (n := n) tb f).at_ i s h
  inj := fun i j ds' es b h1 h2 _ _ => by
    cases i with
    | succ i =>
      rw [List.getElem?_cons_succ] at h1
      rcases im_get h1 with ⟨d, _, e⟩ | e <;> cases e
    | zero => cases j with
      | succ j =>
        rw [List.getElem?_cons_succ] at h2
        rcases im_get h2 with ⟨d, _, e⟩ | e <;> cases e
      | zero => rfl
theorem own_mu {ds cs : List D} {n : Nat} {σ : L2.St} {a b : Addr} (h : Own (.mu cs :: (ds.map Sl.im ++ List.replicate n .un)) (some (.ref a) :: σ) b) : b = a := by
  obtain ⟨i, es, h1, h2⟩ := h
  cases i with
  | zero =>
    rw [List.getElem?_cons_zero] at h2
    cases h2; rfl
  | succ i =>
    rw [List.getElem?_cons_succ] at h1
    rcases im_get h1 with ⟨d, _, e⟩ | e <;> cases e
def lv (k : Nat) : Nat := 3 * k + 8
theorem fn_one {TT : List (Addr × Str)} (T : TabOk P base K mg c prog ca sb cs TT) {k : Nat} (ih : Lk c.fns c.cst c.exs c.blt c.rs c.rc c.hfs ca sb (lv k) (callK F sb prog k) TT P w K mg base) {fi np : Nat} {io : Bool} {name qual : Str} {params : Arguments} {body : List Stmt} {scope : Scope} {dV kV doc pm cdv ct oc : Value} {an od : Option Addr} {osl : Array (Option Value)} {f : Addr} {N ps : List Str} {I : FnI} {clo : Option (Str × Nat)} {lam : Bool}
    (h1 : K.lookup f = some ⟨oc, od, .func (PySem.W.fnOf name qual params body scope dV kV doc pm an cdv ct), osl⟩) (h2 : PySem.W.codeIn K cdv qual = true) (h6 : FnScope N ps scope) (h7 : prog[fi]? = some I) (h8 : I.np = np) (h9 : ps.length = np) (h10 : I.ns = N.length) (h11 : I.io = io)
    (hlam : lam = true → ∃ cc P, cdv = .ref cc ∧ (cc, P) ∈ cs ∧ (P, qual ++ ".<locals>." ++ "<lambda>") ∈ TT ∧ ∀ p ∈ TT, p.1 = P → p.2 = qual ++ ".<locals>." ++ "<lambda>")
    (h13 : cB { c with N := N, sc := scope, io := io, clo := clo, lam := lam } body = some I.body) :
    FnOk P w K mg base (L2.CX P w) (lv (k + 1)) f (PySem.W.fnOf name qual params body scope dV kV doc pm an cdv ct) ps (spF K ca TT (callK F sb prog (k + 1) fi) io) := by
  have len : ∀ vs H Q E, spF K ca TT (callK F sb prog (k + 1) fi) io vs H Q E → vs.length = ps.length := fun vs H Q E q => by
    obtain ⟨as, ne, hl⟩ := spF_not q
    obtain ⟨I', e1, e2, _⟩ := cf_len ne
    rw [h7] at e1
    cases e1
    rw [← hl, e2, h8, h9]
  refine fn_of (k := 3 * k + 10) h1 h2 h6 len fun A outer s H vs Q E hr q => ?_
  let X := cxOf (L2.CX P w) P w K mg base N qual scope f cdv A outer s H E
  have hrk : Room (lv k) X.A := hr.mono (by unfold lv; omega)
  have S : SOk X { c with N := N, sc := scope, io := io, clo := clo, lam := lam } (ExF.of TT) (fun cls d _ H => E cls d H) ca sb (lv k) (callK F sb prog k) :=
    { ok :=
      { vis := fun x h => visB_of h
        loc := fun x h => ⟨locB_of h, .inl rfl⟩
        loc1 := fun x h => h
        loc2 := fun x h => h
        gl := fun x h => glB_of h
        fre := fun x h => h
        N := rfl
        nd := h6.nd
        cool := fun _ => ⟨rfl, by cases lam; exact hrk; exact hr.mono (by unfold lv; show 3 * k + 8 + 2 ≤ _; omega), fun _ _ z => z⟩
        un := by have := hr.un; show (A.deeper _).units + 300 < _; omega
        k8 := by unfold lv; omega
        exx := fun _ _ z => z.elim
        tk := L2.takes_of rfl rfl rfl rfl
        clk := fun a i _ _ W' pn xe tk p1 p2 => ⟨fun pins s σ H Q I ⟨σd, rs, q⟩ => by
          dsimp only at q
          cases e0 : σd[i]? with
          | none => rw [e0] at q; exact q.elim
          | some s0 => cases s0 with
            | clo g =>
              obtain ⟨b, _, z⟩ := rs.at_ i _ e0
              cases z
            | _ => rw [e0] at q; exact q.elim⟩
        xcd := fun z => Bool.noConfusion (T.hot.symm.trans z)
        lam := fun hl _ => by
          obtain ⟨cc, P', e1, e2, e3, e4⟩ := hlam hl
          exact ⟨cc, P', e1, T.tb _ e2, e3, e4, fun x h => visB_of h, rfl⟩
        lk := ih }
      cl := T.hot
      hs := rfl
      hf := rfl
      po := L2.passes_of (X := X) rfl }
  refine ⟨_, b_sound F S h13, ?_⟩
  have hvl := len vs H Q E q
  have hpl : ps.length ≤ N.length := by have := congrArg List.length h6.pre; rw [List.length_take] at this; omega
  cases io with
  | false =>
    obtain ⟨tb, ds, f, q⟩ := q
    have ne : callK F sb prog (k + 1) fi (ds.map .im) ≠ .bad := fun e => by rw [e] at q; exact q
    obtain ⟨I', e1, e2, e3⟩ := cf_len ne
    rw [h7] at e1
    cases e1
    rw [e3, h11] at q
    have hn : I.ns - I.np = N.length - vs.length := by rw [h10, hvl, h9, h8]
    rw [hn] at q
    have r0 : RS K (ExF.of TT) H (ds.map Sl.im ++ List.replicate (N.length - vs.length) .un) (L2.start N vs) := rs_im ⟨tb, True.intro⟩ f
    have same : ∀ {σd' σ' H'}, NxS K (ExF.of TT) false (ds.map Sl.im ++ List.replicate (N.length - vs.length) .un) (L2.start N vs) H σd' σ' H' → SmT TT H H' := fun n => ⟨fun a o h hm => n.nx.ext a o h own_im hm, n.nx.rs.tab.1, n.nx.dom⟩
    refine ⟨_, r0, ?_⟩
    show FlP K (ExF.of TT) ca (fun cls d _ H => E cls d H) false _ _ _ _ (evS F sb (callK F sb prog k) I.body _)
    cases ev : evS F sb (callK F sb prog k) I.body (ds.map Sl.im ++ List.replicate (N.length - vs.length) .un) with
    | bad => rw [ev] at q; exact q.elim
    | exc x s => rw [ev] at q; exact fun d σ' H' n xc => q d H' (same n) xc
    | ok fl s =>
      rw [ev] at q
      cases fl with
      | nx => exact fun σ' H' n => q .non H' (same n) rfl
      | bk => exact q.elim
      | ct => exact q.elim
      | rt t => exact fun v σ' H' n vr => q v H' (same n) (by
          cases t with
          | un => exact True.intro
          | im d => exact vr
          | exn x => exact vr
          | clo x => exact vr
          | mu es =>
            obtain ⟨a, xs, e, g1, g2, no, p⟩ := vr
            exact ⟨a, xs, e, p.resolve_left own_im, g1, g2⟩)
  | true =>
    obtain ⟨tb, cs, a, xs, ds, vs', rfl, g0, f0, f, q⟩ := q
    have ne : callK F sb prog (k + 1) fi (.mu cs :: ds.map .im) ≠ .bad := fun e => by rw [e] at q; exact q
    obtain ⟨I', e1, e2, e3⟩ := cf_len ne
    rw [h7] at e1
    cases e1
    rw [e3, h11] at q
    have hn : I.ns - I.np = N.length - (V.ref a :: vs').length := by rw [h10, hvl, h9, h8]
    rw [hn] at q
    have r0 : RS K (ExF.of TT) H (.mu cs :: (ds.map Sl.im ++ List.replicate (N.length - (V.ref a :: vs').length) .un)) (L2.start N (V.ref a :: vs')) := rs_mu ⟨tb, True.intro⟩ g0 f0 f
    have frame : ∀ {σd' σ' H'}, NxS K (ExF.of TT) true (.mu cs :: (ds.map Sl.im ++ List.replicate (N.length - (V.ref a :: vs').length) .un)) (L2.start N (V.ref a :: vs')) H σd' σ' H' → SmB TT a H H' := fun n => ⟨fun b o h hb hm => n.nx.ext b o h (fun z => hb (own_mu z)) hm, n.nx.rs.tab.1, fun b o h _ => n.nx.dom b o h⟩
    refine ⟨_, r0, ?_⟩
    show FlP K (ExF.of TT) ca (fun cls d _ H => E cls d H) true _ _ _ _ (evS F sb (callK F sb prog k) I.body _)
    have q : (match (match evS F sb (callK F sb prog k) I.body (.mu cs :: (ds.map Sl.im ++ List.replicate (N.length - (V.ref a :: vs').length) .un)) with
        | .ok (.rt s) σ => FR.ok s (if true = true then (σ[0]?).getD .un else .un)
        | .ok .nx σ => FR.ok (.im .non) (if true = true then (σ[0]?).getD .un else .un)
        | .exc x _ => FR.exc x
        | _ => FR.bad) with
      | .ok s (.mu cs') => ∀ v H' xs', SmB TT a H H' → H' a = some (.lst xs') → FzL K H' cs' xs' → VF K H H' s v → Q v H'
      | .exc x => ∀ d H', SmB TT a H H' → (∃ o, H' a = some o) → XcR K H' x d → E (.ref (ca x.cls)) d H'
      | _ => False) := q
    have fin : ∀ {s : Sls} {t : Sl} {v : V} {σ' : L2.St} {H' : Hp}, NxS K (ExF.of TT) true (.mu cs :: (ds.map Sl.im ++ List.replicate (N.length - (V.ref a :: vs').length) .un)) (L2.start N (V.ref a :: vs')) H s σ' H' →
        (match FR.ok t (if true = true then (s[0]?).getD .un else .un) with
      | .ok s (.mu cs') => ∀ v H' xs', SmB TT a H H' → H' a = some (.lst xs') → FzL K H' cs' xs' → VF K H H' s v → Q v H'
      | .exc x => ∀ d H', SmB TT a H H' → (∃ o, H' a = some o) → XcR K H' x d → E (.ref (ca x.cls)) d H'
      | _ => False) → ((Own s σ' a) → VF K H H' t v) → Q v H' := fun {s t v σ' H'} n q hv => by
      rw [if_pos rfl] at q
      cases e0 : s[0]? with
      | none => rw [e0] at q; exact q.elim
      | some s0 =>
        rw [e0] at q
        cases s0 with
        | mu cs' =>
          obtain ⟨a', xs', j1, j2, j3⟩ := n.nx.rs.at_ 0 _ e0
          have j4 := n.z rfl
          rw [j1] at j4
          have j5 : a' = a := by
            have : (L2.start N (V.ref a :: vs'))[0]? = some (some (.ref a)) := rfl
            rw [this] at j4
            cases j4; rfl
          subst j5
          exact q v H' xs' (frame n) j2 j3 (hv ⟨0, cs', e0, j1⟩)
        | _ => exact q.elim
    cases ev : evS F sb (callK F sb prog k) I.body (.mu cs :: (ds.map Sl.im ++ List.replicate (N.length - (V.ref a :: vs').length) .un)) with
    | bad => rw [ev] at q; exact q.elim
    | exc x s => rw [ev] at q; exact fun d σ' H' n xc => q d H' (frame n) (n.nx.dom a _ g0) xc
    | ok fl s =>
      rw [ev] at q
      cases fl with
      | nx => exact fun σ' H' n => fin n q fun _ => rfl
      | bk => exact q.elim
      | ct => exact q.elim
      | rt t => exact fun v σ' H' n vr => fin n q fun ow => (by
          cases t with
          | un => exact True.intro
          | im d => exact vr
          | exn x => exact vr
          | clo x => exact vr
          | mu es =>
            obtain ⟨b, ys, e, j1, j2, no, p⟩ := vr
            refine ⟨b, ys, e, p.resolve_left fun z => ?_, j1, j2⟩
            have := own_mu z
            subst this
            exact no ow)
theorem hof_bad {TT : List (Addr × Str)} {X : Cx} {Ng : List Str} {x : Str} {sg : Scope} {g : Addr} {cdg : Value} {bg : List Stmt} {a q : Str} {g0 : List Sl → FR} (h : ∀ as, g0 as = .bad) : GivesD X Ng x sg g cdg bg a q (TTh K ca TT g0) := by
  intro f c' s H Q tl act hc ⟨_, fcl, J, _, _, _, res⟩
  rw [h] at res
  exact res.elim
theorem hof_one {TT : List (Addr × Str)} (T : TabOk P base K mg c prog ca sb cs TT) {k : Nat} (ih : Lk c.fns c.cst c.exs c.blt c.rs c.rc c.hfs ca sb (lv k) (callK F sb prog k) TT P w K mg base) {fi : Nat} {a : Str} {body : List Stmt} {scope : Scope} {cdv : Value} {f : Addr} {x : Str} {N : List Str} {I : FnI} (h6 : FnScope N [a] scope) (h7 : prog[fi]? = some I) (h8 : I.np = 1) (h10 : I.ns = N.length) (h11 : I.io = false)
    (hN : N[0]? = some a) (hva : L2.Vis scope a) (h13 : cB { c with N := N, sc := scope, io := false, clo := some (a, 0), lam := false } body = some I.body) (X : Cx) (q : Str) (e1 : X.prog = P) (e2 : X.w = w) (e3 : X.K = K) (e4 : X.mg = mg) (e5 : X.base = base) (hr : Room (lv (k + 1)) X.A) :
    GivesD X N x scope f cdv body a q (TTh K ca TT (callK F sb prog (k + 1) fi)) := by
  subst e1 e2 e3 e4 e5
  intro fa c' s H Q tl act hc ⟨T0, fcl, J, JK, J0, cl, res⟩
  have ne : callK F sb prog (k + 1) fi [.clo fcl] ≠ .bad := fun e => by rw [e] at res; exact res
  obtain ⟨I', i1, i2, i3⟩ := cf_len ne
  rw [h7] at i1
  cases i1
  rw [i3, h11] at res
  let Y := (cxOf C8.CX0 X.prog X.w X.K X.mg X.base N x scope f cdv X.A X.stack s H C8.E0).nox
  let ex : ExF := ⟨fun _ _ => False, TT, fun H' => J H' ∧ H' c' = some (LamX.CodeO c' q), fun H1 H2 kp h => ⟨JK H1 H2 kp h.1, kp _ _ h.2 codeO_lst LamX.codeO_ne⟩, some (fa, fcl)⟩
  have hr2 : Room (3 * k + 10) Y.A := hr.deeper _
  have S : SOk Y { c with N := N, sc := scope, io := false, clo := some (a, 0), lam := false } ex (fun _ _ _ _ => False) ca sb (lv k) (callK F sb prog k) :=
    { ok :=
      { vis := fun x h => visB_of h
        loc := fun x h => ⟨locB_of h, .inl rfl⟩
        loc1 := fun x h => h
        loc2 := fun x h => h
        gl := fun x h => glB_of h
        fre := fun x h => h
        N := rfl
        nd := h6.nd
        cool := fun _ => ⟨rfl, hr2.mono (by unfold lv; show 3 * k + 8 + 0 ≤ _; omega), fun _ _ z => z⟩
        un := by have := hr2.un; show Y.A.units + 300 < _; omega
        k8 := by unfold lv; omega
        exx := fun _ _ z => z.elim
        tk := LamX.takes0
        clk := fun a' i' h _ W' pn xe tk p1 p2 => by
          cases h
          refine ⟨fun pins s2 σ H2 Q2 I2 ⟨σd, rs, q2⟩ => ?_⟩
          dsimp only at q2
          cases e0 : σd[0]? with
          | none => rw [e0] at q2; exact q2.elim
          | some s0 => cases s0 with
            | clo g =>
              rw [e0] at q2
              obtain ⟨b, z1, z2⟩ := rs.at_ 0 _ e0
              cases z2
              refine (act W' pn xe p1 p2 tk).run pins s2 σ H2 Q2 I2 ⟨z1, rs.tab.2.2, cl H2 _ Q2 rs.tab.1 rs.tab.2.1 ?_⟩
              have q2 : Res Y.K ex ca W' σd σ H2 (cloR (fcl []) σd) (fun s σd' => ∀ (v : V) (H' : Hp), Nx Y.K ex σd σ H2 σd' σ H' → ValR Y.K (fun a => H2 a = none) H' σd' σ s v → Q2 v H') := q2
              cases e9 : fcl [] with
              | none => rw [e9] at q2; exact q2.elim
              | some r => cases r with
                | inl x => rw [e9] at q2; exact fun d H' sm xc => q2 d H' (.sm rs sm) xc
                | inr d => rw [e9] at q2; exact fun v H' sm hv => q2 v H' (.sm rs sm) hv
            | _ => rw [e0] at q2; exact q2.elim
        xcd := fun z => Bool.noConfusion (T.hot.symm.trans z)
        lam := fun z => nomatch z
        lk := ih }
      cl := T.hot
      hs := rfl
      hf := rfl
      po := .never }
  refine ⟨_, b_sound F S h13, ?_⟩
  have hpl : 1 ≤ N.length := by have := congrArg List.length h6.pre; rw [List.length_take] at this; simp at this; omega
  have hn : I.ns - I.np = N.length - 1 := by rw [h10, h8]
  rw [hn] at res
  have ownz : ∀ b, Own ([Sl.clo fcl] ++ List.replicate (N.length - 1) .un) (L2.start N [.ref fa]) b → False := fun b z => by
    obtain ⟨i, ds, z1, _⟩ := z
    cases i with
    | zero => cases z1
    | succ i =>
      have z1 : (List.replicate (N.length - 1) Sl.un)[i]? = some (.mu ds) := z1
      have := (List.mem_replicate.mp (List.mem_of_getElem? z1)).2
      cases this
  have r0 : RS X.K ex H ([Sl.clo fcl] ++ List.replicate (N.length - 1) .un) (L2.start N [.ref fa]) :=
    { len := by rw [start_len (show [V.ref fa].length ≤ N.length from hpl)]; simp; omega
      at_ := fun i sl h => by
        cases i with
        | zero => cases h; exact ⟨fa, rfl, rfl⟩
        | succ i =>
          have h : (List.replicate (N.length - 1) Sl.un)[i]? = some sl := h
          have := (List.mem_replicate.mp (List.mem_of_getElem? h)).2
          subst this
          exact True.intro
      inj := fun i j ds es b z1 _ z3 _ => (ownz b ⟨i, ds, z1, z3⟩).elim
      tab := ⟨T0, J0, hc⟩ }
  refine ⟨_, r0, ?_⟩
  have same : ∀ {σd' σ' H'}, NxS X.K ex false ([Sl.clo fcl] ++ List.replicate (N.length - 1) .un) (L2.start N [.ref fa]) H σd' σ' H' → SmT TT H H' := fun n => ⟨fun a o h hm => n.nx.ext a o h (ownz a) hm, n.nx.rs.tab.1, n.nx.dom⟩
  show FlP X.K ex ca _ false _ _ _ _ (evS F sb (callK F sb prog k) I.body _)
  have res : (match (match evS F sb (callK F sb prog k) I.body ([Sl.clo fcl] ++ List.replicate (N.length - 1) .un) with
      | .ok (.rt s) σ => FR.ok s (if false = true then (σ[0]?).getD .un else .un)
      | .ok .nx σ => FR.ok (.im .non) (if false = true then (σ[0]?).getD .un else .un)
      | .exc x _ => FR.exc x
      | _ => FR.bad) with
    | .ok s _ => ∀ v H', SmT TT H H' → VF X.K H H' s v → Q v H'
    | _ => False) := res
  cases ev : evS F sb (callK F sb prog k) I.body ([Sl.clo fcl] ++ List.replicate (N.length - 1) .un) with
  | bad => rw [ev] at res; exact res.elim
  | exc x s => rw [ev] at res; exact res.elim
  | ok fl s =>
    rw [ev] at res
    cases fl with
    | nx => exact fun σ' H' n => res .non H' (same n) rfl
    | bk => exact res.elim
    | ct => exact res.elim
    | rt t => exact fun v σ' H' n vr => res v H' (same n) (by
        cases t with
        | un => exact True.intro
        | im d => exact vr
        | exn x => exact vr
        | clo x => exact vr
        | mu es =>
          obtain ⟨a, xs, e, g1, g2, no, p⟩ := vr
          exact ⟨a, xs, e, p.resolve_left (ownz a), g1, g2⟩)
theorem hof_all {TT : List (Addr × Str)} (T : TabOk P base K mg c prog ca sb cs TT) {k : Nat} (h : k = 0 ∨ ∃ j, k = j + 1 ∧ Lk c.fns c.cst c.exs c.blt c.rs c.rc c.hfs ca sb (lv j) (callK F sb prog j) TT P w K mg base) (x : Str) (hx : x ∈ c.hfs) (fi np : Nat) (io : Bool) (e : ixF x c.fns = some (fi, np, io)) :
    HofP P w K mg base ca TT (lv k) (callK F sb prog k fi) x := by
  obtain ⟨name, qual, params, body, scope, dV, kV, doc, pm, cdv, ct, oc, an, od, osl, f, N, ps, I, clo, lam, h1, h2, h3, h4, h5, h6, h7, h8, h9, h10, h11, h12, hh, hl, h13⟩ := (T.fn x fi np io e).ex
  obtain ⟨rfl, rfl, rfl, rfl, a, rfl, rfl, d1, d2⟩ := hh hx
  have pre := h6.pre
  have hpl : 1 ≤ N.length := by have := congrArg List.length pre; rw [List.length_take] at this; simp at this; omega
  have hN : N[0]? = some a := by
    cases N with
    | nil => simp at hpl
    | cons b r => simp at pre; rw [pre]; rfl
  have hva : L2.Vis scope a := by
    rcases h6.par a (List.mem_singleton.mpr rfl) with z | z
    · exact .inl z
    · exact .inr (.inl z)
  refine ⟨a, f, params, body, scope, dV, kV, doc, pm, cdv, ct, oc, an, od, osl, N, h4, h3, h1, h2, h5, h6, hN, hva, d1, d2, fun X q e1 e2 e3 e4 e5 hr => ?_⟩
  rcases h with rfl | ⟨j, rfl, ih⟩
  · exact hof_bad fun as => rfl
  · exact hof_one T ih h6 h7 (by rw [h8, ← h9]; rfl) h10 h11 hN hva h13 X q e1 e2 e3 e4 e5 hr
theorem fn_all {TT : List (Addr × Str)} (T : TabOk P base K mg c prog ca sb cs TT) : ∀ k, Lk c.fns c.cst c.exs c.blt c.rs c.rc c.hfs ca sb (lv k) (callK F sb prog k) TT P w K mg base := by
  intro k
  induction k with
  | zero =>
    refine ⟨fun x fi np io h => ?_, T.cs, T.ex, T.bl, T.gcd, T.kit, T.exm, T.exc, T.rai, T.rac, T.xf, hof_all T (.inl rfl)⟩
    obtain ⟨name, qual, params, body, scope, dV, kV, doc, pm, cdv, ct, oc, an, od, osl, f, N, ps, I, clo, lam, h1, h2, h3, h4, h5, h6, h7, h8, h9, h10, h11, h12, hh, hl, h13⟩ := (T.fn x fi np io h).ex
    refine ⟨f, _, ps, ⟨fun vs H Q E q => ?_, fun A outer s H args us vs Q E hr he hb hv q => ?_⟩, h4, h3, h5, h9⟩
    · obtain ⟨as, ne, _⟩ := spF_not q
      exact absurd rfl ne
    · obtain ⟨as, ne, _⟩ := spF_not q
      exact absurd rfl ne
  | succ k ih =>
    refine ⟨fun x fi np io h => ?_, T.cs, T.ex, T.bl, T.gcd, T.kit, T.exm, T.exc, T.rai, T.rac, T.xf, hof_all T (.inr ⟨k, rfl, ih⟩)⟩
    obtain ⟨name, qual, params, body, scope, dV, kV, doc, pm, cdv, ct, oc, an, od, osl, f, N, ps, I, clo, lam, h1, h2, h3, h4, h5, h6, h7, h8, h9, h10, h11, h12, hh, hl, h13⟩ := (T.fn x fi np io h).ex
    exact ⟨f, _, ps, fn_one T ih h1 h2 h6 h7 h8 h9 h10 h11 hl h13, h4, h3, h5, h9⟩
/-- no list stands in what the top has written -/
def noList (K : PySem.W.Frag) : Bool := K.all fun p => match p.2.cls with
  | .type t => t != "list"
  | _ => true
theorem lk_mem {a : Addr} {o : Obj} : ∀ {K : PySem.W.Frag}, K.lookup a = some o → (a, o) ∈ K
  | [], h => by cases h
  | (b, q) :: r, h => by
    rw [List.lookup_cons] at h
    split at h
    · rename_i e
      cases h
      have : a = b := by simpa using e
      rw [this]
      exact List.mem_cons_self
    · exact List.mem_cons_of_mem _ (lk_mem h)
theorem noList_of (h : noList K = true) {a : Addr} {o : Obj} (e : K.lookup a = some o) : o.cls ≠ .type "list" := fun z => by
  have := List.all_eq_true.mp h (a, o) (lk_mem e)
  dsimp only at this
  rw [z] at this
  exact absurd this (by decide)
theorem law_sp {g : List Sl → FR} (hK : noList K = true) {H : Hp} {a : Addr} {ns : List Int} (hO : Only H) (hS : SqL K H a (ns.map V.int)) {io : Sl} (hg : g [.im (.lst (ns.map D.int))] = .ok (.im (.bl true)) io) :
    spF K ca [] g false [.ref a] H (fun v _ => v = .bl true) fun _ _ _ => False := by
  have intsZ : ∀ ns : List Int, FzL K H (ns.map D.int) (ns.map V.int) := fun ns => by
    induction ns with
    | nil => rfl
    | cons n ns ih => exact ⟨_, _, rfl, rfl, ih⟩
  refine ⟨fun p hp => (nomatch hp), [.lst (ns.map D.int)], ⟨.ref a, [], rfl, ⟨a, _, rfl, ?_, intsZ ns⟩, rfl⟩, ?_⟩
  · rcases hS with (h | ⟨o, h⟩) | ⟨o, its, n, h, hc, _⟩
    · rcases hO a with z | ⟨o, xs, z⟩ <;> rw [h] at z <;> cases z
    · exact ⟨o, h⟩
    · exact absurd hc (noList_of hK h)
  · show (match g [.im (.lst (ns.map D.int))] with
      | .ok s _ => ∀ v H', SmT [] H H' → VF K H H' s v → v = .bl true
      | .exc x => ∀ d H', SmT [] H H' → XcR K H' x d → False
      | .bad => False)
    rw [hg]
    exact fun v H' _ h => h
end
end Rf
/-! R18: the table's facts, from lists. -/
namespace Rf
open PySem PySem.Spec PyProof.Rows L2
def AllF (K : PySem.W.Frag) (mg : Str → Option Value) (c : CE) (prog : List FnI) (cs : List (Addr × Addr)) (T : List (Addr × Str)) : Nat → List (Str × Nat × Bool) → Prop
  | _, [] => True
  | i, (x, np, io) :: r => FnT K mg c prog cs T x i np io ∧ AllF K mg c prog cs T (i + 1) r
section
variable {K : PySem.W.Frag} {mg : Str → Option Value} {c : CE} {prog : List FnI} {cs : List (Addr × Addr)} {T : List (Addr × Str)} {P : Program} {base : Heap}
theorem fn_tab : ∀ {l : List (Str × Nat × Bool)} {j : Nat}, AllF K mg c prog cs T j l → ∀ x fi np io, ixF x l = some (fi, np, io) → FnT K mg c prog cs T x (j + fi) np io
  | [], _, _, x, fi, np, io, e => by cases e
  | (y, m, b) :: r, j, h, x, fi, np, io, e => by
    unfold ixF at e
    split at e
    · rename_i e0
      cases e
      subst e0
      exact h.1
    · obtain ⟨⟨f1, n1, b1⟩, e1, e2⟩ := Option.map_eq_some_iff.mp e
      cases e2
      have := fn_tab h.2 x f1 np io e1
      rw [show j + (f1 + 1) = j + 1 + f1 by omega]
      exact this
theorem fn_tab0 (h : AllF K mg c prog cs T 0 c.fns) : ∀ x fi np io, ixF x c.fns = some (fi, np, io) → FnT K mg c prog cs T x fi np io := fun x fi np io e => by
  have := fn_tab h x fi np io e
  rwa [Nat.zero_add] at this
def AllB (mg : Str → Option Value) : List Str → Prop
  | [] => True
  | x :: r => mg x = none ∧ AllB mg r
theorem bl_tab : ∀ {l : List Str}, AllB mg l → ∀ x, x ∈ l → mg x = none
  | y :: r, h, x, m => by
    rcases List.mem_cons.mp m with rfl | m
    · exact h.1
    · exact bl_tab h.2 x m
theorem cx_no {P : Program} {w : World} {outer : List Env} {H : Hp} {s : Shared} {e : Value} {s' : Shared} (h : L2.CX P w outer H s (fun _ _ _ => False) e s') : False := by
  obtain ⟨_, _, _, _, _, _, _, _, _, _, _, _, q⟩ := h
  exact q
end
end Rf
/-! L1: reasoning on the small language. -/
namespace Rf
open PySem
def OkP {α : Type} (r : R α) (P : α → Sls → Prop) : Prop := ∃ a σ, r = .ok a σ ∧ P a σ
def FrP (r : FR) (P : Sl → Sl → Prop) : Prop := ∃ s io, r = .ok s io ∧ P s io
section
variable {α β : Type} {P : α → Sls → Prop} {σ : Sls}
theorem okp_ok {a : α} : OkP (.ok a σ) P = P a σ := propext ⟨fun ⟨_, _, e, h⟩ => by cases e; exact h, fun h => ⟨_, _, rfl, h⟩⟩
theorem okp_bind {r : R β} {f : β → Sls → R α} : OkP (r.bind f) P = OkP r fun a σ => OkP (f a σ) P := by
  cases r with
  | ok a s => rw [okp_ok]; rfl
  | exc x s => exact propext ⟨fun ⟨_, _, e, _⟩ => (nomatch e), fun ⟨_, _, e, _⟩ => (nomatch e)⟩
  | bad => exact propext ⟨fun ⟨_, _, e, _⟩ => (nomatch e), fun ⟨_, _, e, _⟩ => (nomatch e)⟩
theorem OkP.imp {P' : α → Sls → Prop} {r : R α} (h : OkP r P) (w : ∀ a σ, P a σ → P' a σ) : OkP r P' := by
  obtain ⟨a, s, e, p⟩ := h
  exact ⟨a, s, e, w a s p⟩
theorem okp_if {c : Prop} [Decidable c] {r s : R α} : OkP (if c then r else s) P = if c then OkP r P else OkP s P := by split <;> rfl
theorem okp_call {r : FR} {Q : Sl → Sl → Prop} {P : Sl → Sls → Prop} (h : FrP r Q) (w : ∀ s io, Q s io → P s σ) : OkP (callR r σ) P := by
  obtain ⟨s, io, rfl, q⟩ := h
  exact ⟨s, σ, rfl, w s io q⟩
theorem okp_cio {r : FR} {j : Nat} {Q : Sl → List D → Prop} {P : Sl → Sls → Prop} (h : FrP r fun s io => ∃ cs, io = .mu cs ∧ Q s cs) (w : ∀ s cs, Q s cs → P s (σ.set j (.mu cs))) : OkP (cioR r j σ) P := by
  obtain ⟨s, io, rfl, cs, rfl, q⟩ := h
  exact ⟨s, _, rfl, w s cs q⟩
/-- the end of a body -/
def endP (io : Bool) (P : Sl → Sl → Prop) : Fl → Sls → Prop
  | .rt s, σ => P s (if io = true then (σ[0]?).getD .un else .un)
  | .nx, σ => P (.im .non) (if io = true then (σ[0]?).getD .un else .un)
  | _, _ => False
theorem frp_fn {W : Nat} {sb : Sub} {prog : List FnI} {k fi np ns : Nat} {io : Bool} {body : IS} {args : List Sl} {P : Sl → Sl → Prop} (hp : prog[fi]? = some ⟨np, ns, io, body⟩) (ha : args.length = np)
    (h : OkP (evS W sb (callK W sb prog k) body (args ++ List.replicate (ns - np) .un)) (endP io P)) : FrP (callK W sb prog (k + 1) fi args) P := by
  obtain ⟨fl, s, e, q⟩ := h
  unfold callK
  rw [hp]
  dsimp only
  rw [if_pos ha, e]
  cases fl with
  | nx => exact ⟨_, _, rfl, q⟩
  | bk => exact q.elim
  | ct => exact q.elim
  | rt t => exact ⟨_, _, rfl, q⟩
end
/-! ### equality -/
section
variable {a b : D}
theorem deep_int {i : Int} : (D.int i).deep = 0 := rfl
theorem deep_str {i : Str} : (D.str i).deep = 0 := rfl
theorem deep_bl {i : Bool} : (D.bl i).deep = 0 := rfl
theorem deep_non : D.non.deep = 0 := rfl
def deepL : List D → Nat
  | [] => 0
  | x :: xs => max x.deep (deepL xs)
theorem deepL_eq : ∀ xs : List D, PyData.depthAll (D.pys xs) = deepL xs
  | [] => by simp [D.pys, PyData.depthAll, deepL]
  | x :: xs => by
    simp only [D.pys, PyData.depthAll, deepL, deepL_eq xs]
    rfl
theorem deep_tup {xs : List D} : (D.tup xs).deep = deepL xs + 1 := by
  show PyData.depth (D.py (.tup xs)) = _
  simp only [D.py, PyData.depth, deepL_eq]
theorem deep_lst {xs : List D} : (D.lst xs).deep = deepL xs + 1 := by
  show PyData.depth (D.py (.lst xs)) = _
  simp only [D.py, PyData.depth, deepL_eq]
theorem eqOk_l (h : a.deep ≤ 200) : eqOk a b = true := by simp [eqOk, h]
theorem eqOk_r (h : b.deep ≤ 200) : eqOk a b = true := by simp [eqOk, h]
mutual
/-- data whose equality is Lean's -/
def D.pl : D → Bool
  | .non => true
  | .bl _ => false
  | .int _ => true
  | .str _ => true
  | .tup xs => D.pls xs
  | .lst xs => D.pls xs
def D.pls : List D → Bool
  | [] => true
  | x :: xs => D.pl x && D.pls xs
end
mutual
theorem eqv_iff : ∀ (a b : D), a.pl = true → b.pl = true → (PyData.eqv a.py b.py = true ↔ a = b)
  | .non, b, _, h => by cases b <;> simp [D.py, PyData.eqv, D.pl] at h ⊢
  | .bl _, _, h, _ => by simp [D.pl] at h
  | .int i, b, _, h => by cases b <;> simp [D.py, PyData.eqv, D.pl] at h ⊢
  | .str s, b, _, h => by cases b <;> simp [D.py, PyData.eqv, D.pl] at h ⊢
  | .tup xs, b, h1, h => by
    cases b with
    | tup ys =>
      simp only [D.pl] at h1 h
      simp only [D.py, PyData.eqv, D.tup.injEq]
      exact eqvs_iff xs ys h1 h
    | _ => simp [D.py, PyData.eqv, D.pl] at h ⊢
  | .lst xs, b, h1, h => by
    cases b with
    | lst ys =>
      simp only [D.pl] at h1 h
      simp only [D.py, PyData.eqv, D.lst.injEq]
      exact eqvs_iff xs ys h1 h
    | _ => simp [D.py, PyData.eqv, D.pl] at h ⊢
theorem eqvs_iff : ∀ (xs ys : List D), D.pls xs = true → D.pls ys = true → (PyData.eqvAll (D.pys xs) (D.pys ys) = true ↔ xs = ys)
  | [], [], _, _ => by simp [D.pys, PyData.eqvAll]
  | [], y :: ys, _, _ => by simp [D.pys, PyData.eqvAll]
  | x :: xs, [], _, _ => by simp [D.pys, PyData.eqvAll]
  | x :: xs, y :: ys, h1, h2 => by
    simp only [D.pls, Bool.and_eq_true] at h1 h2
    simp only [D.pys, PyData.eqvAll, Bool.and_eq_true, List.cons.injEq, eqv_iff x y h1.1 h2.1, eqvs_iff xs ys h1.2 h2.2]
end
end
end Rf
/-! R19: the law's end, by a promise. -/
namespace Rf
open PySem PySem.Spec PyProof.Rows L2
theorem law_spF {K : PySem.W.Frag} {ca : Nat → Addr} {g : List Sl → FR} (hK : noList K = true) {H : Hp} {a : Addr} {ns : List Int} (hO : Only H) (hS : SqL K H a (ns.map V.int)) (hg : FrP (g [.im (.lst (ns.map D.int))]) fun s _ => s = .im (.bl true)) :
    spF K ca [] g false [.ref a] H (fun v _ => v = .bl true) fun _ _ _ => False := by
  obtain ⟨s, io, e, rfl⟩ := hg
  exact law_sp hK hO hS e
end Rf
/-! R20: tables with exceptions and constants. -/
namespace Rf
open PySem PySem.Spec PyProof.Rows L2
/-- what a class of the text's own exceptions says -/
structure ExK (K : PySem.W.Frag) (C : Addr) : Prop where
  exc : ExcC K C
  cls : PySem.W.isClsIn K C = true
  ty : PySem.W.typeIn K (.ref C) = some (.type "type")
  kp : PySem.W.keepIn K (.ref C) = true
  co : PySem.W.findIn K (.ref C) "code" = some none
section
variable {K : PySem.W.Frag} {mg : Str → Option Value} {c : CE} {prog : List FnI} {P : Program} {base : Heap} {cts : List (Addr × Addr)} {T : List (Addr × Str)}
theorem kitCls_of {z : Value} {I : Addr} {b : Bool} (h : ExK K I) (h4 : PySem.W.subIn K z (.ref I) = some b) : PySem.W.kitCls K z (.ref I) = some b := by
  have h2' : (PySem.W.clsIn K I).isSome = true := h.cls
  have e2 : ((PySem.W.clsIn K I).isSome && PySem.W.typeIn K (.ref I) == some (.type "type")) = true := by
    rw [h2', h.ty]
    rfl
  show (if ((PySem.W.clsIn K I).isSome && PySem.W.typeIn K (.ref I) == some (.type "type")) = true then PySem.W.subIn K z (.ref I) else none) = some b
  rw [if_pos e2]
  exact h4
theorem exm_of {z : Value} {I : Addr} {b : Bool} (h : ExK K I) (h4 : PySem.W.subIn K z (.ref I) = some b) : PySem.W.exmOne K z (.ref I) = some b := by
  have e1 : (PySem.W.subIn K (.ref I) (.type "BaseException") == some true) = true := by
    rw [h.exc.hs]
    rfl
  show (if (PySem.W.subIn K (.ref I) (.type "BaseException") == some true) = true then PySem.W.kitCls K z (.ref I) else none) = some b
  rw [if_pos e1]
  exact kitCls_of h h4
theorem kit_of {z I : Addr} {b : Bool} (h : ExK K I) (h4 : PySem.W.subIn K (.ref z) (.ref I) = some b) (hb : z = I → b = true) : PySem.W.kitOne K (.ref z) (.ref I) = some b := by
  unfold PySem.W.kitOne
  split
  · rename_i e
    have : (Value.ref z) = .ref I := by simpa using e
    cases this
    rw [hb rfl]
  · exact kitCls_of h h4
def AllK (K : PySem.W.Frag) : List Addr → Prop
  | [] => True
  | a :: r => ExK K a ∧ AllK K r
theorem allK_get : ∀ {cs : List Addr} {i : Nat}, AllK K cs → i < cs.length → ExK K (cs.getD i 0)
  | [], i, _, h => by simp at h
  | a :: r, 0, h, _ => h.1
  | a :: r, i + 1, h, hi => allK_get (cs := r) (i := i) h.2 (by simpa using hi)
def AllG (mg : Str → Option Value) : List Str → List Addr → Prop
  | [], _ => True
  | _ :: _, [] => False
  | x :: xs, a :: r => mg x = some (.ref a) ∧ AllG mg xs r
theorem allG_get : ∀ {xs : List Str} {cs : List Addr} {i : Nat} {x : Str}, AllG mg xs cs → xs[i]? = some x → mg x = some (.ref (cs.getD i 0))
  | [], _, _, _, _, h => by simp at h
  | _ :: _, [], _, _, h, _ => h.elim
  | x :: xs, a :: r, 0, y, h, e => by cases e; exact h.1
  | x :: xs, a :: r, i + 1, y, h, e => allG_get (xs := xs) (cs := r) h.2 (by simpa using e)
/-- one row of the table of subclasses -/
def RowS (K : PySem.W.Frag) (z : Addr) : List Addr → List Bool → Prop
  | [], _ => True
  | _ :: _, [] => False
  | a :: r, b :: s => PySem.W.subIn K (.ref z) (.ref a) = some b ∧ RowS K z r s
theorem rowS_get {z : Addr} : ∀ {cs : List Addr} {s : List Bool} {i : Nat}, RowS K z cs s → i < cs.length → PySem.W.subIn K (.ref z) (.ref (cs.getD i 0)) = some (s.getD i false)
  | [], _, _, _, h => by simp at h
  | _ :: _, [], _, h, _ => h.elim
  | a :: r, b :: s, 0, h, _ => h.1
  | a :: r, b :: s, i + 1, h, hi => rowS_get (cs := r) (s := s) h.2 (by simpa using hi)
def TabS (K : PySem.W.Frag) (cs : List Addr) : List Addr → List (List Bool) → Prop
  | [], _ => True
  | _ :: _, [] => False
  | z :: zs, s :: t => RowS K z cs s ∧ TabS K cs zs t
theorem tabS_get {cs : List Addr} : ∀ {zs : List Addr} {t : List (List Bool)} {z i : Nat}, TabS K cs zs t → z < zs.length → i < cs.length → PySem.W.subIn K (.ref (zs.getD z 0)) (.ref (cs.getD i 0)) = some ((t.getD z []).getD i false)
  | [], _, _, _, _, h, _ => by simp at h
  | _ :: _, [], _, _, h, _, _ => h.elim
  | z :: zs, s :: t, 0, i, h, _, hi => rowS_get h.1 hi
  | z :: zs, s :: t, k + 1, i, h, hk, hi => tabS_get (zs := zs) (t := t) h.2 (by simpa using hk) hi
def caOf (cs : List Addr) : Nat → Addr := fun i => cs.getD i 0
def sbOf (t : List (List Bool)) : Sub := fun z i => (t.getD z []).getD i false
/-- built-ins, gcd apart -/
def AllB2 (mg : Str → Option Value) : List Str → Prop
  | [] => True
  | x :: r => (x ≠ "gcd" → mg x = none) ∧ AllB2 mg r
theorem bl_tab2 : ∀ {l : List Str}, AllB2 mg l → ∀ x, x ∈ l → x ≠ "gcd" → mg x = none
  | y :: r, h, x, m, e => by
    rcases List.mem_cons.mp m with rfl | m
    · exact h.1 e
    · exact bl_tab2 h.2 x m e
/-- constants -/
def AllC (K : PySem.W.Frag) (mg : Str → Option Value) : List (Str × D) → Prop
  | [] => True
  | (x, d) :: r => (∃ u v, mg x = some u ∧ RelV v u ∧ ∀ H, Fz K H d v) ∧ AllC K mg r
theorem cs_tab : ∀ {l : List (Str × D)}, AllC K mg l → ∀ x d, l.lookup x = some d → ∃ u v, mg x = some u ∧ RelV v u ∧ ∀ H, Fz K H d v
  | (y, e) :: r, h, x, d, q => by
    rw [List.lookup_cons] at q
    split at q
    · rename_i e0
      cases q
      have : x = y := by simpa using e0
      subst this
      exact h.1
    · exact cs_tab h.2 x d q
/-- raised with a text -/
def AllR (K : PySem.W.Frag) : List Str → List Addr → List Str → Prop
  | [], _, _ => True
  | _ :: _, [], _ => False
  | x :: xs, a :: r, rs => (x ∈ rs → PySem.W.excIn K a [.type "ValueError", .type "Exception", .type "BaseException", .type "object"] "ValueError.__new__" = true) ∧ AllR K xs r rs
theorem allR_get : ∀ {xs : List Str} {cs : List Addr} {rs : List Str} {i : Nat} {x : Str}, AllR K xs cs rs → xs[i]? = some x → x ∈ rs → PySem.W.excIn K (cs.getD i 0) [.type "ValueError", .type "Exception", .type "BaseException", .type "object"] "ValueError.__new__" = true
  | [], _, _, _, _, _, h, _ => by simp at h
  | _ :: _, [], _, _, _, h, _, _ => h.elim
  | x :: xs, a :: r, rs, 0, y, h, e, m => by cases e; exact h.1 m
  | x :: xs, a :: r, rs, i + 1, y, h, e, m => allR_get (xs := xs) (cs := r) h.2 (by simpa using e) m
/-- raised with a code -/
def AllG2 (P : Program) (K : PySem.W.Frag) : List Str → List Addr → List Str → Prop
  | [], _, _ => True
  | _ :: _, [], _ => False
  | x :: xs, a :: r, rc => (x ∈ rc → GeC P K a) ∧ AllG2 P K xs r rc
theorem allG2_get : ∀ {xs : List Str} {cs : List Addr} {rc : List Str} {i : Nat} {x : Str}, AllG2 P K xs cs rc → xs[i]? = some x → x ∈ rc → GeC P K (cs.getD i 0)
  | [], _, _, _, _, _, h, _ => by simp at h
  | _ :: _, [], _, _, _, h, _, _ => h.elim
  | x :: xs, a :: r, rc, 0, y, h, e, m => by cases e; exact h.1 m
  | x :: xs, a :: r, rc, i + 1, y, h, e, m => allG2_get (xs := xs) (cs := r) h.2 (by simpa using e) m
theorem tabX {cs : List Addr} {t : List (List Bool)} (hlen : c.exs.length = cs.length) (hdiag : ∀ z, sbOf t z z = true → z < cs.length) (hh : c.hot = false)
    (hf : AllF K mg c prog cts T 0 c.fns) (htb : ∀ p ∈ cts, LamX.TabB base mg p.1 p.2) (hb : AllB2 mg c.blt) (hg : ("gcd" : Str) ∈ c.blt → mg "gcd" = some (.builtin "math.gcd")) (hcs : AllC K mg c.cst) (hk : AllK K cs) (hx : AllG mg c.exs cs) (ht : TabS K cs cs t) (hr : AllR K c.exs cs c.rs) (hrc : AllG2 P K c.exs cs c.rc) :
    TabOk P base K mg c prog (caOf cs) (sbOf t) cts T where
  fn := fn_tab0 hf
  tb := htb
  rac := fun x i m h => allG2_get hrc (ixS_get h) m
  xf := fun z hz => by
    have q := allK_get hk (hdiag z hz)
    exact ⟨⟨q.exc.hg, q.exc.hk, q.exc.hs, q.exc.hd⟩, q.co⟩
  hot := hh
  cs := cs_tab hcs
  ex := fun x i h => allG_get hx (ixS_get h)
  bl := bl_tab2 hb
  gcd := hg
  kit := fun z i hz hi => kit_of (allK_get hk (by omega)) (tabS_get ht (hdiag z hz) (by omega)) fun e => by
    have hz' := hdiag z hz
    have q1 := tabS_get ht hz' (show i < cs.length by omega)
    have q2 := tabS_get ht hz' hz'
    rw [show cs.getD z 0 = cs.getD i 0 from e] at q1 q2
    rw [q1] at q2
    have q3 : sbOf t z i = sbOf t z z := Option.some.inj q2
    rw [q3]
    exact hz
  exm := fun z i hz hi => exm_of (allK_get hk (by omega)) (tabS_get ht (hdiag z hz) (by omega))
  exc := fun z hz => (allK_get hk (hdiag z hz)).exc
  rai := fun x i m h => by
    have hi : i < cs.length := by rw [← hlen]; exact (List.getElem?_eq_some_iff.mp (ixS_get h)).1
    have q := allK_get hk hi
    exact ⟨⟨"ValueError", "ValueError.__new__", "ValueError.__init__", _, PySem.F.excBase_ValueError, allR_get hr (ixS_get h) m⟩, q.kp, q.exc.hs, q.ty⟩
theorem diag_of {t : List (List Bool)} {n : Nat} (h : t.length = n) : ∀ z, sbOf t z z = true → z < n := fun z hz => by
  rcases Nat.lt_or_ge z n with h2 | h2
  · exact h2
  · exfalso
    have e : t.getD z [] = [] := by
      rw [List.getD_eq_getElem?_getD, List.getElem?_eq_none (by omega)]
      rfl
    unfold sbOf at hz
    rw [e] at hz
    simp at hz
/-- a number, a text: constants of the top -/
theorem cst_int {x : Str} {i : Int} {t : Tok} (e : mg x = some (.int i t)) : ∃ u v, mg x = some u ∧ RelV v u ∧ ∀ H, Fz K H (.int i) v := ⟨_, .int i, e, ⟨t, rfl⟩, fun _ => rfl⟩
theorem cst_str {x : Str} {i : Str} {t : Tok} (hi : PyData.strOk i = true) (e : mg x = some (.str i t)) : ∃ u v, mg x = some u ∧ RelV v u ∧ ∀ H, Fz K H (.str i) v := ⟨_, .str i, e, ⟨t, rfl⟩, fun _ => ⟨rfl, hi⟩⟩
/-- a tuple of the top: its items stand for vs -/
theorem cst_tup {x : Str} {p : Addr} {od : Option Addr} {its : Array Value} {n : Nat} {sl : Array (Option Value)} {ds : List D} {vs : List V} (e : mg x = some (.ref p)) (l : K.lookup p = some ⟨.type "tuple", od, .seq its n, sl⟩) (hz : its.size ≤ sizeLine) (hv : Vals vs its.toList) (hd : ∀ H, FzL K H ds vs) :
    ∃ u v, mg x = some u ∧ RelV v u ∧ ∀ H, Fz K H (.tup ds) v :=
  ⟨_, .ref p, e, rfl, fun H => ⟨p, vs, rfl, .inr ⟨_, its, n, l, rfl, rfl, hz, hv⟩, hd H⟩⟩
end
/-- the law's promise: nothing is let out -/
def spWT (K : PySem.W.Frag) (T : List (Addr × Str)) (g : List Sl → FR) : Sp := fun vs H Q E => LamX.Tabs T H ∧ ∃ ds, FzL K H ds vs ∧ match g (ds.map .im) with
    | .ok s _ => ∀ v H', SmT T H H' → VF K H H' s v → Q v H'
    | _ => False
abbrev spW (K : PySem.W.Frag) (g : List Sl → FR) : Sp := spWT K [] g
theorem spWT_imp {K : PySem.W.Frag} {T : List (Addr × Str)} {ca : Nat → Addr} {g : List Sl → FR} (vs : List V) (H : Hp) (Q : VK) (E : XK) (h : spWT K T g vs H Q E) : spF K ca T g false vs H Q E := by
  obtain ⟨tb, ds, f, q⟩ := h
  refine ⟨tb, ds, f, ?_⟩
  cases e : g (ds.map .im) with
  | ok s io => rw [e] at q; exact q
  | exc x => rw [e] at q; exact q.elim
  | bad => rw [e] at q; exact q.elim
theorem spW_imp {K : PySem.W.Frag} {ca : Nat → Addr} {g : List Sl → FR} (vs : List V) (H : Hp) (Q : VK) (E : XK) (h : spW K g vs H Q E) : spF K ca [] g false vs H Q E := spWT_imp vs H Q E h
theorem law_spW {K : PySem.W.Frag} {g : List Sl → FR} (hK : noList K = true) {H : Hp} {a : Addr} {ns : List Int} (hO : Only H) (hS : SqL K H a (ns.map V.int)) (hg : FrP (g [.im (.lst (ns.map D.int))]) fun s _ => s = .im (.bl true)) :
    spW K g [.ref a] H (fun v _ => v = .bl true) fun _ _ _ => False := by
  obtain ⟨s, io, e, rfl⟩ := hg
  have intsZ : ∀ ns : List Int, FzL K H (ns.map D.int) (ns.map V.int) := fun ns => by
    induction ns with
    | nil => rfl
    | cons n ns ih => exact ⟨_, _, rfl, rfl, ih⟩
  refine ⟨fun p hp => (nomatch hp), [.lst (ns.map D.int)], ⟨.ref a, [], rfl, ⟨a, _, rfl, ?_, intsZ ns⟩, rfl⟩, ?_⟩
  · rcases hS with (h | ⟨o, h⟩) | ⟨o, its, n, h, hc, _⟩
    · rcases hO a with z | ⟨o, xs, z⟩ <;> rw [h] at z <;> cases z
    · exact ⟨o, h⟩
    · exact absurd hc (noList_of hK h)
  · show (match g [.im (.lst (ns.map D.int))] with
      | .ok s _ => ∀ v H', SmT [] H H' → VF K H H' s v → v = .bl true
      | _ => False)
    rw [e]
    exact fun v H' _ h => h
/-- the script's list is locked where it is one under work -/
def spL (K : PySem.W.Frag) (T : List (Addr × Str)) (g : List Sl → FR) : Sp := fun vs H Q _ => ∃ a, vs = [.ref a] ∧ ((∃ xs, H a = some (.lst xs) ∧ ∀ o, spWT K T g vs (upd H a (.frz o (.lst xs))) Q fun _ _ _ => False) ∨ spWT K T g vs H Q fun _ _ _ => False)
theorem fn_lock {P : Program} {w : World} {K : PySem.W.Frag} {mg : Str → Option Value} {base : Heap} {k : Nat} {f : Addr} {fd : FuncData} {x : Str} {T : List (Addr × Str)} {g : List Sl → FR} (F : FnOk P w K mg base (L2.CX P w) k f fd [x] (spWT K T g)) :
    FnOk P w K mg base (L2.CX P w) k f fd [x] (spL K T g) := by
  refine ⟨fun vs H Q E ⟨a, e, _⟩ => by rw [e]; rfl, fun A outer s H args us vs Q E hr e0 hb hv ⟨a, ev, h⟩ => ?_⟩
  rcases h with ⟨xs, hl, h⟩ | h
  · obtain ⟨_, z, n, _, ho⟩ := e0.hok a _ hl
    have hok2 := frz_hok e0.hok hl ho
    have ne : ∀ b u, H b = some u → (∀ zs, u ≠ .lst zs) → b ≠ a := fun b u e q z => by rw [z, hl] at e; exact q xs (Option.some.inj e).symm
    have nn : ∀ b, H b = none → b ≠ a := fun b e z => by rw [z, hl] at e; cases e
    have e1 : Env0 P w K mg base A outer s (upd H a (.frz _ (.lst xs))) := ⟨e0.frames, e0.mod, fun b o e => ⟨(e0.bs b o e).1, by rw [upd_ne (nn b (e0.bs b o e).2)]; exact (e0.bs b o e).2⟩, e0.bsz, e0.funs, fun b hb => by rw [upd_ne (nn b (e0.frf b hb))]; exact e0.frf b hb, hok2, e0.bare⟩
    refine codeAny_mono (F.run A outer s _ args us vs Q _ hr e1 hb hv (h _)) fun r s' q => ?_
    cases r with
    | error e => exact (cx_no q).elim
    | ok fl =>
      cases fl with
      | ret u =>
        obtain ⟨v, H', q1, q2, un, q4, q5, q6⟩ := q
        refine ⟨v, H', q1, q2, ⟨fun b o g n => un.keep b o g (by rw [upd_ne (nn b n)]; exact n), fun b o g n => un.slot b o g (by rw [upd_ne (nn b n)]; exact n), fun b o g n => un.free b o g (by rw [upd_ne (nn b n)]; exact n), un.there, fun b ys g => un.tups b ys ?_, fun b o u g => un.frzs b o u ?_, fun b ps g => un.tbls b ps ?_⟩, q4, q5, q6⟩
        · rw [upd_ne (ne b _ g fun _ z => nomatch z)]; exact g
        · rw [upd_ne (ne b _ g fun _ z => nomatch z)]; exact g
        · rw [upd_ne (ne b _ g fun _ z => nomatch z)]; exact g
      | _ => exact q.elim
  · refine codeAny_mono (F.run A outer s H args us vs Q _ hr e0 hb hv h) fun r s' q => ?_
    cases r with
    | error e => exact (cx_no q).elim
    | ok fl =>
      cases fl with
      | ret u => exact q
      | _ => exact q.elim
/-- the law's promise, with empty tables -/
theorem law_spL {K : PySem.W.Frag} {T : List (Addr × Str)} {g : List Sl → FR} (hK : noList K = true) {H : Hp} {a : Addr} {ns : List Int} (hT : ∀ p ∈ T, H p.1 = some (.tbl #[])) (hS : SqL K H a (ns.map V.int)) (hg : FrP (g [.im (.lst (ns.map D.int))]) fun s _ => s = .im (.bl true)) :
    spL K T g [.ref a] H (fun v _ => v = .bl true) fun _ _ _ => False := by
  obtain ⟨s, io, e, rfl⟩ := hg
  have intsZ : ∀ (H : Hp) (ns : List Int), FzL K H (ns.map D.int) (ns.map V.int) := fun H ns => by
    induction ns with
    | nil => rfl
    | cons n ns ih => exact ⟨_, _, rfl, rfl, ih⟩
  have key : ∀ H' : Hp, (∀ p ∈ T, H' p.1 = some (.tbl #[])) → FrL H' a (ns.map V.int) → spWT K T g [.ref a] H' (fun v _ => v = .bl true) fun _ _ _ => False := fun H' hT' fr => by
    refine ⟨fun p hp => LamX.TabS.nil (hT' p hp), [.lst (ns.map D.int)], ⟨.ref a, [], rfl, ⟨a, _, rfl, fr, intsZ H' ns⟩, rfl⟩, ?_⟩
    show (match g [.im (.lst (ns.map D.int))] with
      | .ok s _ => ∀ v H'', SmT T H' H'' → VF K H' H'' s v → v = .bl true
      | _ => False)
    rw [e]
    exact fun v H' _ h => h
  refine ⟨a, rfl, ?_⟩
  rcases hS with (h | ⟨o, h⟩) | ⟨o, its, n, h, hc, _⟩
  · refine .inl ⟨_, h, fun o => key _ (fun p hp => ?_) ⟨o, upd_same⟩⟩
    rw [upd_ne fun z => by have := hT p hp; rw [z, h] at this; cases this]
    exact hT p hp
  · exact .inr (key H hT ⟨o, h⟩)
  · exact absurd hc (noList_of hK h)
/-- the law's end, with tables -/
theorem law_end {l : PySem.W.OpenLaw} {w : World} {K : PySem.W.Frag} {k n : Nat} {mg : Str → Option Value} {fa : Addr} {h : Heap} {A : Prop} {cs : List (Addr × Addr)} {T : List (Addr × Str)} {g : List Sl → FR}
    (main : A ∧ ∃ fd : FuncData, (∀ (s : Shared) (v : Value), BindsTo s fd ⟨[v], []⟩ [("script", v)]) ∧ ∀ base : Heap, K.In base → base.Ns mainGlobals mg → (∀ p ∈ cs, LamX.TabB base mg p.1 p.2) → FnOk l.prog w K mg base (L2.CX l.prog w) k fa fd ["script"] (spL K T g))
    (hz : ∀ p ∈ cs, h.get? p.2 = some { cls := .none, data := .fields #[] }) (hn : ∀ p ∈ cs, K.lookup p.2 = none) (hc : ∀ p ∈ cs, PySem.W.CodeHd h p.1 p.2) (hT : ∀ p ∈ T, ∃ c, (c, p.1) ∈ cs) (hK : noList K = true)
    (hgood : ∀ ns : List Int, ns.length ≤ n → FrP (g [.im (.lst (ns.map D.int))]) fun s _ => s = .im (.bl true)) : LamX.LawAtS l w K (L2.CX l.prog w) k n "script" mg fa h := by
  obtain ⟨_, fd, hb, F⟩ := main
  exact ⟨fd, cs, spL K T g, hz, hn, hc, hb, fun H a ns hl _ hE hS => law_spL hK (fun p hp => by
    obtain ⟨c, m⟩ := hT p hp
    exact hE _ m) hS (hgood ns hl), F⟩
end Rf
namespace K64
open PySem PySem.Spec PyProof.Rows L2 Rf
def KK : Nat := 60
def FU : Nat := 2 ^ 4000
/-! ### the text of marketguild_k64_whole_roads -/
def topS (i : Nat) : Stmt := PySem.Challenge.pw_marketguild_k64_whole_roads.main.body.getD i (.Pass ⟨0, 0, 0, 0⟩)
def cst : List (Str × D) := [((Str.ofString "MOST_HANDS"), (.int 5)), ((Str.ofString "MOST_ROADS"), (.int 8)), ((Str.ofString "MOST_ROUTES"), (.int 5))]
def cfg : CE := { N := [], sc := defScope (topS 0), fns := [((Str.ofString "check_traffic"), 1, false), ((Str.ofString "check_chosen"), 2, false), ((Str.ofString "loads_of"), 2, false), ((Str.ofString "cost_of"), 3, false), ((Str.ofString "costs"), 2, false), ((Str.ofString "height_of"), 2, false), ((Str.ofString "height"), 2, false), ((Str.ofString "with_route"), 3, false), ((Str.ofString "better_in"), 2, false), ((Str.ofString "better"), 2, false), ((Str.ofString "settle"), 2, false), ((Str.ofString "all_chosen"), 1, false), ((Str.ofString "resting"), 1, false), ((Str.ofString "whole_cost"), 2, false), ((Str.ofString "best_for_all"), 1, false), ((Str.ofString "worst_rest"), 1, false), ((Str.ofString "_law_begin"), 1, false), ((Str.ofString "_law_take"), 2, true), ((Str.ofString "_law_told"), 1, false), ((Str.ofString "_law_costs"), 2, false), ((Str.ofString "_law_height"), 2, false), ((Str.ofString "_law_with"), 3, false), ((Str.ofString "_law_better"), 2, false), ((Str.ofString "_law_wrong"), 0, false), ((Str.ofString "law"), 1, false)], cst := cst, exs := ["MarketplaceError", "GuildError"], blt := ["len", "min", "all", "range", "zip", "sum", "tuple", "enumerate", "max", "int", "list", "abs", "isinstance", "str"], io := false, rs := [], rc := ["GuildError"], hfs := ["_law_told"] }
/-- check_traffic -/
def b0 : IS :=
  (.seq (.asg (.cs (.nm 1) (.cs (.nm 2) .nl)) (.var 0))
  (.seq (.cond (.nt (.chn .le .le (.cst (.int 1)) (.b1 .len (.lv 2)) (.glo (.int 5)))) (.rsc 1 (.cst (.str (Str.ofString "hands")))) .skip)
  (.seq (.cond (.nt (.chn .le .le (.cst (.int 1)) (.b1 .len (.lv 1)) (.glo (.int 8)))) (.rsc 1 (.cst (.str (Str.ofString "roads")))) .skip)
  (.seq (.fr (.nm 3) (.var 1) (.cond (.orr (.cmp .ne (.b1 .len (.lv 3)) (.b1 .len (.lv 2))) (.cmp .lt (.b1 .min (.lv 3)) (.cst (.int 0)))) (.rsc 1 (.cst (.str (Str.ofString "road")))) .skip))
  (.fr (.nm 4) (.var 2) (.seq (.cond (.nt (.chn .le .le (.cst (.int 1)) (.b1 .len (.lv 4)) (.glo (.int 5)))) (.rsc 1 (.cst (.str (Str.ofString "routes")))) .skip)
  (.fr (.nm 5) (.var 4) (.seq (.asg (.nm 6) (.b1 .all (.comp [7, 8] (.nm 8) (.rng1 (.bin .sub (.b1 .len (.lv 5)) (.cst (.int 1)))) (.cst (.bl true)) (.cmp .lt (.idx (.lv 5) (.lv 8)) (.idx (.lv 5) (.bin .add (.lv 8) (.cst (.int 1))))))))
  (.cond (.orr (.nt (.tr (.lv 6))) (.nt (.tr (.b1 .all (.comp [7, 9] (.nm 9) (.var 5) (.cst (.bl true)) (.chn .le .lt (.cst (.int 0)) (.lv 9) (.b1 .len (.lv 1)))))))) (.rsc 1 (.cst (.str (Str.ofString "routes")))) .skip)))))))))
/-- check_chosen -/
def b1 : IS :=
  (.seq (.exp (.call 0 (.cons (.var 0) .nil)))
  (.seq (.cond (.cmp .ne (.b1 .len (.lv 1)) (.b1 .len (.idx (.lv 0) (.cst (.int 1))))) (.rsc 1 (.cst (.str (Str.ofString "chosen")))) .skip)
  (.cond (.nt (.tr (.b1 .all (.comp [2, 3, 4] (.cs (.nm 3) (.cs (.nm 4) .nl)) (.zip (.var 1) (.idx (.lv 0) (.cst (.int 1)))) (.cst (.bl true)) (.chn .le .lt (.cst (.int 0)) (.lv 3) (.b1 .len (.lv 4))))))) (.rsc 1 (.cst (.str (Str.ofString "chosen")))) .skip)))
/-- loads_of -/
def b2 : IS :=
  (.seq (.asg (.nm 2) (.rep (.lst (.cons (.cst (.int 0)) .nil)) (.b1 .len (.idx (.lv 0) (.cst (.int 0))))))
  (.seq (.fr (.cs (.nm 3) (.cs (.nm 4) .nl)) (.zip (.var 1) (.idx (.lv 0) (.cst (.int 1)))) (.fr (.nm 5) (.idx (.lv 4) (.lv 3)) (.ags 2 (.lv 5) .add (.cst (.int 1)))))
  (.rtv 2)))
/-- cost_of -/
def b3 : IS :=
  (.seq (.asg (.nm 3) (.call 2 (.cons (.var 0) (.cons (.var 1) .nil))))
  (.ret (.b1 .sum (.comp [4, 5] (.nm 5) (.idx (.idx (.idx (.lv 0) (.cst (.int 1))) (.lv 2)) (.idx (.lv 1) (.lv 2))) (.cst (.bl true)) (.idx (.idx (.idx (.lv 0) (.cst (.int 0))) (.lv 5)) (.bin .sub (.idx (.lv 3) (.lv 5)) (.cst (.int 1))))))))
/-- costs -/
def b4 : IS :=
  (.seq (.exp (.call 1 (.cons (.var 0) (.cons (.var 1) .nil))))
  (.ret (.b1 .tuple (.comp [2, 3] (.nm 3) (.rng1 (.b1 .len (.lv 1))) (.cst (.bl true)) (.call 3 (.cons (.var 0) (.cons (.var 1) (.cons (.var 3) .nil))))))))
/-- height_of -/
def b5 : IS :=
  (.seq (.asg (.nm 2) (.call 2 (.cons (.var 0) (.cons (.var 1) .nil))))
  (.ret (.b1 .sum (.comp [3, 4, 5] (.cs (.nm 4) (.cs (.nm 5) .nl)) (.zip (.idx (.lv 0) (.cst (.int 0))) (.var 2)) (.cst (.bl true)) (.b1 .sum (.slc (.lv 4) (.cst .non) (.var 5)))))))
/-- height -/
def b6 : IS :=
  (.seq (.exp (.call 1 (.cons (.var 0) (.cons (.var 1) .nil))))
  (.ret (.call 5 (.cons (.var 0) (.cons (.var 1) .nil)))))
/-- with_route -/
def b7 : IS :=
  (.ret (.bin .add (.bin .add (.slc (.lv 0) (.cst .non) (.var 1)) (.tup (.cons (.var 2) .nil))) (.slc (.lv 0) (.bin .add (.lv 1) (.cst (.int 1))) (.cst .non))))
/-- better_in -/
def b8 : IS :=
  (.seq (.fr (.cs (.nm 2) (.cs (.nm 3) .nl)) (.enm (.idx (.lv 0) (.cst (.int 1)))) (.seq (.asg (.nm 4) (.comp [5, 6] (.nm 6) (.rng1 (.b1 .len (.lv 3))) (.cst (.bl true)) (.tup (.cons (.call 3 (.cons (.var 0) (.cons (.call 7 (.cons (.var 1) (.cons (.var 2) (.cons (.var 6) .nil)))) (.cons (.var 2) .nil)))) (.cons (.var 6) .nil)))))
  (.cond (.cmp .lt (.idx (.b1 .min (.lv 4)) (.cst (.int 0))) (.call 3 (.cons (.var 0) (.cons (.var 1) (.cons (.var 2) .nil))))) (.ret (.tup (.cons (.var 2) (.cons (.idx (.b1 .min (.lv 4)) (.cst (.int 1))) .nil)))) .skip)))
  (.ret (.cst .non)))
/-- better -/
def b9 : IS :=
  (.seq (.exp (.call 1 (.cons (.var 0) (.cons (.var 1) .nil))))
  (.ret (.call 8 (.cons (.var 0) (.cons (.var 1) .nil)))))
/-- settle -/
def b10 : IS :=
  (.seq (.exp (.call 1 (.cons (.var 0) (.cons (.var 1) .nil))))
  (.seq (.asg (.nm 2) (.lst .nil))
  (.seq (.asg (.nm 3) (.b1 .tuple (.lv 1)))
  (.seq (.asg (.nm 4) (.call 8 (.cons (.var 0) (.cons (.var 3) .nil))))
  (.seq (.whl (.cmp .isnn (.lv 4) (.cst .non)) (.seq (.app 2 (.var 4))
  (.seq (.asg (.nm 3) (.call 7 (.cons (.var 3) (.cons (.idx (.lv 4) (.cst (.int 0))) (.cons (.idx (.lv 4) (.cst (.int 1))) .nil)))))
  (.asg (.nm 4) (.call 8 (.cons (.var 0) (.cons (.var 3) .nil)))))))
  (.ret (.tup (.cons (.var 3) (.cons (.b1 .tuple (.lv 2)) .nil)))))))))
/-- all_chosen -/
def b11 : IS :=
  (.seq (.asg (.nm 1) (.lst (.cons (.tup .nil) .nil)))
  (.seq (.fr (.nm 2) (.idx (.lv 0) (.cst (.int 1))) (.seq (.asg (.nm 3) (.lst .nil))
  (.seq (.fr (.nm 4) (.var 1) (.ext 3 (.comp [5, 6] (.nm 6) (.rng1 (.b1 .len (.lv 2))) (.cst (.bl true)) (.bin .add (.lv 4) (.tup (.cons (.var 6) .nil))))))
  (.asg (.nm 1) (.var 3)))))
  (.rtv 1)))
/-- resting -/
def b12 : IS :=
  (.seq (.exp (.call 0 (.cons (.var 0) .nil)))
  (.ret (.b1 .tuple (.comp [1, 2] (.nm 2) (.call 11 (.cons (.var 0) .nil)) (.cmp .isn (.call 8 (.cons (.var 0) (.cons (.var 2) .nil))) (.cst .non)) (.var 2)))))
/-- whole_cost -/
def b13 : IS :=
  (.ret (.b1 .sum (.comp [2, 3] (.nm 3) (.rng1 (.b1 .len (.lv 1))) (.cst (.bl true)) (.call 3 (.cons (.var 0) (.cons (.var 1) (.cons (.var 3) .nil)))))))
/-- best_for_all -/
def b14 : IS :=
  (.seq (.exp (.call 0 (.cons (.var 0) .nil)))
  (.seq (.asg (.nm 1) (.comp [2, 3] (.nm 3) (.call 11 (.cons (.var 0) .nil)) (.cst (.bl true)) (.tup (.cons (.call 13 (.cons (.var 0) (.cons (.var 3) .nil))) (.cons (.var 3) .nil)))))
  (.ret (.tup (.cons (.idx (.b1 .min (.lv 1)) (.cst (.int 1))) (.cons (.idx (.b1 .min (.lv 1)) (.cst (.int 0))) .nil))))))
/-- worst_rest -/
def b15 : IS :=
  (.seq (.asg (.nm 1) (.comp [2, 3] (.nm 3) (.call 12 (.cons (.var 0) .nil)) (.cst (.bl true)) (.call 13 (.cons (.var 0) (.cons (.var 3) .nil)))))
  (.ret (.tup (.cons (.b1 .max (.lv 1)) (.cons (.b1 .min (.lv 1)) .nil)))))
/-- _law_begin -/
def b16 : IS :=
  (.seq (.asg (.nm 1) (.cst (.int 1)))
  (.seq (.fr (.nm 2) (.var 0) (.asg (.nm 1) (.bin .mod (.bin .add (.bin .add (.bin .mul (.lv 1) (.cst (.int 69621))) (.bin .mod (.b1 .int (.lv 2)) (.cst (.int 2147483629)))) (.cst (.int 7))) (.cst (.int 2147483647)))))
  (.ret (.lst (.cons (.b1 .list (.lv 0)) (.cons (.cst (.int 0)) (.cons (.cst (.int 0)) (.cons (.var 1) .nil))))))))
/-- _law_take -/
def b17 : IS :=
  (.seq (.cond (.an (.cmp .eq (.idx (.lv 0) (.cst (.int 2))) (.cst (.int 0))) (.cmp .lt (.idx (.lv 0) (.cst (.int 1))) (.b1 .len (.idx (.lv 0) (.cst (.int 0)))))) (.seq (.six 0 (.cst (.int 2)) (.b1 .abs (.b1 .int (.idx (.idx (.lv 0) (.cst (.int 0))) (.idx (.lv 0) (.cst (.int 1)))))))
  (.seq (.six 0 (.cst (.int 1)) (.bin .add (.idx (.lv 0) (.cst (.int 1))) (.cst (.int 1))))
  (.cond (.cmp .lt (.idx (.lv 0) (.cst (.int 2))) (.bin .pow (.cst (.int 10)) (.cst (.int 18)))) (.seq (.asg (.nm 2) (.b1 .int (.idx (.lv 0) (.cst (.int 2)))))
  (.seq (.six 0 (.cst (.int 2)) (.cst (.int 0)))
  (.ret (.bin .mod (.lv 2) (.lv 1))))) .skip))) .skip)
  (.seq (.cond (.cmp .gt (.idx (.lv 0) (.cst (.int 2))) (.cst (.int 0))) (.seq (.asg (.nm 3) (.bin .mod (.b1 .int (.idx (.lv 0) (.cst (.int 2)))) (.lv 1)))
  (.seq (.six 0 (.cst (.int 2)) (.bin .fdv (.b1 .int (.idx (.lv 0) (.cst (.int 2)))) (.lv 1)))
  (.rtv 3))) .skip)
  (.seq (.six 0 (.cst (.int 3)) (.bin .mod (.b1 .int (.bin .add (.bin .mul (.idx (.lv 0) (.cst (.int 3))) (.cst (.int 48271))) (.cst (.int 11)))) (.cst (.int 2147483647))))
  (.ret (.bin .mod (.b1 .int (.bin .fdv (.idx (.lv 0) (.cst (.int 3))) (.cst (.int 3)))) (.lv 1))))))
/-- _law_told -/
def b18 : IS :=
  (.try1 (.ret (.clc 0)) 1 (some 1) (.ret (.xcd 1)))
/-- _law_costs -/
def b19 : IS :=
  (.seq (.asg (.cs (.nm 2) (.cs (.nm 3) .nl)) (.var 0))
  (.seq (.asg (.nm 4) (.comp [5, 6] (.nm 6) (.rng1 (.b1 .len (.lv 2))) (.cst (.bl true)) (.b1 .len (.comp [5, 7] (.nm 7) (.rng1 (.b1 .len (.lv 3))) (.cmp .isin (.lv 6) (.idx (.idx (.lv 3) (.lv 7)) (.idx (.lv 1) (.lv 7)))) (.var 7)))))
  (.ret (.b1 .tuple (.comp [5, 7] (.nm 7) (.rng1 (.b1 .len (.lv 3))) (.cst (.bl true)) (.b1 .sum (.comp [5, 6] (.nm 6) (.idx (.idx (.lv 3) (.lv 7)) (.idx (.lv 1) (.lv 7))) (.cst (.bl true)) (.idx (.idx (.lv 2) (.lv 6)) (.bin .sub (.idx (.lv 4) (.lv 6)) (.cst (.int 1)))))))))))
/-- _law_height -/
def b20 : IS :=
  (.seq (.asg (.cs (.nm 2) (.cs (.nm 3) .nl)) (.var 0))
  (.seq (.asg (.nm 4) (.comp [5, 6] (.nm 6) (.rng1 (.b1 .len (.lv 2))) (.cst (.bl true)) (.b1 .len (.comp [5, 7] (.nm 7) (.rng1 (.b1 .len (.lv 3))) (.cmp .isin (.lv 6) (.idx (.idx (.lv 3) (.lv 7)) (.idx (.lv 1) (.lv 7)))) (.var 7)))))
  (.ret (.b1 .sum (.comp [5, 6] (.nm 6) (.rng1 (.b1 .len (.lv 2))) (.cst (.bl true)) (.b1 .sum (.slc (.idx (.lv 2) (.lv 6)) (.cst .non) (.idx (.lv 4) (.lv 6)))))))))
/-- _law_with -/
def b21 : IS :=
  (.ret (.bin .add (.bin .add (.slc (.lv 0) (.cst .non) (.var 1)) (.tup (.cons (.var 2) .nil))) (.slc (.lv 0) (.bin .add (.lv 1) (.cst (.int 1))) (.cst .non))))
/-- _law_better -/
def b22 : IS :=
  (.seq (.fr (.nm 2) (.rng1 (.b1 .len (.lv 1))) (.seq (.asg (.nm 3) (.comp [4, 5] (.nm 5) (.rng1 (.b1 .len (.idx (.idx (.lv 0) (.cst (.int 1))) (.lv 2)))) (.cst (.bl true)) (.idx (.call 19 (.cons (.var 0) (.cons (.call 21 (.cons (.var 1) (.cons (.var 2) (.cons (.var 5) .nil)))) .nil))) (.lv 2))))
  (.cond (.cmp .lt (.b1 .min (.lv 3)) (.idx (.lv 3) (.idx (.lv 1) (.lv 2)))) (.ret (.tup (.cons (.var 2) (.cons (.inx 3 (.b1 .min (.lv 3))) .nil)))) .skip)))
  (.ret (.cst .non)))
/-- _law_wrong -/
def b23 : IS :=
  (.seq (.asg (.nm 2) (.tup (.cons (.tup (.cons (.tup (.cons (.cst (.int 1)) .nil)) .nil)) (.cons (.tup (.cons (.tup (.cons (.tup (.cons (.cst (.int 0)) .nil)) .nil)) .nil)) .nil))))
  (.seq (.fr (.cs (.nm 3) (.cs (.nm 0) .nl)) (.lst (.cons (.tup (.cons (.tup (.cons (.tup (.cons (.tup (.cons (.cst (.int 1)) .nil)) .nil)) (.cons (.tup .nil) .nil))) (.cons (.cst (.str (Str.ofString "hands"))) .nil))) (.cons (.tup (.cons (.tup (.cons (.tup (.cons (.bin .mul (.tup (.cons (.cst (.int 1)) .nil)) (.cst (.int 6))) .nil)) (.cons (.bin .mul (.tup (.cons (.tup (.cons (.tup (.cons (.cst (.int 0)) .nil)) .nil)) .nil)) (.cst (.int 6))) .nil))) (.cons (.cst (.str (Str.ofString "hands"))) .nil))) (.cons (.tup (.cons (.tup (.cons (.tup .nil) (.cons (.tup (.cons (.tup (.cons (.tup .nil) .nil)) .nil)) .nil))) (.cons (.cst (.str (Str.ofString "roads"))) .nil))) (.cons (.tup (.cons (.tup (.cons (.bin .mul (.tup (.cons (.tup (.cons (.cst (.int 1)) .nil)) .nil)) (.cst (.int 9))) (.cons (.tup (.cons (.tup (.cons (.tup (.cons (.cst (.int 0)) .nil)) .nil)) .nil)) .nil))) (.cons (.cst (.str (Str.ofString "roads"))) .nil))) (.cons (.tup (.cons (.tup (.cons (.tup (.cons (.tup (.cons (.cst (.int 1)) (.cons (.cst (.int 1)) .nil))) .nil)) (.cons (.tup (.cons (.tup (.cons (.tup (.cons (.cst (.int 0)) .nil)) .nil)) .nil)) .nil))) (.cons (.cst (.str (Str.ofString "road"))) .nil))) (.cons (.tup (.cons (.tup (.cons (.tup (.cons (.tup (.cons (.neg (.cst (.int 1))) .nil)) .nil)) (.cons (.tup (.cons (.tup (.cons (.tup (.cons (.cst (.int 0)) .nil)) .nil)) .nil)) .nil))) (.cons (.cst (.str (Str.ofString "road"))) .nil))) (.cons (.tup (.cons (.tup (.cons (.tup (.cons (.tup (.cons (.cst (.int 1)) .nil)) .nil)) (.cons (.tup (.cons (.tup .nil) .nil)) .nil))) (.cons (.cst (.str (Str.ofString "routes"))) .nil))) (.cons (.tup (.cons (.tup (.cons (.tup (.cons (.tup (.cons (.cst (.int 1)) .nil)) .nil)) (.cons (.tup (.cons (.bin .mul (.tup (.cons (.tup .nil) .nil)) (.cst (.int 6))) .nil)) .nil))) (.cons (.cst (.str (Str.ofString "routes"))) .nil))) (.cons (.tup (.cons (.tup (.cons (.tup (.cons (.tup (.cons (.cst (.int 1)) .nil)) .nil)) (.cons (.tup (.cons (.tup (.cons (.tup (.cons (.cst (.int 1)) .nil)) .nil)) .nil)) .nil))) (.cons (.cst (.str (Str.ofString "routes"))) .nil))) (.cons (.tup (.cons (.tup (.cons (.tup (.cons (.tup (.cons (.cst (.int 1)) .nil)) (.cons (.tup (.cons (.cst (.int 1)) .nil)) .nil))) (.cons (.tup (.cons (.tup (.cons (.tup (.cons (.cst (.int 1)) (.cons (.cst (.int 0)) .nil))) .nil)) .nil)) .nil))) (.cons (.cst (.str (Str.ofString "routes"))) .nil))) (.cons (.tup (.cons (.tup (.cons (.tup (.cons (.tup (.cons (.cst (.int 1)) .nil)) .nil)) (.cons (.tup (.cons (.bin .mul (.tup (.cons (.tup .nil) .nil)) (.cst (.int 5))) .nil)) .nil))) (.cons (.cst .non) .nil))) (.cons (.tup (.cons (.var 2) (.cons (.cst .non) .nil))) .nil))))))))))))) (.seq (.asg (.nm 1) (.hof 18 [3] (.call 12 (.cons (.var 3) .nil))))
  (.cond (.cmp .ne (.ite (.tr (.b1 .isStr (.lv 1))) (.var 1) (.cst .non)) (.lv 0)) (.ret (.cst (.bl false))) .skip)))
  (.ret (.an (.cmp .eq (.hof 18 [2] (.call 4 (.cons (.var 2) (.cons (.tup .nil) .nil)))) (.cst (.str (Str.ofString "chosen")))) (.an (.cmp .eq (.hof 18 [2] (.call 6 (.cons (.var 2) (.cons (.tup (.cons (.cst (.int 1)) .nil)) .nil)))) (.cst (.str (Str.ofString "chosen")))) (.cmp .eq (.hof 18 [2] (.call 10 (.cons (.var 2) (.cons (.tup (.cons (.neg (.cst (.int 1))) .nil)) .nil)))) (.cst (.str (Str.ofString "chosen")))))))))
/-- law -/
def b24 : IS :=
  (.seq (.asg (.nm 1) (.call 16 (.cons (.var 0) .nil)))
  (.seq (.asg (.nm 2) (.bin .add (.cst (.int 1)) (.cio 17 1 (.cons (.cst (.int 3)) .nil))))
  (.seq (.asg (.nm 3) (.bin .add (.cst (.int 1)) (.cio 17 1 (.cons (.cst (.int 4)) .nil))))
  (.seq (.asg (.nm 5) (.b1 .tuple (.comp [20, 21] (.nm 21) (.rng1 (.var 3)) (.cst (.bl true)) (.b1 .tuple (.comp [20, 4] (.nm 4) (.rng1 (.var 2)) (.cst (.bl true)) (.cio 17 1 (.cons (.cst (.int 9)) .nil)))))))
  (.seq (.asg (.nm 6) (.b1 .tuple (.comp [20, 4] (.nm 4) (.rng1 (.var 2)) (.cst (.bl true)) (.b1 .tuple (.comp [20, 21] (.nm 21) (.rng1 (.bin .add (.cst (.int 1)) (.cio 17 1 (.cons (.cst (.int 3)) .nil)))) (.cst (.bl true)) (.b1 .tuple (.comp [20, 22] (.nm 22) (.rng1 (.var 3)) (.cmp .eq (.cio 17 1 (.cons (.cst (.int 2)) .nil)) (.cst (.int 0))) (.var 22))))))))
  (.seq (.asg (.nm 7) (.tup (.cons (.var 5) (.cons (.var 6) .nil))))
  (.seq (.asg (.nm 8) (.lst (.cons (.tup .nil) .nil)))
  (.seq (.fr (.nm 9) (.var 6) (.seq (.asg (.nm 10) (.lst .nil))
  (.seq (.fr (.nm 11) (.var 8) (.asg (.nm 10) (.bin .add (.lv 10) (.comp [20, 23] (.nm 23) (.rng1 (.b1 .len (.lv 9))) (.cst (.bl true)) (.bin .add (.lv 11) (.tup (.cons (.var 23) .nil)))))))
  (.asg (.nm 8) (.var 10)))))
  (.seq (.asg (.nm 13) (.comp [20, 12] (.nm 12) (.var 8) (.cmp .isn (.call 22 (.cons (.var 7) (.cons (.var 12) .nil))) (.cst .non)) (.var 12)))
  (.seq (.cond (.orr (.cmp .ne (.call 12 (.cons (.var 7) .nil)) (.b1 .tuple (.lv 13))) (.cmp .eq (.b1 .len (.lv 13)) (.cst (.int 0)))) (.ret (.cst (.bl false))) .skip)
  (.seq (.asg (.nm 14) (.comp [20, 12] (.nm 12) (.var 8) (.cst (.bl true)) (.b1 .sum (.call 19 (.cons (.var 7) (.cons (.var 12) .nil))))))
  (.seq (.cond (.cmp .ne (.call 14 (.cons (.var 7) .nil)) (.tup (.cons (.idx (.lv 8) (.inx 14 (.b1 .min (.lv 14)))) (.cons (.b1 .min (.lv 14)) .nil)))) (.ret (.cst (.bl false))) .skip)
  (.seq (.asg (.nm 15) (.comp [20, 12] (.nm 12) (.var 13) (.cst (.bl true)) (.b1 .sum (.call 19 (.cons (.var 7) (.cons (.var 12) .nil))))))
  (.seq (.cond (.cmp .ne (.call 15 (.cons (.var 7) .nil)) (.tup (.cons (.b1 .max (.lv 15)) (.cons (.b1 .min (.lv 15)) .nil)))) (.ret (.cst (.bl false))) .skip)
  (.seq (.fr (.nm 4) (.rng1 (.cst (.int 4))) (.seq (.asg (.nm 12) (.idx (.lv 8) (.cio 17 1 (.cons (.b1 .len (.lv 8)) .nil))))
  (.seq (.cond (.orr (.cmp .ne (.call 4 (.cons (.var 7) (.cons (.var 12) .nil))) (.call 19 (.cons (.var 7) (.cons (.var 12) .nil)))) (.orr (.cmp .ne (.call 6 (.cons (.var 7) (.cons (.var 12) .nil))) (.call 20 (.cons (.var 7) (.cons (.var 12) .nil)))) (.cmp .ne (.call 9 (.cons (.var 7) (.cons (.var 12) .nil))) (.call 22 (.cons (.var 7) (.cons (.var 12) .nil)))))) (.ret (.cst (.bl false))) .skip)
  (.seq (.asg (.nm 16) (.cio 17 1 (.cons (.var 2) .nil)))
  (.seq (.asg (.nm 17) (.call 21 (.cons (.var 12) (.cons (.var 16) (.cons (.cio 17 1 (.cons (.b1 .len (.idx (.lv 6) (.lv 16))) .nil)) .nil)))))
  (.seq (.cond (.cmp .ne (.bin .sub (.call 20 (.cons (.var 7) (.cons (.var 17) .nil))) (.call 20 (.cons (.var 7) (.cons (.var 12) .nil)))) (.bin .sub (.idx (.call 19 (.cons (.var 7) (.cons (.var 17) .nil))) (.lv 16)) (.idx (.call 19 (.cons (.var 7) (.cons (.var 12) .nil))) (.lv 16)))) (.ret (.cst (.bl false))) .skip)
  (.seq (.asg (.nm 18) (.var 12))
  (.seq (.asg (.nm 19) (.lst .nil))
  (.seq (.whl (.cmp .isnn (.call 22 (.cons (.var 7) (.cons (.var 18) .nil))) (.cst .non)) (.seq (.app 19 (.call 22 (.cons (.var 7) (.cons (.var 18) .nil))))
  (.asg (.nm 18) (.call 21 (.cons (.var 18) (.cons (.idx (.idx (.lv 19) (.neg (.cst (.int 1)))) (.cst (.int 0))) (.cons (.idx (.idx (.lv 19) (.neg (.cst (.int 1)))) (.cst (.int 1))) .nil)))))))
  (.cond (.orr (.cmp .ne (.call 10 (.cons (.var 7) (.cons (.var 12) .nil))) (.tup (.cons (.var 18) (.cons (.b1 .tuple (.lv 19)) .nil)))) (.cmp .notin (.lv 18) (.lv 13))) (.ret (.cst (.bl false))) .skip))))))))))
  (.ret (.call 23 .nil)))))))))))))))))
def prog : List FnI := [⟨1, 10, false, b0⟩, ⟨2, 5, false, b1⟩, ⟨2, 6, false, b2⟩, ⟨3, 6, false, b3⟩, ⟨2, 4, false, b4⟩, ⟨2, 6, false, b5⟩, ⟨2, 2, false, b6⟩, ⟨3, 3, false, b7⟩, ⟨2, 7, false, b8⟩, ⟨2, 2, false, b9⟩, ⟨2, 5, false, b10⟩, ⟨1, 7, false, b11⟩, ⟨1, 3, false, b12⟩, ⟨2, 4, false, b13⟩, ⟨1, 4, false, b14⟩, ⟨1, 4, false, b15⟩, ⟨1, 3, false, b16⟩, ⟨2, 4, true, b17⟩, ⟨1, 2, false, b18⟩, ⟨2, 8, false, b19⟩, ⟨2, 8, false, b20⟩, ⟨3, 3, false, b21⟩, ⟨2, 6, false, b22⟩, ⟨0, 4, false, b23⟩, ⟨1, 24, false, b24⟩]
theorem sc0 : FnScope ["traffic", "roads", "hands", "row", "routes", "route", "ascends", ".0", "k", "road"] ["traffic"] (defScope (topS 7)) := ⟨rfl, rfl, rfl, by decide +kernel, rfl, by decide +kernel, by decide +kernel⟩
theorem cb0 : cB { cfg with N := ["traffic", "roads", "hands", "row", "routes", "route", "ascends", ".0", "k", "road"], sc := defScope (topS 7), io := false } (defBody (topS 7)) = some b0 := by kernel_rfl
theorem sc1 : FnScope ["traffic", "chosen", ".0", "number", "routes"] ["traffic", "chosen"] (defScope (topS 8)) := ⟨rfl, rfl, rfl, by decide +kernel, rfl, by decide +kernel, by decide +kernel⟩
theorem cb1 : cB { cfg with N := ["traffic", "chosen", ".0", "number", "routes"], sc := defScope (topS 8), io := false } (defBody (topS 8)) = some b1 := by kernel_rfl
theorem sc2 : FnScope ["traffic", "chosen", "found", "number", "routes", "road"] ["traffic", "chosen"] (defScope (topS 9)) := ⟨rfl, rfl, rfl, by decide +kernel, rfl, by decide +kernel, by decide +kernel⟩
theorem cb2 : cB { cfg with N := ["traffic", "chosen", "found", "number", "routes", "road"], sc := defScope (topS 9), io := false } (defBody (topS 9)) = some b2 := by kernel_rfl
theorem sc3 : FnScope ["traffic", "chosen", "hand", "loads", ".0", "road"] ["traffic", "chosen", "hand"] (defScope (topS 10)) := ⟨rfl, rfl, rfl, by decide +kernel, rfl, by decide +kernel, by decide +kernel⟩
theorem cb3 : cB { cfg with N := ["traffic", "chosen", "hand", "loads", ".0", "road"], sc := defScope (topS 10), io := false } (defBody (topS 10)) = some b3 := by kernel_rfl
theorem sc4 : FnScope ["traffic", "chosen", ".0", "hand"] ["traffic", "chosen"] (defScope (topS 11)) := ⟨rfl, rfl, rfl, by decide +kernel, rfl, by decide +kernel, by decide +kernel⟩
theorem cb4 : cB { cfg with N := ["traffic", "chosen", ".0", "hand"], sc := defScope (topS 11), io := false } (defBody (topS 11)) = some b4 := by kernel_rfl
theorem sc5 : FnScope ["traffic", "chosen", "loads", ".0", "row", "many"] ["traffic", "chosen"] (defScope (topS 12)) := ⟨rfl, rfl, rfl, by decide +kernel, rfl, by decide +kernel, by decide +kernel⟩
theorem cb5 : cB { cfg with N := ["traffic", "chosen", "loads", ".0", "row", "many"], sc := defScope (topS 12), io := false } (defBody (topS 12)) = some b5 := by kernel_rfl
theorem sc6 : FnScope ["traffic", "chosen"] ["traffic", "chosen"] (defScope (topS 13)) := ⟨rfl, rfl, rfl, by decide +kernel, rfl, by decide +kernel, by decide +kernel⟩
theorem cb6 : cB { cfg with N := ["traffic", "chosen"], sc := defScope (topS 13), io := false } (defBody (topS 13)) = some b6 := by kernel_rfl
theorem sc7 : FnScope ["chosen", "hand", "number"] ["chosen", "hand", "number"] (defScope (topS 14)) := ⟨rfl, rfl, rfl, by decide +kernel, rfl, by decide +kernel, by decide +kernel⟩
theorem cb7 : cB { cfg with N := ["chosen", "hand", "number"], sc := defScope (topS 14), io := false } (defBody (topS 14)) = some b7 := by kernel_rfl
theorem sc8 : FnScope ["traffic", "chosen", "hand", "routes", "rows", ".0", "k"] ["traffic", "chosen"] (defScope (topS 15)) := ⟨rfl, rfl, rfl, by decide +kernel, rfl, by decide +kernel, by decide +kernel⟩
theorem cb8 : cB { cfg with N := ["traffic", "chosen", "hand", "routes", "rows", ".0", "k"], sc := defScope (topS 15), io := false } (defBody (topS 15)) = some b8 := by kernel_rfl
theorem sc9 : FnScope ["traffic", "chosen"] ["traffic", "chosen"] (defScope (topS 16)) := ⟨rfl, rfl, rfl, by decide +kernel, rfl, by decide +kernel, by decide +kernel⟩
theorem cb9 : cB { cfg with N := ["traffic", "chosen"], sc := defScope (topS 16), io := false } (defBody (topS 16)) = some b9 := by kernel_rfl
theorem sc10 : FnScope ["traffic", "chosen", "found", "now", "told"] ["traffic", "chosen"] (defScope (topS 17)) := ⟨rfl, rfl, rfl, by decide +kernel, rfl, by decide +kernel, by decide +kernel⟩
theorem cb10 : cB { cfg with N := ["traffic", "chosen", "found", "now", "told"], sc := defScope (topS 17), io := false } (defBody (topS 17)) = some b10 := by kernel_rfl
theorem sc11 : FnScope ["traffic", "found", "routes", "longer", "row", ".0", "number"] ["traffic"] (defScope (topS 18)) := ⟨rfl, rfl, rfl, by decide +kernel, rfl, by decide +kernel, by decide +kernel⟩
theorem cb11 : cB { cfg with N := ["traffic", "found", "routes", "longer", "row", ".0", "number"], sc := defScope (topS 18), io := false } (defBody (topS 18)) = some b11 := by kernel_rfl
theorem sc12 : FnScope ["traffic", ".0", "chosen"] ["traffic"] (defScope (topS 19)) := ⟨rfl, rfl, rfl, by decide +kernel, rfl, by decide +kernel, by decide +kernel⟩
theorem cb12 : cB { cfg with N := ["traffic", ".0", "chosen"], sc := defScope (topS 19), io := false } (defBody (topS 19)) = some b12 := by kernel_rfl
theorem sc13 : FnScope ["traffic", "chosen", ".0", "hand"] ["traffic", "chosen"] (defScope (topS 20)) := ⟨rfl, rfl, rfl, by decide +kernel, rfl, by decide +kernel, by decide +kernel⟩
theorem cb13 : cB { cfg with N := ["traffic", "chosen", ".0", "hand"], sc := defScope (topS 20), io := false } (defBody (topS 20)) = some b13 := by kernel_rfl
theorem sc14 : FnScope ["traffic", "rows", ".0", "chosen"] ["traffic"] (defScope (topS 21)) := ⟨rfl, rfl, rfl, by decide +kernel, rfl, by decide +kernel, by decide +kernel⟩
theorem cb14 : cB { cfg with N := ["traffic", "rows", ".0", "chosen"], sc := defScope (topS 21), io := false } (defBody (topS 21)) = some b14 := by kernel_rfl
theorem sc15 : FnScope ["traffic", "rows", ".0", "chosen"] ["traffic"] (defScope (topS 22)) := ⟨rfl, rfl, rfl, by decide +kernel, rfl, by decide +kernel, by decide +kernel⟩
theorem cb15 : cB { cfg with N := ["traffic", "rows", ".0", "chosen"], sc := defScope (topS 22), io := false } (defBody (topS 22)) = some b15 := by kernel_rfl
theorem sc16 : FnScope ["script", "seed", "cell"] ["script"] (defScope (topS 24)) := ⟨rfl, rfl, rfl, by decide +kernel, rfl, by decide +kernel, by decide +kernel⟩
theorem cb16 : cB { cfg with N := ["script", "seed", "cell"], sc := defScope (topS 24), io := false } (defBody (topS 24)) = some b16 := by kernel_rfl
theorem sc17 : FnScope ["d", "many", "small", "digit"] ["d", "many"] (defScope (topS 25)) := ⟨rfl, rfl, rfl, by decide +kernel, rfl, by decide +kernel, by decide +kernel⟩
theorem cb17 : cB { cfg with N := ["d", "many", "small", "digit"], sc := defScope (topS 25), io := true } (defBody (topS 25)) = some b17 := by kernel_rfl
theorem sc18 : FnScope ["call", "e"] ["call"] (defScope (topS 26)) := ⟨rfl, rfl, rfl, by decide +kernel, rfl, by decide +kernel, by decide +kernel⟩
theorem cb18 : cB { cfg with N := ["call", "e"], sc := defScope (topS 26), io := false, clo := some ("call", 0) } (defBody (topS 26)) = some b18 := by kernel_rfl
theorem sc19 : FnScope ["traffic", "chosen", "roads", "hands", "loads", ".0", "road", "k"] ["traffic", "chosen"] (defScope (topS 27)) := ⟨rfl, rfl, rfl, by decide +kernel, rfl, by decide +kernel, by decide +kernel⟩
theorem cb19 : cB { cfg with N := ["traffic", "chosen", "roads", "hands", "loads", ".0", "road", "k"], sc := defScope (topS 27), io := false } (defBody (topS 27)) = some b19 := by kernel_rfl
theorem sc20 : FnScope ["traffic", "chosen", "roads", "hands", "loads", ".0", "road", "k"] ["traffic", "chosen"] (defScope (topS 28)) := ⟨rfl, rfl, rfl, by decide +kernel, rfl, by decide +kernel, by decide +kernel⟩
theorem cb20 : cB { cfg with N := ["traffic", "chosen", "roads", "hands", "loads", ".0", "road", "k"], sc := defScope (topS 28), io := false } (defBody (topS 28)) = some b20 := by kernel_rfl
theorem sc21 : FnScope ["chosen", "hand", "number"] ["chosen", "hand", "number"] (defScope (topS 29)) := ⟨rfl, rfl, rfl, by decide +kernel, rfl, by decide +kernel, by decide +kernel⟩
theorem cb21 : cB { cfg with N := ["chosen", "hand", "number"], sc := defScope (topS 29), io := false } (defBody (topS 29)) = some b21 := by kernel_rfl
theorem sc22 : FnScope ["traffic", "chosen", "hand", "prices", ".0", "k"] ["traffic", "chosen"] (defScope (topS 30)) := ⟨rfl, rfl, rfl, by decide +kernel, rfl, by decide +kernel, by decide +kernel⟩
theorem cb22 : cB { cfg with N := ["traffic", "chosen", "hand", "prices", ".0", "k"], sc := defScope (topS 30), io := false } (defBody (topS 30)) = some b22 := by kernel_rfl
theorem sc23 : FnScope ["code", "told", "one", "wrong"] [] (defScope (topS 31)) := ⟨rfl, rfl, rfl, by decide +kernel, rfl, by decide +kernel, by decide +kernel⟩
theorem cb23 : cB { cfg with N := ["code", "told", "one", "wrong"], sc := defScope (topS 31), io := false, lam := true } (defBody (topS 31)) = some b23 := by kernel_rfl
theorem sc24 : FnScope ["script", "d", "many", "roads", "k", "table", "hands", "traffic", "everything", "routes", "longer", "row", "chosen", "still", "sums", "rests", "hand", "other", "now", "rows", ".0", "j", "road", "number"] ["script"] (defScope (topS 32)) := ⟨rfl, rfl, rfl, by decide +kernel, rfl, by decide +kernel, by decide +kernel⟩
theorem cb24 : cB { cfg with N := ["script", "d", "many", "roads", "k", "table", "hands", "traffic", "everything", "routes", "longer", "row", "chosen", "still", "sums", "rests", "hand", "other", "now", "rows", ".0", "j", "road", "number"], sc := defScope (topS 32), io := false } (defBody (topS 32)) = some b24 := by kernel_rfl
def sbt : List (List Bool) := [[true, false], [true, true]]
theorem all_mk {P : Program} {w : World} {K : PySem.W.Frag} {h : Heap} {mg : Str → Option Value} {fa f0 f1 f2 f3 f4 f5 f6 f7 f8 f9 f10 f11 f12 f13 f14 f15 f16 f17 f18 f19 f20 f21 f22 f23 f24 E0 E1 : Addr} (X : K.In h) (G : h.Ns mainGlobals mg) (hfa : mg "law" = some (.ref fa))
  {od0 an0 od1 an1 od2 an2 od3 an3 od4 an4 od5 an5 od6 an6 od7 an7 od8 an8 od9 an9 od10 an10 od11 an11 od12 an12 od13 an13 od14 an14 od15 an15 od16 an16 od17 an17 od18 an18 od19 an19 od20 an20 od21 an21 od22 an22 od23 an23 od24 an24 : Option Addr} {sl0 sl1 sl2 sl3 sl4 sl5 sl6 sl7 sl8 sl9 sl10 sl11 sl12 sl13 sl14 sl15 sl16 sl17 sl18 sl19 sl20 sl21 sl22 sl23 sl24 : Array (Option Value)} {oc0 kV0 dc0 pm0 cd0 ct0 oc1 kV1 dc1 pm1 cd1 ct1 oc2 kV2 dc2 pm2 cd2 ct2 oc3 kV3 dc3 pm3 cd3 ct3 oc4 kV4 dc4 pm4 cd4 ct4 oc5 kV5 dc5 pm5 cd5 ct5 oc6 kV6 dc6 pm6 cd6 ct6 oc7 kV7 dc7 pm7 cd7 ct7 oc8 kV8 dc8 pm8 cd8 ct8 oc9 kV9 dc9 pm9 cd9 ct9 oc10 kV10 dc10 pm10 cd10 ct10 oc11 kV11 dc11 pm11 cd11 ct11 oc12 kV12 dc12 pm12 cd12 ct12 oc13 kV13 dc13 pm13 cd13 ct13 oc14 kV14 dc14 pm14 cd14 ct14 oc15 kV15 dc15 pm15 cd15 ct15 oc16 kV16 dc16 pm16 cd16 ct16 oc17 kV17 dc17 pm17 cd17 ct17 oc18 kV18 dc18 pm18 cd18 ct18 oc19 kV19 dc19 pm19 cd19 ct19 oc20 kV20 dc20 pm20 cd20 ct20 oc21 kV21 dc21 pm21 cd21 ct21 oc22 kV22 dc22 pm22 cd22 ct22 oc23 kV23 dc23 pm23 ct23 oc24 kV24 dc24 pm24 cd24 ct24 : Value}
  {cc23 pt23 : Addr} {hc23 : Value} {ho23 : Option Addr} {hv23 : Array Value} {ha23x : Array (Option Value)}
  {ty0 : Tok}
  {ty1 : Tok}
  {ty2 : Tok}
  {gI1 gc1 gx1 gN1 : Addr} {gp1a gp1b gp1c gp1d gp1e gp1f gp1g gp1h gp1i gp1j gp1k gp1l : Pos} {gq1 gf1 gn1 gm1 : Str} {gv1a gv1b gv1c gv1d gv1e gv1f gv1g : Value} {go1a go1b go1c go1d go1e : Option Addr} {gs1a gs1b gs1c : Array (Option Value)} {ga1 : Array Value} {gt1 : Tok} {gl1a gl1b gl1c : List Value} {gw1 : List Str} {gb1 : Bool} {gd1 : Option Bool} {gz1a gz1b gz1c gz1d gz1e : Option Value}
  (a0 : PySem.W.nsIn K mainGlobals "check_traffic" = some (some (.ref f0))) (l0 : K.lookup f0 = some ⟨oc0, od0, .func (PySem.W.fnOf "check_traffic" "check_traffic" (defArgs (topS 7)) (defBody (topS 7)) (defScope (topS 7)) .none kV0 dc0 pm0 an0 cd0 ct0), sl0⟩) (c0 : PySem.W.codeIn K cd0 "check_traffic" = true) (k0 : PySem.W.keepIn K (.ref f0) = true)
  (a1 : PySem.W.nsIn K mainGlobals "check_chosen" = some (some (.ref f1))) (l1 : K.lookup f1 = some ⟨oc1, od1, .func (PySem.W.fnOf "check_chosen" "check_chosen" (defArgs (topS 8)) (defBody (topS 8)) (defScope (topS 8)) .none kV1 dc1 pm1 an1 cd1 ct1), sl1⟩) (c1 : PySem.W.codeIn K cd1 "check_chosen" = true) (k1 : PySem.W.keepIn K (.ref f1) = true)
  (a2 : PySem.W.nsIn K mainGlobals "loads_of" = some (some (.ref f2))) (l2 : K.lookup f2 = some ⟨oc2, od2, .func (PySem.W.fnOf "loads_of" "loads_of" (defArgs (topS 9)) (defBody (topS 9)) (defScope (topS 9)) .none kV2 dc2 pm2 an2 cd2 ct2), sl2⟩) (c2 : PySem.W.codeIn K cd2 "loads_of" = true) (k2 : PySem.W.keepIn K (.ref f2) = true)
  (a3 : PySem.W.nsIn K mainGlobals "cost_of" = some (some (.ref f3))) (l3 : K.lookup f3 = some ⟨oc3, od3, .func (PySem.W.fnOf "cost_of" "cost_of" (defArgs (topS 10)) (defBody (topS 10)) (defScope (topS 10)) .none kV3 dc3 pm3 an3 cd3 ct3), sl3⟩) (c3 : PySem.W.codeIn K cd3 "cost_of" = true) (k3 : PySem.W.keepIn K (.ref f3) = true)
  (a4 : PySem.W.nsIn K mainGlobals "costs" = some (some (.ref f4))) (l4 : K.lookup f4 = some ⟨oc4, od4, .func (PySem.W.fnOf "costs" "costs" (defArgs (topS 11)) (defBody (topS 11)) (defScope (topS 11)) .none kV4 dc4 pm4 an4 cd4 ct4), sl4⟩) (c4 : PySem.W.codeIn K cd4 "costs" = true) (k4 : PySem.W.keepIn K (.ref f4) = true)
  (a5 : PySem.W.nsIn K mainGlobals "height_of" = some (some (.ref f5))) (l5 : K.lookup f5 = some ⟨oc5, od5, .func (PySem.W.fnOf "height_of" "height_of" (defArgs (topS 12)) (defBody (topS 12)) (defScope (topS 12)) .none kV5 dc5 pm5 an5 cd5 ct5), sl5⟩) (c5 : PySem.W.codeIn K cd5 "height_of" = true) (k5 : PySem.W.keepIn K (.ref f5) = true)
  (a6 : PySem.W.nsIn K mainGlobals "height" = some (some (.ref f6))) (l6 : K.lookup f6 = some ⟨oc6, od6, .func (PySem.W.fnOf "height" "height" (defArgs (topS 13)) (defBody (topS 13)) (defScope (topS 13)) .none kV6 dc6 pm6 an6 cd6 ct6), sl6⟩) (c6 : PySem.W.codeIn K cd6 "height" = true) (k6 : PySem.W.keepIn K (.ref f6) = true)
  (a7 : PySem.W.nsIn K mainGlobals "with_route" = some (some (.ref f7))) (l7 : K.lookup f7 = some ⟨oc7, od7, .func (PySem.W.fnOf "with_route" "with_route" (defArgs (topS 14)) (defBody (topS 14)) (defScope (topS 14)) .none kV7 dc7 pm7 an7 cd7 ct7), sl7⟩) (c7 : PySem.W.codeIn K cd7 "with_route" = true) (k7 : PySem.W.keepIn K (.ref f7) = true)
  (a8 : PySem.W.nsIn K mainGlobals "better_in" = some (some (.ref f8))) (l8 : K.lookup f8 = some ⟨oc8, od8, .func (PySem.W.fnOf "better_in" "better_in" (defArgs (topS 15)) (defBody (topS 15)) (defScope (topS 15)) .none kV8 dc8 pm8 an8 cd8 ct8), sl8⟩) (c8 : PySem.W.codeIn K cd8 "better_in" = true) (k8 : PySem.W.keepIn K (.ref f8) = true)
  (a9 : PySem.W.nsIn K mainGlobals "better" = some (some (.ref f9))) (l9 : K.lookup f9 = some ⟨oc9, od9, .func (PySem.W.fnOf "better" "better" (defArgs (topS 16)) (defBody (topS 16)) (defScope (topS 16)) .none kV9 dc9 pm9 an9 cd9 ct9), sl9⟩) (c9 : PySem.W.codeIn K cd9 "better" = true) (k9 : PySem.W.keepIn K (.ref f9) = true)
  (a10 : PySem.W.nsIn K mainGlobals "settle" = some (some (.ref f10))) (l10 : K.lookup f10 = some ⟨oc10, od10, .func (PySem.W.fnOf "settle" "settle" (defArgs (topS 17)) (defBody (topS 17)) (defScope (topS 17)) .none kV10 dc10 pm10 an10 cd10 ct10), sl10⟩) (c10 : PySem.W.codeIn K cd10 "settle" = true) (k10 : PySem.W.keepIn K (.ref f10) = true)
  (a11 : PySem.W.nsIn K mainGlobals "all_chosen" = some (some (.ref f11))) (l11 : K.lookup f11 = some ⟨oc11, od11, .func (PySem.W.fnOf "all_chosen" "all_chosen" (defArgs (topS 18)) (defBody (topS 18)) (defScope (topS 18)) .none kV11 dc11 pm11 an11 cd11 ct11), sl11⟩) (c11 : PySem.W.codeIn K cd11 "all_chosen" = true) (k11 : PySem.W.keepIn K (.ref f11) = true)
  (a12 : PySem.W.nsIn K mainGlobals "resting" = some (some (.ref f12))) (l12 : K.lookup f12 = some ⟨oc12, od12, .func (PySem.W.fnOf "resting" "resting" (defArgs (topS 19)) (defBody (topS 19)) (defScope (topS 19)) .none kV12 dc12 pm12 an12 cd12 ct12), sl12⟩) (c12 : PySem.W.codeIn K cd12 "resting" = true) (k12 : PySem.W.keepIn K (.ref f12) = true)
  (a13 : PySem.W.nsIn K mainGlobals "whole_cost" = some (some (.ref f13))) (l13 : K.lookup f13 = some ⟨oc13, od13, .func (PySem.W.fnOf "whole_cost" "whole_cost" (defArgs (topS 20)) (defBody (topS 20)) (defScope (topS 20)) .none kV13 dc13 pm13 an13 cd13 ct13), sl13⟩) (c13 : PySem.W.codeIn K cd13 "whole_cost" = true) (k13 : PySem.W.keepIn K (.ref f13) = true)
  (a14 : PySem.W.nsIn K mainGlobals "best_for_all" = some (some (.ref f14))) (l14 : K.lookup f14 = some ⟨oc14, od14, .func (PySem.W.fnOf "best_for_all" "best_for_all" (defArgs (topS 21)) (defBody (topS 21)) (defScope (topS 21)) .none kV14 dc14 pm14 an14 cd14 ct14), sl14⟩) (c14 : PySem.W.codeIn K cd14 "best_for_all" = true) (k14 : PySem.W.keepIn K (.ref f14) = true)
  (a15 : PySem.W.nsIn K mainGlobals "worst_rest" = some (some (.ref f15))) (l15 : K.lookup f15 = some ⟨oc15, od15, .func (PySem.W.fnOf "worst_rest" "worst_rest" (defArgs (topS 22)) (defBody (topS 22)) (defScope (topS 22)) .none kV15 dc15 pm15 an15 cd15 ct15), sl15⟩) (c15 : PySem.W.codeIn K cd15 "worst_rest" = true) (k15 : PySem.W.keepIn K (.ref f15) = true)
  (a16 : PySem.W.nsIn K mainGlobals "_law_begin" = some (some (.ref f16))) (l16 : K.lookup f16 = some ⟨oc16, od16, .func (PySem.W.fnOf "_law_begin" "_law_begin" (defArgs (topS 24)) (defBody (topS 24)) (defScope (topS 24)) .none kV16 dc16 pm16 an16 cd16 ct16), sl16⟩) (c16 : PySem.W.codeIn K cd16 "_law_begin" = true) (k16 : PySem.W.keepIn K (.ref f16) = true)
  (a17 : PySem.W.nsIn K mainGlobals "_law_take" = some (some (.ref f17))) (l17 : K.lookup f17 = some ⟨oc17, od17, .func (PySem.W.fnOf "_law_take" "_law_take" (defArgs (topS 25)) (defBody (topS 25)) (defScope (topS 25)) .none kV17 dc17 pm17 an17 cd17 ct17), sl17⟩) (c17 : PySem.W.codeIn K cd17 "_law_take" = true) (k17 : PySem.W.keepIn K (.ref f17) = true)
  (a18 : PySem.W.nsIn K mainGlobals "_law_told" = some (some (.ref f18))) (l18 : K.lookup f18 = some ⟨oc18, od18, .func (PySem.W.fnOf "_law_told" "_law_told" (defArgs (topS 26)) (defBody (topS 26)) (defScope (topS 26)) .none kV18 dc18 pm18 an18 cd18 ct18), sl18⟩) (c18 : PySem.W.codeIn K cd18 "_law_told" = true) (k18 : PySem.W.keepIn K (.ref f18) = true)
  (a19 : PySem.W.nsIn K mainGlobals "_law_costs" = some (some (.ref f19))) (l19 : K.lookup f19 = some ⟨oc19, od19, .func (PySem.W.fnOf "_law_costs" "_law_costs" (defArgs (topS 27)) (defBody (topS 27)) (defScope (topS 27)) .none kV19 dc19 pm19 an19 cd19 ct19), sl19⟩) (c19 : PySem.W.codeIn K cd19 "_law_costs" = true) (k19 : PySem.W.keepIn K (.ref f19) = true)
  (a20 : PySem.W.nsIn K mainGlobals "_law_height" = some (some (.ref f20))) (l20 : K.lookup f20 = some ⟨oc20, od20, .func (PySem.W.fnOf "_law_height" "_law_height" (defArgs (topS 28)) (defBody (topS 28)) (defScope (topS 28)) .none kV20 dc20 pm20 an20 cd20 ct20), sl20⟩) (c20 : PySem.W.codeIn K cd20 "_law_height" = true) (k20 : PySem.W.keepIn K (.ref f20) = true)
  (a21 : PySem.W.nsIn K mainGlobals "_law_with" = some (some (.ref f21))) (l21 : K.lookup f21 = some ⟨oc21, od21, .func (PySem.W.fnOf "_law_with" "_law_with" (defArgs (topS 29)) (defBody (topS 29)) (defScope (topS 29)) .none kV21 dc21 pm21 an21 cd21 ct21), sl21⟩) (c21 : PySem.W.codeIn K cd21 "_law_with" = true) (k21 : PySem.W.keepIn K (.ref f21) = true)
  (a22 : PySem.W.nsIn K mainGlobals "_law_better" = some (some (.ref f22))) (l22 : K.lookup f22 = some ⟨oc22, od22, .func (PySem.W.fnOf "_law_better" "_law_better" (defArgs (topS 30)) (defBody (topS 30)) (defScope (topS 30)) .none kV22 dc22 pm22 an22 cd22 ct22), sl22⟩) (c22 : PySem.W.codeIn K cd22 "_law_better" = true) (k22 : PySem.W.keepIn K (.ref f22) = true)
  (a23 : PySem.W.nsIn K mainGlobals "_law_wrong" = some (some (.ref f23))) (l23 : K.lookup f23 = some ⟨oc23, od23, .func (PySem.W.fnOf "_law_wrong" "_law_wrong" (defArgs (topS 31)) (defBody (topS 31)) (defScope (topS 31)) .none kV23 dc23 pm23 an23 (.ref cc23) ct23), sl23⟩) (c23 : PySem.W.codeIn K (.ref cc23) "_law_wrong" = true) (k23 : PySem.W.keepIn K (.ref f23) = true) (n23a : K.lookup cc23 = some ⟨hc23, ho23, .fields hv23, ha23x⟩) (n23b : hv23[11]? = some (.ref pt23))
  (a24 : PySem.W.nsIn K mainGlobals "law" = some (some (.ref f24))) (l24 : K.lookup f24 = some ⟨oc24, od24, .func (PySem.W.fnOf "law" "law" (defArgs (topS 32)) (defBody (topS 32)) (defScope (topS 32)) .none kV24 dc24 pm24 an24 cd24 ct24), sl24⟩) (c24 : PySem.W.codeIn K cd24 "law" = true) (k24 : PySem.W.keepIn K (.ref f24) = true)
  (z0 : PySem.W.nsIn K mainGlobals "len" = some none)
  (z1 : PySem.W.nsIn K mainGlobals "min" = some none)
  (z2 : PySem.W.nsIn K mainGlobals "all" = some none)
  (z3 : PySem.W.nsIn K mainGlobals "range" = some none)
  (z4 : PySem.W.nsIn K mainGlobals "zip" = some none)
  (z5 : PySem.W.nsIn K mainGlobals "sum" = some none)
  (z6 : PySem.W.nsIn K mainGlobals "tuple" = some none)
  (z7 : PySem.W.nsIn K mainGlobals "enumerate" = some none)
  (z8 : PySem.W.nsIn K mainGlobals "max" = some none)
  (z9 : PySem.W.nsIn K mainGlobals "int" = some none)
  (z10 : PySem.W.nsIn K mainGlobals "list" = some none)
  (z11 : PySem.W.nsIn K mainGlobals "abs" = some none)
  (z12 : PySem.W.nsIn K mainGlobals "isinstance" = some none)
  (z13 : PySem.W.nsIn K mainGlobals "str" = some none)
  (y0 : PySem.W.nsIn K mainGlobals "MOST_HANDS" = some (some (.int 5 ty0)))
  (y1 : PySem.W.nsIn K mainGlobals "MOST_ROADS" = some (some (.int 8 ty1)))
  (y2 : PySem.W.nsIn K mainGlobals "MOST_ROUTES" = some (some (.int 5 ty2)))
  (x0 : PySem.W.nsIn K mainGlobals "MarketplaceError" = some (some (.ref E0))) (hg0 : PySem.W.findIn K (.ref E0) "__getattribute__" = some (some (.builtin "BaseException.__getattribute__"))) (hk0 : PySem.W.findIn K (.ref E0) "__getattr__" = some none) (hs0 : PySem.W.subIn K (.ref E0) (.type "BaseException") = some true) (hd0 : PySem.W.hasDictIn K E0 = true) (ha0 : PySem.W.findIn K (.ref E0) "__class__" = some (some (.builtin "object.__class__"))) (hm0 : PySem.W.mroIn K E0 (.type "object") = some true) (hc0 : PySem.W.isClsIn K E0 = true) (hy0 : PySem.W.typeIn K (.ref E0) = some (.type "type")) (hp0 : PySem.W.keepIn K (.ref E0) = true) (hx0 : PySem.W.findIn K (.ref E0) "code" = some none) (s0x0 : PySem.W.subIn K (.ref E0) (.ref E0) = some true) (s0x1 : PySem.W.subIn K (.ref E0) (.ref E1) = some false)
  (x1 : PySem.W.nsIn K mainGlobals "GuildError" = some (some (.ref E1))) (hg1 : PySem.W.findIn K (.ref E1) "__getattribute__" = some (some (.builtin "BaseException.__getattribute__"))) (hk1 : PySem.W.findIn K (.ref E1) "__getattr__" = some none) (hs1 : PySem.W.subIn K (.ref E1) (.type "BaseException") = some true) (hd1 : PySem.W.hasDictIn K E1 = true) (ha1 : PySem.W.findIn K (.ref E1) "__class__" = some (some (.builtin "object.__class__"))) (hm1 : PySem.W.mroIn K E1 (.type "object") = some true) (hc1 : PySem.W.isClsIn K E1 = true) (hy1 : PySem.W.typeIn K (.ref E1) = some (.type "type")) (hp1 : PySem.W.keepIn K (.ref E1) = true) (hx1 : PySem.W.findIn K (.ref E1) "code" = some none) (s1x0 : PySem.W.subIn K (.ref E1) (.ref E0) = some true) (s1x1 : PySem.W.subIn K (.ref E1) (.ref E1) = some true)
    (u1a : PySem.W.findIn K (.ref E1) "__init__" = some (some (.ref gI1)))
    (u1b : K.lookup gI1 = some ⟨gv1a, go1a, .func (PySem.W.ksFn "__init__" gq1 (geArgs gp1k gp1l) (geBody gp1a gp1b gp1c gp1d gp1e gp1f gp1g gp1h gp1i gp1j) geScope .none gv1b gv1c gv1d go1b (.ref gc1) gv1e gx1), gs1a⟩)
    (u1c : PySem.W.codeIn K (.ref gc1) gq1 = true)
    (u1d : K.lookup gc1 = some ⟨gv1f, go1c, .fields ga1, gs1b⟩)
    (u1e : ga1[2]? = some (.str gf1 gt1))
    (u1f : ((P.main.file : Str) == gf1) = true)
    (u1g : K.lookup gx1 = some ⟨gv1g, go1d, .cell (some (.ref E1)), gs1c⟩)
    (u1h : PySem.W.typeIn K (.ref gI1) = some (.type "function"))
    (u1i : GeLine gp1a gp1b gp1c gp1d gp1e)
    (u1j : (P.main.scope.names.lookup ("super" : Str)).isSome = false)
    (u1k : PySem.W.nsIn K mainGlobals "super" = some none)
    (u1l : K.lookup E1 = some (excClassObj gn1 gm1 E1 gN1 gl1a gl1b true gw1 gl1c gb1 gd1 go1e gz1a gz1b gz1c gz1d gz1e "ValueError.__new__"))
    (u1m : PySem.HandSPX.refsVE gl1b = true)
    (u1n : PySem.W.findIn K (.ref E1) "__setattr__" = some (some (.builtin "object.__setattr__")))
    (u1o : PySem.W.mroIn K E1 (.ref E1) = some true)
    (u1p : PySem.W.ks_superIn K E1 E1 "__init__" = some (some (.builtin "ValueError.__init__")))
    (u1q : PySem.W.nsIn K cStatics "thirdparty.any" = some none)
    (u1r : PySem.W.subIn K (.ref E1) (.type "ValueError") = some true)
    (u1s : PySem.W.excInitIn K E1 [.type "ValueError", .type "Exception", .type "BaseException", .type "object"] "ValueError.__new__" = true)
  (g1 : PySem.W.specialIn K (.builtin "object.__class__") "__get__" = some (some (.builtin "getset_descriptor.__get__"))) (g2 : PySem.W.takesIn K (.builtin "object.__class__") = some true)
  : PySem.W.tabIn K "_law_wrong" = some (cc23, pt23) ∧ ∃ fd : FuncData, (∀ (s : Shared) (v : Value), BindsTo s fd ⟨[v], []⟩ [("script", v)]) ∧ ∀ base : Heap, K.In base → base.Ns mainGlobals mg → (∀ p ∈ ([(cc23, pt23)] : List (Addr × Addr)), LamX.TabB base mg p.1 p.2) → FnOk P w K mg base (L2.CX P w) (lv (KK + 1)) fa fd ["script"] (spL K [(pt23, ("_law_wrong" : Str) ++ ".<locals>." ++ "<lambda>")] (callK FU (sbOf sbt) prog (KK + 1) 24)) := by
  refine ⟨by unfold PySem.W.tabIn; rw [a23]; simp only [l23, n23a, n23b], ?_⟩
  have t0 : FnT K mg cfg prog [(cc23, pt23)] [(pt23, ("_law_wrong" : Str) ++ ".<locals>." ++ "<lambda>")] "check_traffic" 0 1 false := ⟨"check_traffic", "check_traffic", defArgs (topS 7), defBody (topS 7), defScope (topS 7), .none, kV0, dc0, pm0, cd0, ct0, oc0, an0, od0, sl0, f0, ["traffic", "roads", "hands", "row", "routes", "route", "ascends", ".0", "k", "road"], ["traffic"], ⟨1, 10, false, b0⟩, none, false, l0, c0, k0, PySem.W.mg_of X G a0, .all (fun us hl => match us, hl with | [_], _ => rfl), sc0, rfl, rfl, rfl, rfl, rfl, (fun z => nomatch z), (fun h => absurd h (by decide +kernel)), (fun z => nomatch z), cb0⟩
  have t1 : FnT K mg cfg prog [(cc23, pt23)] [(pt23, ("_law_wrong" : Str) ++ ".<locals>." ++ "<lambda>")] "check_chosen" 1 2 false := ⟨"check_chosen", "check_chosen", defArgs (topS 8), defBody (topS 8), defScope (topS 8), .none, kV1, dc1, pm1, cd1, ct1, oc1, an1, od1, sl1, f1, ["traffic", "chosen", ".0", "number", "routes"], ["traffic", "chosen"], ⟨2, 5, false, b1⟩, none, false, l1, c1, k1, PySem.W.mg_of X G a1, .all (fun us hl => match us, hl with | [_, _], _ => rfl), sc1, rfl, rfl, rfl, rfl, rfl, (fun z => nomatch z), (fun h => absurd h (by decide +kernel)), (fun z => nomatch z), cb1⟩
  have t2 : FnT K mg cfg prog [(cc23, pt23)] [(pt23, ("_law_wrong" : Str) ++ ".<locals>." ++ "<lambda>")] "loads_of" 2 2 false := ⟨"loads_of", "loads_of", defArgs (topS 9), defBody (topS 9), defScope (topS 9), .none, kV2, dc2, pm2, cd2, ct2, oc2, an2, od2, sl2, f2, ["traffic", "chosen", "found", "number", "routes", "road"], ["traffic", "chosen"], ⟨2, 6, false, b2⟩, none, false, l2, c2, k2, PySem.W.mg_of X G a2, .all (fun us hl => match us, hl with | [_, _], _ => rfl), sc2, rfl, rfl, rfl, rfl, rfl, (fun z => nomatch z), (fun h => absurd h (by decide +kernel)), (fun z => nomatch z), cb2⟩
  have t3 : FnT K mg cfg prog [(cc23, pt23)] [(pt23, ("_law_wrong" : Str) ++ ".<locals>." ++ "<lambda>")] "cost_of" 3 3 false := ⟨"cost_of", "cost_of", defArgs (topS 10), defBody (topS 10), defScope (topS 10), .none, kV3, dc3, pm3, cd3, ct3, oc3, an3, od3, sl3, f3, ["traffic", "chosen", "hand", "loads", ".0", "road"], ["traffic", "chosen", "hand"], ⟨3, 6, false, b3⟩, none, false, l3, c3, k3, PySem.W.mg_of X G a3, .all (fun us hl => match us, hl with | [_, _, _], _ => rfl), sc3, rfl, rfl, rfl, rfl, rfl, (fun z => nomatch z), (fun h => absurd h (by decide +kernel)), (fun z => nomatch z), cb3⟩
  have t4 : FnT K mg cfg prog [(cc23, pt23)] [(pt23, ("_law_wrong" : Str) ++ ".<locals>." ++ "<lambda>")] "costs" 4 2 false := ⟨"costs", "costs", defArgs (topS 11), defBody (topS 11), defScope (topS 11), .none, kV4, dc4, pm4, cd4, ct4, oc4, an4, od4, sl4, f4, ["traffic", "chosen", ".0", "hand"], ["traffic", "chosen"], ⟨2, 4, false, b4⟩, none, false, l4, c4, k4, PySem.W.mg_of X G a4, .all (fun us hl => match us, hl with | [_, _], _ => rfl), sc4, rfl, rfl, rfl, rfl, rfl, (fun z => nomatch z), (fun h => absurd h (by decide +kernel)), (fun z => nomatch z), cb4⟩
  have t5 : FnT K mg cfg prog [(cc23, pt23)] [(pt23, ("_law_wrong" : Str) ++ ".<locals>." ++ "<lambda>")] "height_of" 5 2 false := ⟨"height_of", "height_of", defArgs (topS 12), defBody (topS 12), defScope (topS 12), .none, kV5, dc5, pm5, cd5, ct5, oc5, an5, od5, sl5, f5, ["traffic", "chosen", "loads", ".0", "row", "many"], ["traffic", "chosen"], ⟨2, 6, false, b5⟩, none, false, l5, c5, k5, PySem.W.mg_of X G a5, .all (fun us hl => match us, hl with | [_, _], _ => rfl), sc5, rfl, rfl, rfl, rfl, rfl, (fun z => nomatch z), (fun h => absurd h (by decide +kernel)), (fun z => nomatch z), cb5⟩
  have t6 : FnT K mg cfg prog [(cc23, pt23)] [(pt23, ("_law_wrong" : Str) ++ ".<locals>." ++ "<lambda>")] "height" 6 2 false := ⟨"height", "height", defArgs (topS 13), defBody (topS 13), defScope (topS 13), .none, kV6, dc6, pm6, cd6, ct6, oc6, an6, od6, sl6, f6, ["traffic", "chosen"], ["traffic", "chosen"], ⟨2, 2, false, b6⟩, none, false, l6, c6, k6, PySem.W.mg_of X G a6, .all (fun us hl => match us, hl with | [_, _], _ => rfl), sc6, rfl, rfl, rfl, rfl, rfl, (fun z => nomatch z), (fun h => absurd h (by decide +kernel)), (fun z => nomatch z), cb6⟩
  have t7 : FnT K mg cfg prog [(cc23, pt23)] [(pt23, ("_law_wrong" : Str) ++ ".<locals>." ++ "<lambda>")] "with_route" 7 3 false := ⟨"with_route", "with_route", defArgs (topS 14), defBody (topS 14), defScope (topS 14), .none, kV7, dc7, pm7, cd7, ct7, oc7, an7, od7, sl7, f7, ["chosen", "hand", "number"], ["chosen", "hand", "number"], ⟨3, 3, false, b7⟩, none, false, l7, c7, k7, PySem.W.mg_of X G a7, .all (fun us hl => match us, hl with | [_, _, _], _ => rfl), sc7, rfl, rfl, rfl, rfl, rfl, (fun z => nomatch z), (fun h => absurd h (by decide +kernel)), (fun z => nomatch z), cb7⟩
  have t8 : FnT K mg cfg prog [(cc23, pt23)] [(pt23, ("_law_wrong" : Str) ++ ".<locals>." ++ "<lambda>")] "better_in" 8 2 false := ⟨"better_in", "better_in", defArgs (topS 15), defBody (topS 15), defScope (topS 15), .none, kV8, dc8, pm8, cd8, ct8, oc8, an8, od8, sl8, f8, ["traffic", "chosen", "hand", "routes", "rows", ".0", "k"], ["traffic", "chosen"], ⟨2, 7, false, b8⟩, none, false, l8, c8, k8, PySem.W.mg_of X G a8, .all (fun us hl => match us, hl with | [_, _], _ => rfl), sc8, rfl, rfl, rfl, rfl, rfl, (fun z => nomatch z), (fun h => absurd h (by decide +kernel)), (fun z => nomatch z), cb8⟩
  have t9 : FnT K mg cfg prog [(cc23, pt23)] [(pt23, ("_law_wrong" : Str) ++ ".<locals>." ++ "<lambda>")] "better" 9 2 false := ⟨"better", "better", defArgs (topS 16), defBody (topS 16), defScope (topS 16), .none, kV9, dc9, pm9, cd9, ct9, oc9, an9, od9, sl9, f9, ["traffic", "chosen"], ["traffic", "chosen"], ⟨2, 2, false, b9⟩, none, false, l9, c9, k9, PySem.W.mg_of X G a9, .all (fun us hl => match us, hl with | [_, _], _ => rfl), sc9, rfl, rfl, rfl, rfl, rfl, (fun z => nomatch z), (fun h => absurd h (by decide +kernel)), (fun z => nomatch z), cb9⟩
  have t10 : FnT K mg cfg prog [(cc23, pt23)] [(pt23, ("_law_wrong" : Str) ++ ".<locals>." ++ "<lambda>")] "settle" 10 2 false := ⟨"settle", "settle", defArgs (topS 17), defBody (topS 17), defScope (topS 17), .none, kV10, dc10, pm10, cd10, ct10, oc10, an10, od10, sl10, f10, ["traffic", "chosen", "found", "now", "told"], ["traffic", "chosen"], ⟨2, 5, false, b10⟩, none, false, l10, c10, k10, PySem.W.mg_of X G a10, .all (fun us hl => match us, hl with | [_, _], _ => rfl), sc10, rfl, rfl, rfl, rfl, rfl, (fun z => nomatch z), (fun h => absurd h (by decide +kernel)), (fun z => nomatch z), cb10⟩
  have t11 : FnT K mg cfg prog [(cc23, pt23)] [(pt23, ("_law_wrong" : Str) ++ ".<locals>." ++ "<lambda>")] "all_chosen" 11 1 false := ⟨"all_chosen", "all_chosen", defArgs (topS 18), defBody (topS 18), defScope (topS 18), .none, kV11, dc11, pm11, cd11, ct11, oc11, an11, od11, sl11, f11, ["traffic", "found", "routes", "longer", "row", ".0", "number"], ["traffic"], ⟨1, 7, false, b11⟩, none, false, l11, c11, k11, PySem.W.mg_of X G a11, .all (fun us hl => match us, hl with | [_], _ => rfl), sc11, rfl, rfl, rfl, rfl, rfl, (fun z => nomatch z), (fun h => absurd h (by decide +kernel)), (fun z => nomatch z), cb11⟩
  have t12 : FnT K mg cfg prog [(cc23, pt23)] [(pt23, ("_law_wrong" : Str) ++ ".<locals>." ++ "<lambda>")] "resting" 12 1 false := ⟨"resting", "resting", defArgs (topS 19), defBody (topS 19), defScope (topS 19), .none, kV12, dc12, pm12, cd12, ct12, oc12, an12, od12, sl12, f12, ["traffic", ".0", "chosen"], ["traffic"], ⟨1, 3, false, b12⟩, none, false, l12, c12, k12, PySem.W.mg_of X G a12, .all (fun us hl => match us, hl with | [_], _ => rfl), sc12, rfl, rfl, rfl, rfl, rfl, (fun z => nomatch z), (fun h => absurd h (by decide +kernel)), (fun z => nomatch z), cb12⟩
  have t13 : FnT K mg cfg prog [(cc23, pt23)] [(pt23, ("_law_wrong" : Str) ++ ".<locals>." ++ "<lambda>")] "whole_cost" 13 2 false := ⟨"whole_cost", "whole_cost", defArgs (topS 20), defBody (topS 20), defScope (topS 20), .none, kV13, dc13, pm13, cd13, ct13, oc13, an13, od13, sl13, f13, ["traffic", "chosen", ".0", "hand"], ["traffic", "chosen"], ⟨2, 4, false, b13⟩, none, false, l13, c13, k13, PySem.W.mg_of X G a13, .all (fun us hl => match us, hl with | [_, _], _ => rfl), sc13, rfl, rfl, rfl, rfl, rfl, (fun z => nomatch z), (fun h => absurd h (by decide +kernel)), (fun z => nomatch z), cb13⟩
  have t14 : FnT K mg cfg prog [(cc23, pt23)] [(pt23, ("_law_wrong" : Str) ++ ".<locals>." ++ "<lambda>")] "best_for_all" 14 1 false := ⟨"best_for_all", "best_for_all", defArgs (topS 21), defBody (topS 21), defScope (topS 21), .none, kV14, dc14, pm14, cd14, ct14, oc14, an14, od14, sl14, f14, ["traffic", "rows", ".0", "chosen"], ["traffic"], ⟨1, 4, false, b14⟩, none, false, l14, c14, k14, PySem.W.mg_of X G a14, .all (fun us hl => match us, hl with | [_], _ => rfl), sc14, rfl, rfl, rfl, rfl, rfl, (fun z => nomatch z), (fun h => absurd h (by decide +kernel)), (fun z => nomatch z), cb14⟩
  have t15 : FnT K mg cfg prog [(cc23, pt23)] [(pt23, ("_law_wrong" : Str) ++ ".<locals>." ++ "<lambda>")] "worst_rest" 15 1 false := ⟨"worst_rest", "worst_rest", defArgs (topS 22), defBody (topS 22), defScope (topS 22), .none, kV15, dc15, pm15, cd15, ct15, oc15, an15, od15, sl15, f15, ["traffic", "rows", ".0", "chosen"], ["traffic"], ⟨1, 4, false, b15⟩, none, false, l15, c15, k15, PySem.W.mg_of X G a15, .all (fun us hl => match us, hl with | [_], _ => rfl), sc15, rfl, rfl, rfl, rfl, rfl, (fun z => nomatch z), (fun h => absurd h (by decide +kernel)), (fun z => nomatch z), cb15⟩
  have t16 : FnT K mg cfg prog [(cc23, pt23)] [(pt23, ("_law_wrong" : Str) ++ ".<locals>." ++ "<lambda>")] "_law_begin" 16 1 false := ⟨"_law_begin", "_law_begin", defArgs (topS 24), defBody (topS 24), defScope (topS 24), .none, kV16, dc16, pm16, cd16, ct16, oc16, an16, od16, sl16, f16, ["script", "seed", "cell"], ["script"], ⟨1, 3, false, b16⟩, none, false, l16, c16, k16, PySem.W.mg_of X G a16, .all (fun us hl => match us, hl with | [_], _ => rfl), sc16, rfl, rfl, rfl, rfl, rfl, (fun z => nomatch z), (fun h => absurd h (by decide +kernel)), (fun z => nomatch z), cb16⟩
  have t17 : FnT K mg cfg prog [(cc23, pt23)] [(pt23, ("_law_wrong" : Str) ++ ".<locals>." ++ "<lambda>")] "_law_take" 17 2 true := ⟨"_law_take", "_law_take", defArgs (topS 25), defBody (topS 25), defScope (topS 25), .none, kV17, dc17, pm17, cd17, ct17, oc17, an17, od17, sl17, f17, ["d", "many", "small", "digit"], ["d", "many"], ⟨2, 4, true, b17⟩, none, false, l17, c17, k17, PySem.W.mg_of X G a17, .all (fun us hl => match us, hl with | [_, _], _ => rfl), sc17, rfl, rfl, rfl, rfl, rfl, (fun _ => by decide), (fun h => absurd h (by decide +kernel)), (fun z => nomatch z), cb17⟩
  have t18 : FnT K mg cfg prog [(cc23, pt23)] [(pt23, ("_law_wrong" : Str) ++ ".<locals>." ++ "<lambda>")] "_law_told" 18 1 false := ⟨"_law_told", "_law_told", defArgs (topS 26), defBody (topS 26), defScope (topS 26), .none, kV18, dc18, pm18, cd18, ct18, oc18, an18, od18, sl18, f18, ["call", "e"], ["call"], ⟨1, 2, false, b18⟩, some ("call", 0), false, l18, c18, k18, PySem.W.mg_of X G a18, .all (fun us hl => match us, hl with | [_], _ => rfl), sc18, rfl, rfl, rfl, rfl, rfl, (fun z => nomatch z), (fun _ => ⟨rfl, rfl, rfl, rfl, _, rfl, rfl, by decide, by decide⟩), (fun z => nomatch z), cb18⟩
  have t19 : FnT K mg cfg prog [(cc23, pt23)] [(pt23, ("_law_wrong" : Str) ++ ".<locals>." ++ "<lambda>")] "_law_costs" 19 2 false := ⟨"_law_costs", "_law_costs", defArgs (topS 27), defBody (topS 27), defScope (topS 27), .none, kV19, dc19, pm19, cd19, ct19, oc19, an19, od19, sl19, f19, ["traffic", "chosen", "roads", "hands", "loads", ".0", "road", "k"], ["traffic", "chosen"], ⟨2, 8, false, b19⟩, none, false, l19, c19, k19, PySem.W.mg_of X G a19, .all (fun us hl => match us, hl with | [_, _], _ => rfl), sc19, rfl, rfl, rfl, rfl, rfl, (fun z => nomatch z), (fun h => absurd h (by decide +kernel)), (fun z => nomatch z), cb19⟩
  have t20 : FnT K mg cfg prog [(cc23, pt23)] [(pt23, ("_law_wrong" : Str) ++ ".<locals>." ++ "<lambda>")] "_law_height" 20 2 false := ⟨"_law_height", "_law_height", defArgs (topS 28), defBody (topS 28), defScope (topS 28), .none, kV20, dc20, pm20, cd20, ct20, oc20, an20, od20, sl20, f20, ["traffic", "chosen", "roads", "hands", "loads", ".0", "road", "k"], ["traffic", "chosen"], ⟨2, 8, false, b20⟩, none, false, l20, c20, k20, PySem.W.mg_of X G a20, .all (fun us hl => match us, hl with | [_, _], _ => rfl), sc20, rfl, rfl, rfl, rfl, rfl, (fun z => nomatch z), (fun h => absurd h (by decide +kernel)), (fun z => nomatch z), cb20⟩
  have t21 : FnT K mg cfg prog [(cc23, pt23)] [(pt23, ("_law_wrong" : Str) ++ ".<locals>." ++ "<lambda>")] "_law_with" 21 3 false := ⟨"_law_with", "_law_with", defArgs (topS 29), defBody (topS 29), defScope (topS 29), .none, kV21, dc21, pm21, cd21, ct21, oc21, an21, od21, sl21, f21, ["chosen", "hand", "number"], ["chosen", "hand", "number"], ⟨3, 3, false, b21⟩, none, false, l21, c21, k21, PySem.W.mg_of X G a21, .all (fun us hl => match us, hl with | [_, _, _], _ => rfl), sc21, rfl, rfl, rfl, rfl, rfl, (fun z => nomatch z), (fun h => absurd h (by decide +kernel)), (fun z => nomatch z), cb21⟩
  have t22 : FnT K mg cfg prog [(cc23, pt23)] [(pt23, ("_law_wrong" : Str) ++ ".<locals>." ++ "<lambda>")] "_law_better" 22 2 false := ⟨"_law_better", "_law_better", defArgs (topS 30), defBody (topS 30), defScope (topS 30), .none, kV22, dc22, pm22, cd22, ct22, oc22, an22, od22, sl22, f22, ["traffic", "chosen", "hand", "prices", ".0", "k"], ["traffic", "chosen"], ⟨2, 6, false, b22⟩, none, false, l22, c22, k22, PySem.W.mg_of X G a22, .all (fun us hl => match us, hl with | [_, _], _ => rfl), sc22, rfl, rfl, rfl, rfl, rfl, (fun z => nomatch z), (fun h => absurd h (by decide +kernel)), (fun z => nomatch z), cb22⟩
  have t23 : FnT K mg cfg prog [(cc23, pt23)] [(pt23, ("_law_wrong" : Str) ++ ".<locals>." ++ "<lambda>")] "_law_wrong" 23 0 false := ⟨"_law_wrong", "_law_wrong", defArgs (topS 31), defBody (topS 31), defScope (topS 31), .none, kV23, dc23, pm23, (.ref cc23), ct23, oc23, an23, od23, sl23, f23, ["code", "told", "one", "wrong"], [], ⟨0, 4, false, b23⟩, none, true, l23, c23, k23, PySem.W.mg_of X G a23, .all (fun us hl => match us, hl with | [], _ => rfl), sc23, rfl, rfl, rfl, rfl, rfl, (fun z => nomatch z), (fun h => absurd h (by decide +kernel)), (fun _ => ⟨_, _, rfl, (.head _), (.head _), (fun p hp _ => by cases hp with | head => rfl | tail _ h => cases h)⟩), cb23⟩
  have t24 : FnT K mg cfg prog [(cc23, pt23)] [(pt23, ("_law_wrong" : Str) ++ ".<locals>." ++ "<lambda>")] "law" 24 1 false := ⟨"law", "law", defArgs (topS 32), defBody (topS 32), defScope (topS 32), .none, kV24, dc24, pm24, cd24, ct24, oc24, an24, od24, sl24, f24, ["script", "d", "many", "roads", "k", "table", "hands", "traffic", "everything", "routes", "longer", "row", "chosen", "still", "sums", "rests", "hand", "other", "now", "rows", ".0", "j", "road", "number"], ["script"], ⟨1, 24, false, b24⟩, none, false, l24, c24, k24, PySem.W.mg_of X G a24, .all (fun us hl => match us, hl with | [_], _ => rfl), sc24, rfl, rfl, rfl, rfl, rfl, (fun z => nomatch z), (fun h => absurd h (by decide +kernel)), (fun z => nomatch z), cb24⟩
  have e := hfa.symm.trans (PySem.W.mg_of X G a24)
  cases e
  refine ⟨PySem.W.fnOf "law" "law" (defArgs (topS 32)) (defBody (topS 32)) (defScope (topS 32)) .none kV24 dc24 pm24 an24 cd24 ct24, fun s v => .of_eq rfl, fun base _ _ hTB => ?_⟩
  have T : TabOk P base K mg cfg prog (caOf [E0, E1]) (sbOf sbt) [(cc23, pt23)] [(pt23, ("_law_wrong" : Str) ++ ".<locals>." ++ "<lambda>")] := tabX rfl (diag_of rfl) rfl ⟨t0, t1, t2, t3, t4, t5, t6, t7, t8, t9, t10, t11, t12, t13, t14, t15, t16, t17, t18, t19, t20, t21, t22, t23, t24, trivial⟩ hTB ⟨(fun _ => PySem.W.mg_none_of X G z0), (fun _ => PySem.W.mg_none_of X G z1), (fun _ => PySem.W.mg_none_of X G z2), (fun _ => PySem.W.mg_none_of X G z3), (fun _ => PySem.W.mg_none_of X G z4), (fun _ => PySem.W.mg_none_of X G z5), (fun _ => PySem.W.mg_none_of X G z6), (fun _ => PySem.W.mg_none_of X G z7), (fun _ => PySem.W.mg_none_of X G z8), (fun _ => PySem.W.mg_none_of X G z9), (fun _ => PySem.W.mg_none_of X G z10), (fun _ => PySem.W.mg_none_of X G z11), (fun _ => PySem.W.mg_none_of X G z12), (fun _ => PySem.W.mg_none_of X G z13), trivial⟩ (fun h => absurd h (by decide)) ⟨cst_int (PySem.W.mg_of X G y0), cst_int (PySem.W.mg_of X G y1), cst_int (PySem.W.mg_of X G y2), trivial⟩ ⟨⟨⟨hg0, hk0, hs0, hd0, ha0, g1, g2, hm0⟩, hc0, hy0, hp0, hx0⟩, ⟨⟨hg1, hk1, hs1, hd1, ha1, g1, g2, hm1⟩, hc1, hy1, hp1, hx1⟩, trivial⟩ ⟨PySem.W.mg_of X G x0, PySem.W.mg_of X G x1, trivial⟩ ⟨⟨s0x0, s0x1, trivial⟩, ⟨s1x0, s1x1, trivial⟩, trivial⟩ ⟨(fun h => absurd h (by decide +kernel)), (fun h => absurd h (by decide +kernel)), trivial⟩ ⟨(fun h => absurd h (by decide +kernel)), (fun _ => ⟨⟨gp1a, gp1b, gp1c, gp1d, gp1e, gp1f, gp1g, gp1h, gp1i, gp1j, gp1k, gp1l, gq1, gI1, gx1, gc1, gv1b, gv1c, gv1d, gv1e, gv1a, go1b, go1a, gs1a, gv1f, gv1g, go1c, go1d, gs1b, gs1c, ga1, gf1, gt1, u1b, u1c, u1d, u1e, u1f, u1g, u1a, u1h, u1i⟩, u1j, u1k, ⟨⟨gn1, gm1, gN1, gl1a, gl1b, gw1, gl1c, gb1, gd1, go1e, gz1a, gz1b, gz1c, gz1d, gz1e, u1l, u1m⟩, u1n, hs1, hy1, hp1⟩, u1o, u1p, u1q, u1r, u1s, hx1⟩), trivial⟩
  exact fn_lock ((fn_one (fi := 24) (np := 1) (I := ⟨1, 24, false, b24⟩) (io := false) (clo := none) (lam := false) T (fn_all T KK) l24 c24 sc24 rfl rfl rfl rfl rfl (fun z => nomatch z) cb24).imp spWT_imp)
end K64
/-! L2v: one step after another. -/
namespace Rf
open PySem
def wD (s : Sl) (Q : D → Prop) : Prop := match s with
  | .im d => Q d
  | .mu ds => Q (.lst ds)
  | _ => False
def wO (a : IE) (σ : Sls) (s : Sl) (Q : D → Prop) : Prop := match a with
  | .lv i => ∃ t, σ[i]? = some t ∧ wD t Q
  | _ => wD s Q
/-- a test's two ways -/
def tB (s : Sl) (A B : Prop) : Prop := ∃ k, s = .im (.bl k) ∧ (k = true → A) ∧ (k = false → B)
section
variable {α : Type} {sb : Sub} {cf : Nat → List Sl → FR} {W : Nat} {σ : Sls} {P : Sl → Sls → Prop} {a b c e es : IE} {d : D} {ds : List D} {i j n : Nat} {s : Sl} {Q : D → Prop}
theorem okp_wd {f : D → R α} {P : α → Sls → Prop} (h : wD s fun d => OkP (f d) P) : OkP (wd s f) P := by
  cases s with
  | im d => exact h
  | mu d => exact h
  | un => exact h.elim
  | exn x => exact h.elim
  | clo x => exact h.elim
theorem okp_wo {f : D → R α} {P : α → Sls → Prop} (h : wO a σ s fun d => OkP (f d) P) : OkP (wo a σ s f) P := by
  cases a with
  | lv i =>
    obtain ⟨t, e, h⟩ := h
    simp only [wo, e]
    exact okp_wd h
  | _ => exact okp_wd h
theorem wd_im (h : Q d) : wD (.im d) Q := h
theorem wd_mu (h : Q (.lst ds)) : wD (.mu ds) Q := h
theorem wo_lv {t : Sl} (e : σ[i]? = some t) (h : wD t Q) : wO (.lv i) σ s Q := ⟨t, e, h⟩
theorem wo_o (ha : ∀ i, a ≠ .lv i) (h : wD s Q) : wO a σ s Q := by
  cases a with
  | lv i => exact absurd rfl (ha i)
  | _ => exact h
theorem wD.imp {Q' : D → Prop} (h : wD s Q) (w : ∀ d, Q d → Q' d) : wD s Q' := by
  cases s with
  | im d => exact w d h
  | mu d => exact w _ h
  | un => exact h.elim
  | exn x => exact h.elim
  | clo x => exact h.elim
theorem wO.imp {Q' : D → Prop} (h : wO a σ s Q) (w : ∀ d, Q d → Q' d) : wO a σ s Q' := by
  cases a with
  | lv i => obtain ⟨t, e, h⟩ := h; exact ⟨t, e, h.imp w⟩
  | _ => exact wD.imp h w
theorem tb_of {k : Bool} {A B : Prop} (h1 : k = true → A) (h2 : k = false → B) : tB (.im (.bl k)) A B := ⟨k, rfl, h1, h2⟩
theorem tb_dec {p : Prop} [Decidable p] {A B : Prop} (h1 : p → A) (h2 : ¬ p → B) : tB (.im (.bl (decide p))) A B := ⟨_, rfl, fun e => h1 (of_decide_eq_true e), fun e => h2 (of_decide_eq_false e)⟩
theorem tb_ndec {p : Prop} [Decidable p] {A B : Prop} (h1 : ¬ p → A) (h2 : p → B) : tB (.im (.bl (!decide p))) A B := ⟨_, rfl, fun e => h1 (by simpa using e), fun e => h2 (by simpa using e)⟩
theorem tb_yes {p : Prop} [Decidable p] {A B : Prop} (e : p) (h1 : A) : tB (.im (.bl (decide p))) A B := ⟨_, rfl, fun _ => h1, fun z => absurd e (of_decide_eq_false z)⟩
theorem tb_no {p : Prop} [Decidable p] {A B : Prop} (e : ¬ p) (h1 : B) : tB (.im (.bl (decide p))) A B := ⟨_, rfl, fun z => absurd (of_decide_eq_true z) e, fun _ => h1⟩
theorem tb_bool {k : Bool} {A B : Prop} (h1 : k = true → A) (h2 : k = false → B) : tB (.im (.bl k)) A B := ⟨_, rfl, h1, h2⟩
theorem tb_not {k : Bool} {A B : Prop} (h1 : k = false → A) (h2 : k = true → B) : tB (.im (.bl (!k))) A B := ⟨_, rfl, fun e => h1 (by simpa using e), fun e => h2 (by simpa using e)⟩
theorem tb_t {A B : Prop} (h1 : A) : tB (.im (.bl true)) A B := ⟨_, rfl, fun _ => h1, fun e => nomatch e⟩
theorem tb_f {A B : Prop} (h1 : B) : tB (.im (.bl false)) A B := ⟨_, rfl, fun e => (nomatch e), fun _ => h1⟩
theorem okp_tb {f g : R α} {P : α → Sls → Prop} (h : tB s (OkP f P) (OkP g P)) : OkP (match s with
    | .im (.bl true) => f
    | .im (.bl false) => g
    | _ => .bad) P := by
  obtain ⟨k, rfl, h1, h2⟩ := h
  cases k with
  | true => exact h1 rfl
  | false => exact h2 rfl
/-- a slot's own list -/
def hasMu (o : Option Sl) (Q : List D → Prop) : Prop := ∃ ds, o = some (.mu ds) ∧ Q ds
theorem hasMu_of {o : Option Sl} {Q : List D → Prop} (e : o = some (.mu ds)) (h : Q ds) : hasMu o Q := ⟨_, e, h⟩
def isInt (p : D) (Q : Int → Prop) : Prop := ∃ k, p = .int k ∧ Q k
theorem isInt_of {Q : Int → Prop} {k : Int} (h : Q k) : isInt (.int k) Q := ⟨_, rfl, h⟩
def isN (o : Option Nat) (Q : Nat → Prop) : Prop := ∃ k, o = some k ∧ Q k
theorem isN_of {o : Option Nat} {Q : Nat → Prop} {k : Nat} (e : o = some k) (h : Q k) : isN o Q := ⟨_, e, h⟩
def isI (s : Sl) (A : Prop) : Prop := ∃ m, s = .im (.int m) ∧ A
theorem isI_of {k : Int} {A : Prop} (h : A) : isI (.im (.int k)) A := ⟨_, rfl, h⟩
theorem isMuC {ds : List D} {Q : List D → Prop} (h : Q ds) : ∃ cs, Sl.mu ds = .mu cs ∧ Q cs := ⟨_, rfl, h⟩
theorem sz_of {n : Nat} {A : Prop} (e : n ≤ sizeLine) (h : A) : n ≤ sizeLine ∧ A := ⟨e, h⟩
/-! expressions -/
theorem o_cst (h : P (.im d) σ) : OkP (evE sb cf (.cst d) σ) P := ⟨_, _, rfl, h⟩
theorem o_glo (h : P (.im d) σ) : OkP (evE sb cf (.glo d) σ) P := ⟨_, _, rfl, h⟩
theorem o_var_im (e : σ[i]? = some (.im d)) (h : P (.im d) σ) : OkP (evE sb cf (.var i) σ) P := ⟨_, _, by simp only [evE, e], h⟩
theorem o_var_mu (e : σ[i]? = some (.mu ds)) (h : P (.im (.lst ds)) (σ.set i (.im (.lst ds)))) : OkP (evE sb cf (.var i) σ) P := ⟨_, _, by simp only [evE, e], h⟩
theorem o_lv_im (e : σ[i]? = some (.im d)) (h : P .un σ) : OkP (evE sb cf (.lv i) σ) P := ⟨_, _, by simp only [evE, e], h⟩
theorem o_lv_mu (e : σ[i]? = some (.mu ds)) (h : P .un σ) : OkP (evE sb cf (.lv i) σ) P := ⟨_, _, by simp only [evE, e], h⟩
theorem o_nil (h : P (.mu []) σ) : OkP (evE sb cf .nil σ) P := ⟨_, _, rfl, h⟩
/-- the value of a list of expressions -/
def isMu (s : Sl) (Q : List D → Prop) : Prop := ∃ ds, s = .mu ds ∧ Q ds
theorem mu_of {Q : List D → Prop} (h : Q ds) : isMu (.mu ds) Q := ⟨_, rfl, h⟩
theorem o_cons (h : OkP (evE sb cf e σ) fun x σ1 => wD x fun d => OkP (evE sb cf es σ1) fun y σ2 => isMu y fun ds => P (.mu (d :: ds)) σ2) : OkP (evE sb cf (.cons e es) σ) P := by
  simp only [evE, okp_bind]
  refine h.imp fun x σ1 h => okp_wd (h.imp fun d h => ?_)
  rw [okp_bind]
  refine h.imp fun y σ2 ⟨ds, e, h⟩ => ?_
  subst e
  exact ⟨_, _, rfl, h⟩
theorem o_tup (h : OkP (evE sb cf es σ) fun y σ1 => isMu y fun ds => ds.length ≤ sizeLine ∧ P (.im (.tup ds)) σ1) : OkP (evE sb cf (.tup es) σ) P := by
  simp only [evE, okp_bind]
  refine h.imp fun y σ1 ⟨ds, e, hl, h⟩ => ?_
  subst e
  dsimp only
  rw [if_pos hl]
  exact ⟨_, _, rfl, h⟩
theorem o_lst (h : OkP (evE sb cf es σ) fun y σ1 => isMu y fun ds => ds.length ≤ sizeLine ∧ P (.mu ds) σ1) : OkP (evE sb cf (.lst es) σ) P := by
  simp only [evE, okp_bind]
  refine h.imp fun y σ1 ⟨ds, e, hl, h⟩ => ?_
  subst e
  dsimp only
  rw [if_pos hl]
  exact ⟨_, _, rfl, h⟩
def isO (o : Option Sl) (Q : Sl → Prop) : Prop := ∃ s, o = some s ∧ Q s
theorem isO_of {o : Option Sl} {Q : Sl → Prop} (e : o = some s) (h : Q s) : isO o Q := ⟨_, e, h⟩
def isD (o : Option D) (Q : D → Prop) : Prop := ∃ s, o = some s ∧ Q s
def isB' (o : Option Bool) (Q : Bool → Prop) : Prop := ∃ s, o = some s ∧ Q s
theorem isB'_of {o : Option Bool} {Q : Bool → Prop} {k : Bool} (e : o = some k) (h : Q k) : isB' o Q := ⟨_, e, h⟩
theorem isD_of {o : Option D} (e : o = some d) (h : Q d) : isD o Q := ⟨_, e, h⟩
theorem isO_mul {i j : Int} {Q : Sl → Prop} (hm : mulOk i j = true) (h : Q (.im (.int (i * j)))) : isO (bopD .mul (.int i) (.int j)) Q := ⟨_, by simp only [bopD]; rw [if_pos hm], h⟩
theorem isO_fdv {i j : Int} {Q : Sl → Prop} (hm : divOk j = true) (h : Q (.im (.int (i / j)))) : isO (bopD .fdv (.int i) (.int j)) Q := ⟨_, by simp only [bopD]; rw [if_pos hm], h⟩
theorem isO_mod {i j : Int} {Q : Sl → Prop} (hm : 0 < j) (h : Q (.im (.int (i % j)))) : isO (bopD .mod (.int i) (.int j)) Q := ⟨_, by simp only [bopD]; rw [if_pos hm], h⟩
theorem isO_lst {xs ys : List D} {Q : Sl → Prop} (hm : xs.length + ys.length ≤ sizeLine) (h : Q (.mu (xs ++ ys))) : isO (bopD .add (.lst xs) (.lst ys)) Q := ⟨_, by simp only [bopD]; rw [if_pos hm], h⟩
theorem isO_tup {xs ys : List D} {Q : Sl → Prop} (hm : xs.length + ys.length ≤ sizeLine) (h : Q (.im (.tup (xs ++ ys)))) : isO (bopD .add (.tup xs) (.tup ys)) Q := ⟨_, by simp only [bopD]; rw [if_pos hm], h⟩
theorem eqv_ii {i j : Int} : (D.int i).eqv (.int j) = decide (i = j) := by
  show PyData.eqv (.int i) (.int j) = _
  simp only [PyData.eqv]
  by_cases h : i = j <;> simp [h]
theorem eqv_ss {i j : Str} : (D.str i).eqv (.str j) = decide (i = j) := by
  show PyData.eqv (.str i) (.str j) = _
  simp only [PyData.eqv]
  by_cases h : i = j <;> simp [h]
theorem isB'_eq_ii {i j : Int} {Q : Bool → Prop} (h : Q (decide (i = j))) : isB' (copD .eq (.int i) (.int j)) Q := ⟨_, by simp only [copD, eqOk_l (show (D.int i).deep ≤ 200 from Nat.zero_le _), if_true, eqv_ii], h⟩
theorem isB'_ne_ii {i j : Int} {Q : Bool → Prop} (h : Q (!decide (i = j))) : isB' (copD .ne (.int i) (.int j)) Q := ⟨_, by simp only [copD, eqOk_l (show (D.int i).deep ≤ 200 from Nat.zero_le _), if_true, eqv_ii], h⟩
theorem isB'_eq_ss {i j : Str} {Q : Bool → Prop} (h : Q (decide (i = j))) : isB' (copD .eq (.str i) (.str j)) Q := ⟨_, by simp only [copD, eqOk_l (show (D.str i).deep ≤ 200 from Nat.zero_le _), if_true, eqv_ss], h⟩
theorem isB'_ne_ss {i j : Str} {Q : Bool → Prop} (h : Q (!decide (i = j))) : isB' (copD .ne (.str i) (.str j)) Q := ⟨_, by simp only [copD, eqOk_l (show (D.str i).deep ≤ 200 from Nat.zero_le _), if_true, eqv_ss], h⟩
theorem isB'_eq_r {x y : D} {Q : Bool → Prop} (e : y.deep ≤ 200) (h : Q (x.eqv y)) : isB' (copD .eq x y) Q := ⟨_, by simp only [copD, eqOk_r e, if_true], h⟩
theorem isB'_ne_r {x y : D} {Q : Bool → Prop} (e : y.deep ≤ 200) (h : Q (!x.eqv y)) : isB' (copD .ne x y) Q := ⟨_, by simp only [copD, eqOk_r e, if_true], h⟩
theorem isB'_eq_l {x y : D} {Q : Bool → Prop} (e : x.deep ≤ 200) (h : Q (x.eqv y)) : isB' (copD .eq x y) Q := ⟨_, by simp only [copD, eqOk_l e, if_true], h⟩
theorem isB'_ne_l {x y : D} {Q : Bool → Prop} (e : x.deep ≤ 200) (h : Q (!x.eqv y)) : isB' (copD .ne x y) Q := ⟨_, by simp only [copD, eqOk_l e, if_true], h⟩
theorem at_nat {xs : List D} {j : Nat} (e : xs[j]? = some d) : L2.atI xs (j : Int) = some d := by
  have hj : j < xs.length := (List.getElem?_eq_some_iff.mp e).1
  unfold L2.atI L2.ixN
  rw [if_pos (by omega), if_pos (by omega)]
  simpa using e
theorem isD_t0 {x : D} {xs : List D} (h : Q x) : isD (idxD (.tup (x :: xs)) (.int 0)) Q := ⟨x, at_nat (j := 0) rfl, h⟩
theorem isD_t1 {x y : D} {xs : List D} (h : Q y) : isD (idxD (.tup (x :: y :: xs)) (.int 1)) Q := ⟨y, at_nat (j := 1) rfl, h⟩
theorem isD_t2 {x y z : D} {xs : List D} (h : Q z) : isD (idxD (.tup (x :: y :: z :: xs)) (.int 2)) Q := ⟨z, at_nat (j := 2) rfl, h⟩
theorem isD_l0 {x : D} {xs : List D} (h : Q x) : isD (idxD (.lst (x :: xs)) (.int 0)) Q := ⟨x, at_nat (j := 0) rfl, h⟩
theorem isD_l1 {x y : D} {xs : List D} (h : Q y) : isD (idxD (.lst (x :: y :: xs)) (.int 1)) Q := ⟨y, at_nat (j := 1) rfl, h⟩
theorem o_bin {o : BOp} (h : OkP (evE sb cf a σ) fun x σ1 => OkP (evE sb cf b σ1) fun y σ2 => wO a σ2 x fun p => wO b σ2 y fun q => isO (bopD o p q) fun s => P s σ2) : OkP (evE sb cf (.bin o a b) σ) P := by
  simp only [evE, okp_bind]
  refine h.imp fun x σ1 h => h.imp fun y σ2 h => okp_wo (h.imp fun p h => okp_wo (h.imp fun q ⟨s, e, h⟩ => ?_))
  rw [e]
  exact ⟨_, _, rfl, h⟩
theorem o_neg (h : OkP (evE sb cf a σ) fun x σ1 => wO a σ1 x fun p => isInt p fun i => P (.im (.int (-i))) σ1) : OkP (evE sb cf (.neg a) σ) P := by
  simp only [evE, okp_bind]
  refine h.imp fun x σ1 h => okp_wo (h.imp fun p ⟨i, e, h⟩ => ?_)
  subst e
  exact ⟨_, _, rfl, h⟩
theorem o_rep (h : OkP (evE sb cf a σ) fun x σ1 => OkP (evE sb cf b σ1) fun y σ2 => wO b σ2 y fun q => ∃ ds j, x = .mu ds ∧ q = .int j ∧ (-(2 ^ 63) ≤ j ∧ j < 2 ^ 63) ∧ ds.length * j.toNat ≤ sizeLine ∧ P (.mu (List.replicate j.toNat ds).flatten) σ2) : OkP (evE sb cf (.rep a b) σ) P := by
  simp only [evE, okp_bind]
  refine h.imp fun x σ1 h => h.imp fun y σ2 h => okp_wo (h.imp fun q ⟨ds, j, e1, e2, h1, h2, h9⟩ => ?_)
  subst e1; subst e2
  dsimp only
  rw [if_pos ⟨h1, h2⟩]
  exact ⟨_, _, rfl, h9⟩
theorem o_cmp {o : COp} (h : OkP (evE sb cf a σ) fun x σ1 => OkP (evE sb cf b σ1) fun y σ2 => wO a σ2 x fun p => wO b σ2 y fun q => isB' (copD o p q) fun k => P (.im (.bl k)) σ2) : OkP (evE sb cf (.cmp o a b) σ) P := by
  simp only [evE, okp_bind]
  refine h.imp fun x σ1 h => h.imp fun y σ2 h => okp_wo (h.imp fun p h => okp_wo (h.imp fun q ⟨s, e, h⟩ => ?_))
  rw [e]
  exact ⟨_, _, rfl, h⟩
theorem o_chn {o p : COp} (h : OkP (evE sb cf a σ) fun x σ1 => OkP (evE sb cf b σ1) fun y σ2 => wO a σ2 x fun d1 => wO b σ2 y fun d2 => isB' (copD o d1 d2) fun k => tB (.im (.bl k)) (OkP (evE sb cf c σ2) fun z σ3 => wO b σ3 y fun d2 => wO c σ3 z fun d3 => isB' (copD p d2 d3) fun k => P (.im (.bl k)) σ3) (P (.im (.bl false)) σ2)) :
    OkP (evE sb cf (.chn o p a b c) σ) P := by
  simp only [evE, okp_bind]
  refine h.imp fun x σ1 h => h.imp fun y σ2 h => okp_wo (h.imp fun d1 h => okp_wo (h.imp fun d2 ⟨k, e, k', e', h1, h2⟩ => ?_))
  cases e'
  rw [e]
  cases k with
  | false => exact ⟨_, _, rfl, h2 rfl⟩
  | true =>
    dsimp only
    rw [okp_bind]
    refine (h1 rfl).imp fun z σ3 h => okp_wo (h.imp fun d2 h => okp_wo (h.imp fun d3 ⟨k, e, h⟩ => ?_))
    rw [e]
    exact ⟨_, _, rfl, h⟩
theorem o_nt (h : OkP (evE sb cf a σ) fun x σ1 => tB x (P (.im (.bl false)) σ1) (P (.im (.bl true)) σ1)) : OkP (evE sb cf (.nt a) σ) P := by
  simp only [evE, okp_bind]
  refine h.imp fun x σ1 ⟨k, e, h1, h2⟩ => ?_
  subst e
  cases k with
  | true => exact ⟨_, _, rfl, h1 rfl⟩
  | false => exact ⟨_, _, rfl, h2 rfl⟩
theorem o_an (h : OkP (evE sb cf a σ) fun x σ1 => tB x (OkP (evE sb cf b σ1) P) (P (.im (.bl false)) σ1)) : OkP (evE sb cf (.an a b) σ) P := by
  simp only [evE, okp_bind]
  refine h.imp fun x σ1 ⟨k, e, h1, h2⟩ => ?_
  subst e
  cases k with
  | true => exact h1 rfl
  | false => exact ⟨_, _, rfl, h2 rfl⟩
theorem o_orr (h : OkP (evE sb cf a σ) fun x σ1 => tB x (P (.im (.bl true)) σ1) (OkP (evE sb cf b σ1) P)) : OkP (evE sb cf (.orr a b) σ) P := by
  simp only [evE, okp_bind]
  refine h.imp fun x σ1 ⟨k, e, h1, h2⟩ => ?_
  subst e
  cases k with
  | true => exact ⟨_, _, rfl, h1 rfl⟩
  | false => exact h2 rfl
theorem o_tr (h : OkP (evE sb cf a σ) fun x σ1 => wO a σ1 x fun p => isB' (truD p) fun k => P (.im (.bl k)) σ1) : OkP (evE sb cf (.tr a) σ) P := by
  simp only [evE, okp_bind]
  refine h.imp fun x σ1 h => okp_wo (h.imp fun p ⟨s, e, h⟩ => ?_)
  rw [e]
  exact ⟨_, _, rfl, h⟩
theorem o_ite (h : OkP (evE sb cf c σ) fun x σ1 => tB x (OkP (evE sb cf a σ1) P) (OkP (evE sb cf b σ1) P)) : OkP (evE sb cf (.ite c a b) σ) P := by
  simp only [evE, okp_bind]
  exact h.imp fun x σ1 h => okp_tb h
theorem o_idx (h : OkP (evE sb cf a σ) fun x σ1 => OkP (evE sb cf b σ1) fun y σ2 => wO a σ2 x fun p => wO b σ2 y fun q => isD (idxD p q) fun s => P (.im s) σ2) : OkP (evE sb cf (.idx a b) σ) P := by
  simp only [evE, okp_bind]
  refine h.imp fun x σ1 h => h.imp fun y σ2 h => okp_wo (h.imp fun p h => okp_wo (h.imp fun q ⟨s, e, h⟩ => ?_))
  rw [e]
  exact ⟨_, _, rfl, h⟩
def isBd (s : Sl) (Q : Option Int → Prop) : Prop := (s = .im .non ∧ Q none) ∨ ∃ i, s = .im (.int i) ∧ Q (some i)
theorem bd_non {Q : Option Int → Prop} (h : Q none) : isBd (.im .non) Q := .inl ⟨rfl, h⟩
theorem bd_int {Q : Option Int → Prop} {i : Int} (h : Q (some i)) : isBd (.im (.int i)) Q := .inr ⟨i, rfl, h⟩
theorem okp_bd {f : Option Int → R α} {P : α → Sls → Prop} (h : isBd s fun d => OkP (f d) P) : OkP (bd s f) P := by
  rcases h with ⟨rfl, h⟩ | ⟨i, rfl, h⟩ <;> exact h
theorem isBd.imp {Q Q' : Option Int → Prop} (h : isBd s Q) (w : ∀ o, Q o → Q' o) : isBd s Q' := by
  rcases h with ⟨rfl, h⟩ | ⟨i, rfl, h⟩
  · exact .inl ⟨rfl, w _ h⟩
  · exact .inr ⟨i, rfl, w _ h⟩
theorem o_slc (h : OkP (evE sb cf a σ) fun x σ1 => OkP (evE sb cf b σ1) fun y σ2 => isBd y fun l => OkP (evE sb cf c σ2) fun z σ3 => isBd z fun r => wO a σ3 x fun p => isO (slcD p l r) fun s => P s σ3) : OkP (evE sb cf (.slc a b c) σ) P := by
  simp only [evE, okp_bind]
  refine h.imp fun x σ1 h => h.imp fun y σ2 h => okp_bd (h.imp fun l h => ?_)
  rw [okp_bind]
  refine h.imp fun z σ3 h => okp_bd (h.imp fun r h => okp_wo (h.imp fun p ⟨s, e, h⟩ => ?_))
  rw [e]
  exact ⟨_, _, rfl, h⟩
theorem o_call {f : Nat} (h : OkP (evE sb cf es σ) fun y σ1 => isMu y fun ds => FrP (cf f (ds.map .im)) fun s _ => P s σ1) : OkP (evE sb cf (.call f es) σ) P := by
  simp only [evE, okp_bind]
  refine h.imp fun y σ1 ⟨ds, e, h⟩ => ?_
  subst e
  exact okp_call h fun s io q => q
theorem o_cio {f : Nat} {cs0 : List D} (e0 : σ[j]? = some (.mu cs0)) (h : OkP (evE sb cf es σ) fun y σ1 => isMu y fun ds => hasMu σ1[j]? fun cs => FrP (cf f (.mu cs :: ds.map .im)) fun s io => ∃ cs, io = .mu cs ∧ P s (σ1.set j (.mu cs))) : OkP (evE sb cf (.cio f j es) σ) P := by
  simp only [evE, e0, okp_bind]
  refine h.imp fun y σ1 ⟨ds, e, cs, e1, h⟩ => ?_
  subst e
  rw [e1]
  exact okp_cio (Q := fun s cs => P s (σ1.set j (.mu cs))) h fun s io q => q
theorem o_b1 {f : Blt} (h : OkP (evE sb cf a σ) fun x σ1 => wO a σ1 x fun p => isO (b1D f p) fun s => P s σ1) : OkP (evE sb cf (.b1 f a) σ) P := by
  simp only [evE, okp_bind]
  refine h.imp fun x σ1 h => okp_wo (h.imp fun p ⟨s, e, h⟩ => ?_)
  rw [e]
  exact ⟨_, _, rfl, h⟩
theorem o_b2 {f : Blt} (h : OkP (evE sb cf a σ) fun x σ1 => OkP (evE sb cf b σ1) fun y σ2 => wO a σ2 x fun p => wO b σ2 y fun q => isO (b2D f p q) fun s => P s σ2) : OkP (evE sb cf (.b2 f a b) σ) P := by
  simp only [evE, okp_bind]
  refine h.imp fun x σ1 h => h.imp fun y σ2 h => okp_wo (h.imp fun p h => okp_wo (h.imp fun q ⟨s, e, h⟩ => ?_))
  rw [e]
  exact ⟨_, _, rfl, h⟩
theorem o_rng1 (h : OkP (evE sb cf a σ) fun x σ1 => wD x fun p => isInt p fun k => rngIn k = true ∧ P (.mu (rngL 0 k)) σ1) : OkP (evE sb cf (.rng1 a) σ) P := by
  simp only [evE, okp_bind]
  refine h.imp fun x σ1 h => okp_wd (h.imp fun p ⟨k, e, h1, h⟩ => ?_)
  subst e
  dsimp only
  rw [if_pos h1]
  exact ⟨_, _, rfl, h⟩
theorem o_rng2 (h : OkP (evE sb cf a σ) fun x σ1 => wD x fun p => OkP (evE sb cf b σ1) fun y σ2 => wD y fun q => isInt p fun l => isInt q fun k => (rngIn l = true ∧ rngIn k = true) ∧ P (.mu (rngL l k)) σ2) : OkP (evE sb cf (.rng2 a b) σ) P := by
  simp only [evE, okp_bind]
  refine h.imp fun x σ1 h => okp_wd (h.imp fun p h => ?_)
  rw [okp_bind]
  refine h.imp fun y σ2 h => okp_wd (h.imp fun q ⟨l, e, k, e2, ⟨h1, h2⟩, h9⟩ => ?_)
  subst e; subst e2
  dsimp only
  rw [if_pos ⟨h1, h2⟩]
  exact ⟨_, _, rfl, h9⟩
theorem o_pop (e : σ[i]? = some (.mu (ds ++ [d]))) (h : P (.im d) (σ.set i (.mu ds))) : OkP (evE sb cf (.pop i) σ) P := by
  refine ⟨_, _, ?_, h⟩
  simp [evE, e]
/-- what a loop goes over -/
def isIt (s : Sl) (Q : List D → Prop) : Prop := wD s fun d => ∃ ds, d.its? = some ds ∧ Q ds
theorem it_mu {Q : List D → Prop} (h : Q ds) : isIt (.mu ds) Q := ⟨_, rfl, h⟩
theorem it_tp {Q : List D → Prop} (h : Q ds) : isIt (.im (.tup ds)) Q := ⟨_, rfl, h⟩
theorem it_ls {Q : List D → Prop} (h : Q ds) : isIt (.im (.lst ds)) Q := ⟨_, rfl, h⟩
theorem o_comp {own : List Nat} {t : Tg} (h : OkP (evE sb cf a σ) fun x σ1 => isIt x fun ds => OkP (compF own t (fun σ => evE sb cf c σ) (fun σ => evE sb cf e σ) ds σ1) fun ys σ2 => ys.length ≤ sizeLine ∧ P (.mu ys) σ2) : OkP (evE sb cf (.comp own t a c e) σ) P := by
  simp only [evE, okp_bind]
  refine h.imp fun x σ1 h => okp_wd (h.imp fun p ⟨ds, e, h⟩ => ?_)
  rw [e]
  dsimp only
  rw [okp_bind]
  refine h.imp fun ys σ2 ⟨hl, h⟩ => ?_
  rw [if_pos hl]
  exact ⟨_, _, rfl, h⟩
end
/-! ### statements -/
section
variable {sb : Sub} {cf : Nat → List Sl → FR} {W : Nat} {σ : Sls} {P : Fl → Sls → Prop} {a b c e es : IE} {d : D} {ds : List D} {i j n : Nat} {s : Sl} {p q : IS} {Q : D → Prop}
theorem S_skip (h : P .nx σ) : OkP (evS W sb cf .skip σ) P := ⟨_, _, rfl, h⟩
/-- on behind it, if it goes next -/
def nxP (P : Fl → Sls → Prop) (Q : Sls → Prop) : Fl → Sls → Prop
  | .nx, σ => Q σ
  | f, σ => P f σ
theorem S_seq (h : OkP (evS W sb cf p σ) (nxP P fun σ1 => OkP (evS W sb cf q σ1) P)) : OkP (evS W sb cf (.seq p q) σ) P := by
  simp only [evS, okp_bind]
  refine h.imp fun f σ1 h => ?_
  cases f with
  | nx => exact h
  | bk => exact ⟨_, _, rfl, h⟩
  | ct => exact ⟨_, _, rfl, h⟩
  | rt t => exact ⟨_, _, rfl, h⟩
theorem nx_nx {Q : Sls → Prop} (h : Q σ) : nxP P Q .nx σ := h
theorem nx_rt {Q : Sls → Prop} (h : P (.rt s) σ) : nxP P Q (.rt s) σ := h
theorem nx_bk {Q : Sls → Prop} (h : P .bk σ) : nxP P Q .bk σ := h
theorem nx_ct {Q : Sls → Prop} (h : P .ct σ) : nxP P Q .ct σ := h
def isA (o : Option Sls) (Q : Sls → Prop) : Prop := ∃ σ, o = some σ ∧ Q σ
theorem isA_of {o : Option Sls} {Q : Sls → Prop} (e : o = some σ) (h : Q σ) : isA o Q := ⟨_, e, h⟩
theorem S_asg {t : Tg} (h : OkP (evE sb cf e σ) fun x σ1 => isA (asgS t x σ1) fun σ2 => P .nx σ2) : OkP (evS W sb cf (.asg t e) σ) P := by
  simp only [evS, okp_bind]
  refine h.imp fun x σ1 ⟨σ2, e, h⟩ => ?_
  rw [e]
  exact ⟨_, _, rfl, h⟩
theorem S_par (h : OkP (evE sb cf a σ) fun x σ1 => wD x fun p => OkP (evE sb cf b σ1) fun y σ2 => wD y fun q => P .nx ((σ2.set i (.im p)).set j (.im q))) : OkP (evS W sb cf (.par i j a b) σ) P := by
  simp only [evS, okp_bind]
  refine h.imp fun x σ1 h => okp_wd (h.imp fun p h => ?_)
  rw [okp_bind]
  exact h.imp fun y σ2 h => okp_wd (h.imp fun q h => ⟨_, _, rfl, h⟩)
theorem S_aug {o : BOp} {k : Int} (e0 : σ[i]? = some (.im (.int k))) (h : OkP (evE sb cf e σ) fun y σ1 => wD y fun q => isO (bopD o (.int k) q) fun s => isI s (P .nx (σ1.set i s))) : OkP (evS W sb cf (.aug i o e) σ) P := by
  simp only [evS, e0, okp_bind]
  refine h.imp fun y σ1 h => okp_wd (h.imp fun q ⟨s, e, m, e2, h⟩ => ?_)
  subst e2
  rw [e]
  exact ⟨_, _, rfl, h⟩
theorem S_six (h : OkP (evE sb cf e σ) fun y σ1 => wD y fun q => hasMu σ1[i]? fun d0 => OkP (evE sb cf a σ1) fun z σ2 => wO a σ2 z fun p => hasMu σ2[i]? fun ds => isInt p fun k => isN (L2.ixN ds.length k) fun n => P .nx (σ2.set i (.mu (ds.set n q)))) :
    OkP (evS W sb cf (.six i a e) σ) P := by
  simp only [evS, okp_bind]
  refine h.imp fun y σ1 h => okp_wd (h.imp fun q ⟨d0, e0, h⟩ => ?_)
  rw [e0]
  dsimp only
  rw [okp_bind]
  refine h.imp fun z σ2 h => okp_wo (h.imp fun p ⟨ds, e1, k, e2, n, e3, h⟩ => ?_)
  subst e2
  rw [e1]
  dsimp only
  rw [e3]
  exact ⟨_, _, rfl, h⟩
theorem S_exp (h : OkP (evE sb cf e σ) fun _ σ1 => P .nx σ1) : OkP (evS W sb cf (.exp e) σ) P := by
  simp only [evS, okp_bind]
  exact h.imp fun x σ1 h => ⟨_, _, rfl, h⟩
theorem S_app {d0 : List D} (e0 : σ[i]? = some (.mu d0)) (h : OkP (evE sb cf e σ) fun y σ1 => wD y fun q => hasMu σ1[i]? fun ds => ds.length < sizeLine ∧ P .nx (σ1.set i (.mu (ds ++ [q])))) : OkP (evS W sb cf (.app i e) σ) P := by
  simp only [evS, e0, okp_bind]
  refine h.imp fun y σ1 h => okp_wd (h.imp fun q ⟨ds, e1, hl, h⟩ => ?_)
  rw [e1]
  dsimp only
  rw [if_pos hl]
  exact ⟨_, _, rfl, h⟩
theorem S_cond (h : OkP (evE sb cf c σ) fun x σ1 => tB x (OkP (evS W sb cf p σ1) P) (OkP (evS W sb cf q σ1) P)) : OkP (evS W sb cf (.cond c p q) σ) P := by
  simp only [evS, okp_bind]
  exact h.imp fun x σ1 h => okp_tb h
theorem S_whl (h : OkP (whlF (fun σ => evE sb cf c σ) (fun σ => evS W sb cf p σ) W σ) P) : OkP (evS W sb cf (.whl c p) σ) P := h
theorem S_for {t : Tg} (h : OkP (evE sb cf a σ) fun x σ1 => isIt x fun ds => OkP (forF t (fun σ => evS W sb cf p σ) ds σ1) P) : OkP (evS W sb cf (.fr t a p) σ) P := by
  simp only [evS, okp_bind]
  refine h.imp fun x σ1 h => okp_wd (h.imp fun p ⟨ds, e, h⟩ => ?_)
  rw [e]
  exact h
theorem S_ret (h : OkP (evE sb cf e σ) fun x σ1 => P (.rt x) σ1) : OkP (evS W sb cf (.ret e) σ) P := by
  simp only [evS, okp_bind]
  exact h.imp fun x σ1 h => ⟨_, _, rfl, h⟩
theorem S_rtv_im (e : σ[i]? = some (.im d)) (h : P (.rt (.im d)) σ) : OkP (evS W sb cf (.rtv i) σ) P := ⟨_, _, by simp only [evS, e], h⟩
theorem S_rtv_mu (e : σ[i]? = some (.mu ds)) (h : P (.rt (.mu ds)) (σ.set i .un)) : OkP (evS W sb cf (.rtv i) σ) P := ⟨_, _, by simp only [evS, e], h⟩
theorem S_rtn (h : P (.rt (.im .non)) σ) : OkP (evS W sb cf .rtn σ) P := ⟨_, _, rfl, h⟩
theorem S_brk (h : P .bk σ) : OkP (evS W sb cf .brk σ) P := ⟨_, _, rfl, h⟩
theorem S_cnt (h : P .ct σ) : OkP (evS W sb cf .cnt σ) P := ⟨_, _, rfl, h⟩
/-! loops -/
theorem for_inv {t : Tg} {body : Sls → R Fl} {P : Fl → Sls → Prop} (I : Nat → Sls → Prop) {ds : List D} (h0 : I 0 σ)
    (step : ∀ i d σ, ds[i]? = some d → I i σ → ∃ σ1, asgT t d σ = some σ1 ∧ OkP (body σ1) fun f σ2 => match f with
      | .nx => I (i + 1) σ2
      | .ct => I (i + 1) σ2
      | .bk => P .nx σ2
      | .rt s => P (.rt s) σ2) (fin : ∀ σ, I ds.length σ → P .nx σ) : OkP (forF t body ds σ) P := by
  induction ds generalizing I σ with
  | nil => exact ⟨_, _, rfl, fin σ h0⟩
  | cons d ds ih =>
    obtain ⟨σ1, e1, f, σ2, e2, h⟩ := step 0 d σ rfl h0
    unfold forF
    rw [e1]
    dsimp only
    rw [e2]
    cases f with
    | nx => exact ih (fun i σ => I (i + 1) σ) h (fun i d σ hd hi => step (i + 1) d σ hd hi) fin
    | ct => exact ih (fun i σ => I (i + 1) σ) h (fun i d σ hd hi => step (i + 1) d σ hd hi) fin
    | bk => exact ⟨_, _, rfl, h⟩
    | rt s => exact ⟨_, _, rfl, h⟩
theorem whl_inv {c : Sls → R Sl} {body : Sls → R Fl} {P : Fl → Sls → Prop} (I : Nat → Sls → Prop) {m : Nat} (h0 : I m σ)
    (step : ∀ m σ, I m σ → OkP (c σ) fun x σ1 => tB x (OkP (body σ1) fun f σ2 => match f with
      | .nx => ∃ m', m' < m ∧ I m' σ2
      | .ct => ∃ m', m' < m ∧ I m' σ2
      | .bk => P .nx σ2
      | .rt s => P (.rt s) σ2) (P .nx σ1)) : ∀ {F : Nat}, m < F → OkP (whlF c body F σ) P := by
  intro F hF
  induction F generalizing m σ with
  | zero => omega
  | succ F ih =>
    obtain ⟨x, σ1, e1, k, rfl, h1, h2⟩ := step m σ h0
    unfold whlF
    rw [e1]
    cases k with
    | false => exact ⟨_, _, rfl, h2 rfl⟩
    | true =>
      obtain ⟨f, σ2, e2, h⟩ := h1 rfl
      dsimp only
      rw [e2]
      cases f with
      | nx => obtain ⟨m', hm, hi⟩ := h; exact ih hi (by omega)
      | ct => obtain ⟨m', hm, hi⟩ := h; exact ih hi (by omega)
      | bk => exact ⟨_, _, rfl, h⟩
      | rt s => exact ⟨_, _, rfl, h⟩
/-- a comprehension: I of what is behind, the list so far -/
theorem comp_inv {own : List Nat} {t : Tg} {tst el : Sls → R Sl} {P : List D → Sls → Prop} (I : Nat → List D → Sls → Prop) {ds : List D} (h0 : I 0 [] σ)
    (step : ∀ i d acc σ, ds[i]? = some d → I i acc σ → ∃ σ1, asgT t d (wipeD σ own) = some σ1 ∧ OkP (tst σ1) fun x σ2 => tB x (OkP (el σ2) fun y σ3 => wD y fun v => I (i + 1) (acc ++ [v]) (backD σ σ3 own)) (I (i + 1) acc (backD σ σ2 own)))
    (fin : ∀ acc σ, I ds.length acc σ → P acc σ) : OkP (compF own t tst el ds σ) P := by
  suffices h : ∀ (ds : List D) (k : Nat) (acc : List D) (σ : Sls), I k acc σ → (∀ i d acc σ, ds[i]? = some d → I (k + i) acc σ → ∃ σ1, asgT t d (wipeD σ own) = some σ1 ∧ OkP (tst σ1) fun x σ2 => tB x (OkP (el σ2) fun y σ3 => wD y fun v => I (k + i + 1) (acc ++ [v]) (backD σ σ3 own)) (I (k + i + 1) acc (backD σ σ2 own))) →
      ∃ ys σ', compF own t tst el ds σ = .ok ys σ' ∧ I (k + ds.length) (acc ++ ys) σ' by
    obtain ⟨ys, σ', e, h⟩ := h ds 0 [] σ h0 (fun i d acc σ hd hi => by simpa using step i d acc σ hd (by simpa using hi))
    exact ⟨ys, σ', e, fin _ _ (by simpa using h)⟩
  intro ds
  induction ds with
  | nil => exact fun k acc σ h _ => ⟨[], σ, rfl, by simpa using h⟩
  | cons d ds ih =>
    intro k acc σ h step
    obtain ⟨σ1, e1, x, σ2, e2, b, rfl, h1, h2⟩ := step 0 d acc σ rfl h
    unfold compF
    rw [e1]
    dsimp only
    rw [e2]
    have step' : ∀ i d acc σ, ds[i]? = some d → I (k + 1 + i) acc σ → ∃ σ1, asgT t d (wipeD σ own) = some σ1 ∧ OkP (tst σ1) fun x σ2 => tB x (OkP (el σ2) fun y σ3 => wD y fun v => I (k + 1 + i + 1) (acc ++ [v]) (backD σ σ3 own)) (I (k + 1 + i + 1) acc (backD σ σ2 own)) := fun i d acc σ hd hi => by
      have := step (i + 1) d acc σ (by simpa using hd) (by rw [show k + (i + 1) = k + 1 + i by omega]; exact hi)
      rw [show k + (i + 1) + 1 = k + 1 + i + 1 by omega] at this
      exact this
    cases b with
    | false =>
      obtain ⟨ys, σ', e, h⟩ := ih (k + 1) acc _ (h2 rfl) step'
      exact ⟨ys, σ', e, by rw [List.length_cons, show k + (ds.length + 1) = k + 1 + ds.length by omega]; exact h⟩
    | true =>
      obtain ⟨y, σ3, e3, hv⟩ := h1 rfl
      dsimp only
      rw [e3]
      have fin' : ∀ v, I (k + 0 + 1) (acc ++ [v]) (backD σ σ3 own) → ∃ ys σ', (match compF own t tst el ds (backD σ σ3 own) with
          | .ok ys σ4 => R.ok (v :: ys) σ4
          | _ => .bad) = .ok ys σ' ∧ I (k + (d :: ds).length) (acc ++ ys) σ' := fun v hv => by
        obtain ⟨ys, σ', e, h⟩ := ih (k + 1) (acc ++ [v]) _ hv step'
        rw [e]
        refine ⟨_, _, rfl, ?_⟩
        rw [List.length_cons, show k + (ds.length + 1) = k + 1 + ds.length by omega]
        simpa using h
      cases y with
      | im v => exact fin' v hv
      | mu vs => exact fin' _ hv
      | un => exact hv.elim
      | exn x => exact hv.elim
      | clo x => exact hv.elim
end
/-! equality, once more -/
mutual
theorem eqv_self : ∀ a : D, PyData.eqv a.py a.py = true
  | .non => by simp [D.py, PyData.eqv]
  | .bl b => by cases b <;> simp [D.py, PyData.eqv]
  | .int i => by simp [D.py, PyData.eqv]
  | .str s => by simp [D.py, PyData.eqv]
  | .tup xs => by simp only [D.py, PyData.eqv]; exact eqvs_self xs
  | .lst xs => by simp only [D.py, PyData.eqv]; exact eqvs_self xs
theorem eqvs_self : ∀ xs : List D, PyData.eqvAll (D.pys xs) (D.pys xs) = true
  | [] => by simp [D.pys, PyData.eqvAll]
  | x :: xs => by simp only [D.pys, PyData.eqvAll, eqv_self x, eqvs_self xs, Bool.and_self]
end
theorem eqv_refl (a : D) : a.eqv a = true := eqv_self a
theorem eqv_pl {a b : D} (ha : a.pl = true) (hb : b.pl = true) : a.eqv b = true ↔ a = b := eqv_iff a b ha hb
end Rf
/-! Hn: the laws' own drawing. -/
namespace Rf
open PySem
local macro_rules | `(tactic| walk_at "vc") => `(tactic| first
  | (with_reducible refine' S_seq ?_)
  | ((with_reducible refine' o_lv_im ?e ?h); (case e => rfl))
  | (with_reducible refine' o_cst ?_)
  | ((with_reducible refine' wo_lv ?e ?h); (case e => rfl))
  | (with_reducible refine' wd_im ?_)
  | (with_reducible refine' wd_mu ?_)
  | ((with_reducible refine' o_var_im ?e ?h); (case e => rfl))
  | (with_reducible refine' o_bin ?_)
  | (with_reducible refine' o_cmp ?_)
  | (with_reducible refine' o_idx ?_)
  | ((with_reducible refine' o_lv_mu ?e ?h); (case e => rfl))
  | (with_reducible refine' o_cons ?_)
  | (with_reducible refine' o_nil ?_)
  | (with_reducible refine' mu_of ?_)
  | (with_reducible refine' nx_nx ?_)
  | (with_reducible refine' nx_rt ?_)
  | (with_reducible refine' nx_bk ?_)
  | (with_reducible refine' nx_ct ?_)
  | (with_reducible refine' tb_t ?_)
  | (with_reducible refine' tb_f ?_)
  | ((with_reducible refine' tb_yes ?e ?h); (case e => first | assumption | decide +kernel))
  | ((with_reducible refine' tb_no ?e ?h); (case e => first | assumption | decide +kernel))
  | ((with_reducible refine' tb_dec ?_ ?_) <;> intro hc <;> try (first | contradiction | (exfalso; omega)))
  | ((with_reducible refine' tb_ndec ?_ ?_) <;> intro hc <;> try (first | contradiction | (exfalso; omega)))
  | (with_reducible refine' S_asg ?_)
  | (with_reducible refine' S_cond ?_)
  | (with_reducible refine' S_ret ?_)
  | (with_reducible refine' S_skip ?_)
  | ((with_reducible refine' isA_of ?e ?h); (case e => rfl))
  | (with_reducible refine' isB'_eq_ii ?_)
  | (with_reducible refine' isB'_ne_ii ?_)
  | (with_reducible refine' isB'_eq_ss ?_)
  | (with_reducible refine' isB'_ne_ss ?_)
  | ((with_reducible refine' isO_mod ?e ?h); (case e => first | omega | assumption))
  | ((with_reducible refine' isO_fdv ?e ?h); (case e => first | decide | assumption))
  | ((with_reducible refine' isO_mul ?e ?h); (case e => first | decide | assumption))
  | ((with_reducible refine' isO_of ?e ?h); (case e => rfl))
  | ((with_reducible refine' hasMu_of ?e ?h); (case e => rfl))
  | (with_reducible refine' isInt_of ?_)
  | ((with_reducible refine' isN_of ?e ?h); (case e => rfl))
  | (with_reducible refine' isD_t0 ?_)
  | (with_reducible refine' isD_t1 ?_)
  | (with_reducible refine' isD_t2 ?_)
  | (with_reducible refine' isD_l0 ?_)
  | (with_reducible refine' isD_l1 ?_)
  | ((with_reducible refine' isD_of ?e ?h); (case e => rfl))
  | ((with_reducible refine' isB'_of ?e ?h); (case e => rfl))
  | (with_reducible refine' o_tup ?_)
  | (with_reducible refine' o_lst ?_)
  | ((with_reducible refine' sz_of ?e ?h); (case e => exact Nat.le_of_ble_eq_true rfl))
  | (with_reducible refine' o_b1 ?_)
  | (with_reducible refine' o_b2 ?_)
  | (with_reducible refine' o_an ?_)
  | (with_reducible refine' o_orr ?_)
  | (with_reducible refine' o_nt ?_)
  | (with_reducible refine' o_tr ?_)
  | (with_reducible refine' o_ite ?_)
  | (with_reducible refine' o_slc ?_)
  | (with_reducible refine' bd_non ?_)
  | (with_reducible refine' bd_int ?_)
  | ((with_reducible refine' o_var_mu ?e ?h); (case e => rfl))
  | (with_reducible refine' o_glo ?_)
  | ((with_reducible refine' S_rtv_im ?e ?h); (case e => rfl))
  | ((with_reducible refine' S_rtv_mu ?e ?h); (case e => rfl))
  | (with_reducible refine' S_rtn ?_)
  | (with_reducible refine' S_brk ?_)
  | (with_reducible refine' S_cnt ?_)
  | (with_reducible refine' S_exp ?_)
  | ((with_reducible refine' S_app ?e ?h); (case e => rfl))
  | ((with_reducible refine' S_aug ?e ?h); (case e => rfl))
  | (with_reducible refine' isI_of ?_)
  | (with_reducible refine' S_par ?_)
  | (with_reducible refine' S_six ?_)
  | (with_reducible refine' S_for ?_)
  | (with_reducible refine' S_whl ?_)
  | (with_reducible refine' o_rng1 ?_)
  | (with_reducible refine' o_rng2 ?_)
  | (with_reducible refine' o_comp ?_)
  | (with_reducible refine' o_call ?_)
  | ((with_reducible refine' o_cio ?e ?h); (case e => rfl))
  | (with_reducible refine' o_neg ?_)
  | (with_reducible refine' o_rep ?_)
  | (with_reducible refine' o_chn ?_)
  | (with_reducible refine' it_mu ?_)
  | (with_reducible refine' it_tp ?_)
  | (with_reducible refine' it_ls ?_)
  | ((with_reducible refine' wo_o ?e ?h); (case e => exact fun _ z => nomatch z)))

theorem isD_at {xs : List D} {i : Int} {Q : D → Prop} {d : D} (h0 : 0 ≤ i) (e : xs[i.toNat]? = some d) (h : Q d) : isD (idxD (.lst xs) (.int i)) Q := by
  refine ⟨d, ?_, h⟩
  have := L2.atI_nat e
  rw [Int.toNat_of_nonneg h0] at this
  exact this
theorem isD_atT {xs : List D} {i : Int} {Q : D → Prop} {d : D} (h0 : 0 ≤ i) (e : xs[i.toNat]? = some d) (h : Q d) : isD (idxD (.tup xs) (.int i)) Q := by
  refine ⟨d, ?_, h⟩
  have := L2.atI_nat e
  rw [Int.toNat_of_nonneg h0] at this
  exact this
theorem mul_ok {i j : Int} (a b : Nat) (ha : i.natAbs < 2 ^ a) (hb : j.natAbs < 2 ^ b) (h0 : 0 < a) (h1 : 0 < b) (h : a + b ≤ 1000000) : mulOk i j = true := by
  have x := PySem.Flt.log2_lt_of h0 ha
  have y := PySem.Flt.log2_lt_of h1 hb
  unfold mulOk
  exact decide_eq_true (by omega)
theorem div_ok {j : Int} (h : 0 < j) (b : Nat) (hb : j.natAbs < 2 ^ b) (h0 : 0 < b) (h9 : b ≤ 9000) : divOk j = true := by
  have x := PySem.Flt.log2_lt_of h0 hb
  unfold divOk
  exact decide_eq_true ⟨h, by omega⟩
theorem FrP.imp {r : FR} {P Q : Sl → Sl → Prop} (h : FrP r P) (w : ∀ s io, P s io → Q s io) : FrP r Q := by
  obtain ⟨s, io, e, p⟩ := h
  exact ⟨s, io, e, w s io p⟩
/-- the drawing list -/
def DS (c : List D) : Prop := ∃ (ns : List Int) (p v sd : Int), c = [.lst (ns.map D.int), .int p, .int v, .int sd] ∧ 0 ≤ p ∧ 0 ≤ v ∧ 0 ≤ sd ∧ sd < 2147483647
def takeB : IS :=
  (.seq (.cond (.an (.cmp .eq (.idx (.lv 0) (.cst (.int 2))) (.cst (.int 0))) (.cmp .lt (.idx (.lv 0) (.cst (.int 1))) (.b1 .len (.idx (.lv 0) (.cst (.int 0)))))) (.seq (.six 0 (.cst (.int 2)) (.b1 .abs (.b1 .int (.idx (.idx (.lv 0) (.cst (.int 0))) (.idx (.lv 0) (.cst (.int 1)))))))
  (.seq (.six 0 (.cst (.int 1)) (.bin .add (.idx (.lv 0) (.cst (.int 1))) (.cst (.int 1))))
  (.cond (.cmp .lt (.idx (.lv 0) (.cst (.int 2))) (.bin .pow (.cst (.int 10)) (.cst (.int 18)))) (.seq (.asg (.nm 2) (.b1 .int (.idx (.lv 0) (.cst (.int 2)))))
  (.seq (.six 0 (.cst (.int 2)) (.cst (.int 0)))
  (.ret (.bin .mod (.lv 2) (.lv 1))))) .skip))) .skip)
  (.seq (.cond (.cmp .gt (.idx (.lv 0) (.cst (.int 2))) (.cst (.int 0))) (.seq (.asg (.nm 3) (.bin .mod (.b1 .int (.idx (.lv 0) (.cst (.int 2)))) (.lv 1)))
  (.seq (.six 0 (.cst (.int 2)) (.bin .fdv (.b1 .int (.idx (.lv 0) (.cst (.int 2)))) (.lv 1)))
  (.rtv 3))) .skip)
  (.seq (.six 0 (.cst (.int 3)) (.bin .mod (.b1 .int (.bin .add (.bin .mul (.idx (.lv 0) (.cst (.int 3))) (.cst (.int 48271))) (.cst (.int 11)))) (.cst (.int 2147483647))))
  (.ret (.bin .mod (.b1 .int (.bin .fdv (.idx (.lv 0) (.cst (.int 3))) (.cst (.int 3)))) (.lv 1))))))
def TakeP (m : Int) : Sl → Sl → Prop := fun s io => ∃ (r : Int) (cs : List D), s = .im (.int r) ∧ io = .mu cs ∧ 0 ≤ r ∧ r < m ∧ DS cs
theorem TakeP.of {ns : List Int} {p v sd r m : Int} {io : Sl} (h1 : 0 ≤ r) (h2 : r < m) (e : io = .mu [.lst (ns.map D.int), .int p, .int v, .int sd]) (hp : 0 ≤ p) (hv : 0 ≤ v) (hs : 0 ≤ sd) (hs2 : sd < 2147483647) : TakeP m (.im (.int r)) io :=
  ⟨r, _, rfl, e, h1, h2, ns, p, v, sd, rfl, hp, hv, hs, hs2⟩
theorem take_ok {cf : Nat → List Sl → FR} {F : Nat} {sb : Sub} {ns : List Int} {p v sd m : Int} (hp : 0 ≤ p) (hv : 0 ≤ v) (hs : 0 ≤ sd) (hs2 : sd < 2147483647) (hm : 0 < m) (hm2 : m < 1000000000000000000000000000000000000000000000) :
    OkP (evS F sb cf takeB [.mu [.lst (ns.map D.int), .int p, .int v, .int sd], .im (.int m), .un, .un]) (endP true (TakeP m)) := by
  have dm : divOk m = true := div_ok hm 200 (by omega) (by decide) (by decide)
  have d3 : divOk 3 = true := by decide
  unfold takeB
  have t18 : (10 : Int) ^ Int.toNat 18 = 1000000000000000000 := by decide
  have m1 : ∀ z : Int, 0 ≤ z % m := fun z => Int.emod_nonneg _ (by omega)
  have m2 : ∀ z : Int, z % m < m := fun z => Int.emod_lt_of_pos _ hm
  have dn : ∀ z : Int, 0 ≤ z → 0 ≤ z / m := fun z h => Int.ediv_nonneg h (by omega)
  have mo : mulOk sd 48271 = true := mul_ok 40 40 (by omega) (by decide) (by decide) (by decide) (by decide)
  repeat' walk_at "vc"
  · rename_i h1 h2
    rw [List.length_map] at h2
    have hlt : p.toNat < ns.length := by omega
    refine isD_at hp (d := .int ns[p.toNat]) (by rw [List.getElem?_map, List.getElem?_eq_getElem hlt]; rfl) ?_
    generalize ns[p.toNat] = x
    have hy : 0 ≤ (if x < 0 then -x else x) := by split <;> omega
    repeat' walk_at "vc"
    all_goals (generalize (if x < 0 then -x else x) = y at *)
    · exact TakeP.of (m1 _) (m2 _) rfl (by omega) (by omega) hs hs2
    · exact TakeP.of (m1 _) (m2 _) rfl (by omega) (dn _ hy) hs hs2
  · exact TakeP.of (m1 _) (m2 _) rfl hp hv (by omega) (by omega)
  · exact TakeP.of (m1 _) (m2 _) rfl hp (dn _ hv) hs hs2
def TakeS (g : List Sl → FR) : Prop := ∀ c m, DS c → 0 < m → m < 1000000000000000000000000000000000000000000000 → FrP (g [.mu c, .im (.int m)]) (TakeP m)
theorem take_fn {F : Nat} {sb : Sub} {prog : List FnI} {k t : Nat} (h : prog[t]? = some ⟨2, 4, true, takeB⟩) : TakeS (callK F sb prog (k + 1) t) := fun c m ⟨ns, p, v, sd, e, h1, h2, h3, h4⟩ hm hm2 => by
  subst e
  exact frp_fn h rfl (take_ok h1 h2 h3 h4 hm hm2)
/-- the drawing of a number of both signs -/
def signedB (t : Nat) : IS :=
  (.ret (.bin .sub (.cio t 0 (.cons (.bin .add (.bin .mul (.cst (.int 2)) (.lv 1)) (.cst (.int 1))) .nil)) (.lv 1)))
def SignP (m : Int) : Sl → Sl → Prop := fun s io => ∃ (r : Int) (cs : List D), s = .im (.int r) ∧ io = .mu cs ∧ -m ≤ r ∧ r ≤ m ∧ DS cs
def SignS (g : List Sl → FR) : Prop := ∀ c m, DS c → 0 ≤ m → m < 100000000000000000000000000000000000000000000 → FrP (g [.mu c, .im (.int m)]) (SignP m)
theorem sign_fn {F : Nat} {sb : Sub} {prog : List FnI} {k t u : Nat} (h : prog[u]? = some ⟨2, 2, true, signedB t⟩) (ht : TakeS (callK F sb prog k t)) : SignS (callK F sb prog (k + 1) u) := fun c m hc hm hm2 => by
  refine frp_fn h rfl ?_
  unfold signedB
  have mo : mulOk 2 m = true := mul_ok 2 200 (by decide) (by omega) (by decide) (by decide) (by decide)
  repeat' walk_at "vc"
  refine (ht c _ hc (by omega) (by omega)).imp fun s io ⟨r, cs, e1, e2, h1, h2, h3⟩ => ?_
  subst e1 e2
  refine isMuC ?_
  repeat' walk_at "vc"
  exact ⟨_, _, rfl, rfl, by omega, by omega, h3⟩
theorem gcd_step {x y : Int} (hx : 0 ≤ x) (hy : 0 ≤ y) : Int.gcd y (x % y) = Int.gcd x y := by
  obtain ⟨n, rfl⟩ := Int.eq_ofNat_of_zero_le hx
  obtain ⟨m, rfl⟩ := Int.eq_ofNat_of_zero_le hy
  show Nat.gcd m (n % m) = Nat.gcd n m
  rw [Nat.gcd_comm n m, Nat.gcd_rec m n, Nat.gcd_comm]
/-- few figures -/
def Sm (b : Int) : Prop := b.natAbs < 2 ^ 9000
theorem Sm.div {b j : Int} (h : Sm b) (hj : 0 < j) (hl : j.natAbs ≤ b.natAbs) : divOk j = true := div_ok hj 9000 (Nat.lt_of_le_of_lt hl h) (by decide) (Nat.le_refl _)
theorem Sm.of {b : Int} (n : Nat) (h : b.natAbs < 2 ^ n) (hn : n ≤ 9000) : Sm b := Nat.lt_of_lt_of_le h (Nat.pow_le_pow_right (by decide) hn)
/-! the greatest common divisor -/
def gcdB : IS :=
  (.seq (.whl (.cmp .ne (.lv 1) (.cst (.int 0))) (.par 0 1 (.var 1) (.bin .mod (.b1 .int (.lv 0)) (.lv 1))))
  (.ret (.b1 .abs (.lv 0))))
theorem gcd_fn {F : Nat} {sb : Sub} {prog : List FnI} {k t : Nat} (h : prog[t]? = some ⟨2, 2, false, gcdB⟩) {a b : Int} (ha : 0 ≤ a) (hb : 0 ≤ b) (hF : b < F) : FrP (callK F sb prog (k + 1) t [.im (.int a), .im (.int b)]) fun s _ => s = .im (.int ((Int.gcd a b : Nat) : Int)) := by
  refine frp_fn h rfl ?_
  unfold gcdB
  walk_at "vc"
  walk_at "vc"
  refine whl_inv (fun m σ => ∃ x y : Int, σ = [.im (.int x), .im (.int y)] ∧ 0 ≤ x ∧ 0 ≤ y ∧ y = m ∧ Int.gcd x y = Int.gcd a b) (m := b.toNat) ⟨a, b, rfl, ha, hb, by omega, rfl⟩ ?_ (by omega)
  rintro m σ ⟨x, y, rfl, hx, hy, hm, hg⟩
  repeat' walk_at "vc"
  · have hy' : 0 < y := by omega
    have e1 := Int.emod_nonneg x (by omega : y ≠ 0)
    have e2 := Int.emod_lt_of_pos x hy'
    refine ⟨(x % y).toNat, by omega, y, x % y, rfl, hy, e1, by omega, ?_⟩
    rw [← hg]
    exact gcd_step hx hy
  · rename_i h0
    subst h0
    show Sl.im _ = Sl.im _
    rw [← hg]
    rw [if_neg (by omega)]
    simp [Int.gcd_zero_right]
    omega
/-- a fraction in lowest terms -/
def frN (a b : Int) : Int := (if b < 0 then 0 - a else a) / (Int.gcd a b : Int)
def frD (a b : Int) : Int := (if b < 0 then 0 - b else b) / (Int.gcd a b : Int)
def fB (g : Nat) : IS :=
  (.seq (.cond (.cmp .lt (.lv 1) (.cst (.int 0))) (.seq (.asg (.nm 0) (.bin .sub (.cst (.int 0)) (.lv 0)))
  (.asg (.nm 1) (.bin .sub (.cst (.int 0)) (.lv 1)))) .skip)
  (.seq (.asg (.nm 2) (.call g (.cons (.b1 .abs (.lv 0)) (.cons (.var 1) .nil))))
  (.ret (.tup (.cons (.bin .fdv (.lv 0) (.lv 2)) (.cons (.bin .fdv (.lv 1) (.lv 2)) .nil))))))
def GcdS (g : List Sl → FR) (F : Nat) : Prop := ∀ a b : Int, 0 ≤ a → 0 ≤ b → b < F → FrP (g [.im (.int a), .im (.int b)]) fun s _ => s = .im (.int ((Int.gcd a b : Nat) : Int))
theorem f_fn {F : Nat} {sb : Sub} {prog : List FnI} {k t g : Nat} (h : prog[t]? = some ⟨2, 3, false, fB g⟩) (hg : GcdS (callK F sb prog k g) F) {a b : Int} (hb : b ≠ 0) (hF : b.natAbs < F) (hb2 : Sm b) :
    FrP (callK F sb prog (k + 1) t [.im (.int a), .im (.int b)]) fun s _ => s = .im (.tup [.int (frN a b), .int (frD a b)]) := by
  refine frp_fn h rfl ?_
  unfold fB
  have gp : 0 < Int.gcd a b := Int.gcd_pos_of_ne_zero_right _ hb
  have gd : divOk (Int.gcd a b : Int) = true := hb2.div (by omega) (Nat.le_of_dvd (by omega) (Int.natAbs_dvd_natAbs.mpr (Int.gcd_dvd_right ..)))
  have key : ∀ x y : Int, 0 < y → y.natAbs = b.natAbs → x.natAbs = a.natAbs → FrP (callK F sb prog k g [.im (.int (if x < 0 then -x else x)), .im (.int y)]) fun s _ => s = .im (.int (Int.gcd a b : Int)) := by
    intro x y hy hyb hxa
    have egcd : Int.gcd (if x < 0 then -x else x) y = Int.gcd a b := by
      unfold Int.gcd
      rw [hyb]
      congr 1
      split <;> omega
    rw [← egcd]
    exact hg (if x < 0 then -x else x) y (by split <;> omega) (by omega) (by omega)
  by_cases hn : b < 0
  · repeat' walk_at "vc"
    refine (key (0 - a) (0 - b) (by omega) (by omega) (by omega)).imp fun s io e1 => ?_
    subst e1
    repeat' walk_at "vc"
    show Sl.im _ = Sl.im _
    unfold frN frD
    rw [if_pos hn, if_pos hn]
  · repeat' walk_at "vc"
    refine (key a b (by omega) (by omega) (by omega)).imp fun s io e1 => ?_
    subst e1
    repeat' walk_at "vc"
    show Sl.im _ = Sl.im _
    unfold frN frD
    rw [if_neg hn, if_neg hn]
/-- the drawing of a fraction -/
def partB (f s t : Nat) : IS :=
  (.ret (.call f (.cons (.cio s 0 (.cons (.bin .mul (.lv 1) (.cst (.int 2))) .nil)) (.cons (.bin .add (.cst (.int 1)) (.cio t 0 (.cons (.cst (.int 3)) .nil))) .nil))))
/-- a fraction, drawn -/
def IsFr (d : D) : Prop := ∃ a b : Int, 0 < b ∧ b ≤ 1000000 ∧ a.natAbs ≤ 1000000000000 ∧ d = .tup [.int (frN a b), .int (frD a b)]
def FS (g : List Sl → FR) (F : Nat) : Prop := ∀ a b : Int, b ≠ 0 → b.natAbs < F → Sm b → FrP (g [.im (.int a), .im (.int b)]) fun s _ => s = .im (.tup [.int (frN a b), .int (frD a b)])
def DrawS (g : List Sl → FR) (args : List D) (P : D → Prop) : Prop := ∀ c, DS c → FrP (g (.mu c :: args.map .im)) fun s io => ∃ d cs, s = .im d ∧ io = .mu cs ∧ P d ∧ DS cs
theorem TakeS.go {g : List Sl → FR} (h : TakeS g) {c : List D} {m : Int} {Q : Sl → List D → Prop} (hc : DS c) (hm : 0 < m) (hm2 : m < 1000000000000000000000000000000000000000000000) (w : ∀ r cs, 0 ≤ r → r < m → DS cs → Q (.im (.int r)) cs) : FrP (g [.mu c, .im (.int m)]) fun s io => ∃ cs, io = .mu cs ∧ Q s cs :=
  (h c m hc hm hm2).imp fun s io ⟨r, cs, e1, e2, h1, h2, h3⟩ => ⟨cs, e2, by rw [e1]; exact w r cs h1 h2 h3⟩
theorem SignS.go {g : List Sl → FR} (h : SignS g) {c : List D} {m : Int} {Q : Sl → List D → Prop} (hc : DS c) (hm : 0 ≤ m) (hm2 : m < 100000000000000000000000000000000000000000000) (w : ∀ r cs, -m ≤ r → r ≤ m → DS cs → Q (.im (.int r)) cs) : FrP (g [.mu c, .im (.int m)]) fun s io => ∃ cs, io = .mu cs ∧ Q s cs :=
  (h c m hc hm hm2).imp fun s io ⟨r, cs, e1, e2, h1, h2, h3⟩ => ⟨cs, e2, by rw [e1]; exact w r cs h1 h2 h3⟩
theorem DrawS.go {g : List Sl → FR} {args : List D} {P : D → Prop} (h : DrawS g args P) {c : List D} {Q : Sl → List D → Prop} (hc : DS c) (w : ∀ d cs, P d → DS cs → Q (.im d) cs) : FrP (g (.mu c :: args.map .im)) fun s io => ∃ cs, io = .mu cs ∧ Q s cs :=
  (h c hc).imp fun s io ⟨d, cs, e1, e2, h1, h2⟩ => ⟨cs, e2, by rw [e1]; exact w d cs h1 h2⟩
theorem part_fn {F : Nat} {sb : Sub} {prog : List FnI} {k p f u t : Nat} (h : prog[p]? = some ⟨2, 2, true, partB f u t⟩) (hf : FS (callK F sb prog k f) F) (hs : SignS (callK F sb prog k u)) (ht : TakeS (callK F sb prog k t)) (hF : 1000 < F) {m : Int} (hm : 0 ≤ m) (hm2 : m < 1000000000) :
    DrawS (callK F sb prog (k + 1) p) [.int m] IsFr := fun c hc => by
  refine frp_fn h rfl ?_
  unfold partB
  have mo : mulOk m 2 = true := mul_ok 40 2 (by omega) (by decide) (by decide) (by decide) (by decide)
  repeat' walk_at "vc"
  refine (hs c _ hc (by omega) (by omega)).imp fun s io ⟨r, cs, e1, e2, h1, h2, h3⟩ => ?_
  subst e1 e2
  refine isMuC ?_
  repeat' walk_at "vc"
  refine (ht cs _ h3 (by omega) (by omega)).imp fun s io ⟨r2, cs2, e1, e2, h4, h5, h6⟩ => ?_
  subst e1 e2
  refine isMuC ?_
  repeat' walk_at "vc"
  refine (hf _ _ (by omega) (by omega) (.of 10 (by omega) (by decide))).imp fun s io e1 => ?_
  subst e1
  exact ⟨_, _, rfl, rfl, ⟨r, 1 + r2, by omega, by omega, by omega, rfl⟩, h6⟩
/-- the drawing list is laid -/
def beginB : IS :=
  (.seq (.asg (.nm 1) (.cst (.int 1)))
  (.seq (.fr (.nm 2) (.var 0) (.asg (.nm 1) (.bin .mod (.bin .add (.bin .add (.bin .mul (.lv 1) (.cst (.int 69621))) (.bin .mod (.b1 .int (.lv 2)) (.cst (.int 2147483629)))) (.cst (.int 7))) (.cst (.int 2147483647)))))
  (.ret (.lst (.cons (.b1 .list (.lv 0)) (.cons (.cst (.int 0)) (.cons (.cst (.int 0)) (.cons (.var 1) .nil))))))))
theorem begin_fn {F : Nat} {sb : Sub} {prog : List FnI} {k t : Nat} (h : prog[t]? = some ⟨1, 3, false, beginB⟩) (ns : List Int) : FrP (callK F sb prog (k + 1) t [.im (.lst (ns.map D.int))]) fun s _ => ∃ cs, s = .mu cs ∧ DS cs := by
  refine frp_fn h rfl ?_
  unfold beginB
  repeat' walk_at "vc"
  refine for_inv (fun i σ => ∃ (s : Int) (x : Sl), σ = [.im (.lst (ns.map D.int)), .im (.int s), x] ∧ 0 ≤ s ∧ s < 2147483647) ⟨1, _, rfl, by omega, by omega⟩ ?_ ?_
  · rintro i d σ hd ⟨s, x, rfl, h1, h2⟩
    rw [List.getElem?_map] at hd
    obtain ⟨z, _, rfl⟩ := Option.map_eq_some_iff.mp hd
    refine ⟨_, rfl, ?_⟩
    have mo : mulOk s 69621 = true := mul_ok 40 40 (by omega) (by decide) (by decide) (by decide) (by decide)
    repeat' walk_at "vc"
    exact ⟨_, _, rfl, Int.emod_nonneg _ (by omega), Int.emod_lt_of_pos _ (by omega)⟩
  · rintro σ ⟨s, x, rfl, h1, h2⟩
    repeat' walk_at "vc"
    exact ⟨_, rfl, ns, 0, 0, s, rfl, by omega, by omega, h1, h2⟩
end Rf
/-! L3x: exceptions on the small language. -/
namespace Rf
open PySem
def ExS {α : Type} (r : R α) (Q : Xn → Sls → Prop) : Prop := ∃ x σ, r = .exc x σ ∧ Q x σ
def FxP (r : FR) (Q : Xn → Prop) : Prop := ∃ x, r = .exc x ∧ Q x
section
variable {sb : Sub} {cf : Nat → List Sl → FR} {W : Nat} {σ : Sls} {Q : Xn → Sls → Prop} {a b c e es : IE} {p q : IS} {i f : Nat} {t : Tg}
theorem x_call (h : OkP (evE sb cf es σ) fun y σ1 => isMu y fun ds => FxP (cf f (ds.map .im)) fun x => Q x σ1) : ExS (evE sb cf (.call f es) σ) Q := by
  obtain ⟨y, σ1, e1, ds, rfl, x, e2, h⟩ := h
  refine ⟨x, σ1, ?_, h⟩
  simp only [evE, e1, R.bind, e2, callR]
theorem x_ret (h : ExS (evE sb cf e σ) Q) : ExS (evS W sb cf (.ret e) σ) Q := by
  obtain ⟨x, σ1, e1, h⟩ := h
  exact ⟨x, σ1, by simp only [evS, e1, R.bind], h⟩
theorem x_asg (h : ExS (evE sb cf e σ) Q) : ExS (evS W sb cf (.asg t e) σ) Q := by
  obtain ⟨x, σ1, e1, h⟩ := h
  exact ⟨x, σ1, by simp only [evS, e1, R.bind], h⟩
theorem x_exp (h : ExS (evE sb cf e σ) Q) : ExS (evS W sb cf (.exp e) σ) Q := by
  obtain ⟨x, σ1, e1, h⟩ := h
  exact ⟨x, σ1, by simp only [evS, e1, R.bind], h⟩
theorem x_seq1 (h : ExS (evS W sb cf p σ) Q) : ExS (evS W sb cf (.seq p q) σ) Q := by
  obtain ⟨x, σ1, e1, h⟩ := h
  exact ⟨x, σ1, by simp only [evS, e1, R.bind], h⟩
/-- first goes next, then it is raised -/
def nxE (A : Sls → Prop) : Fl → Sls → Prop
  | .nx, σ => A σ
  | _, _ => False
theorem nxe_nx {A : Sls → Prop} (h : A σ) : nxE A .nx σ := h
theorem x_seq2 (h : OkP (evS W sb cf p σ) (nxE fun σ1 => ExS (evS W sb cf q σ1) Q)) : ExS (evS W sb cf (.seq p q) σ) Q := by
  obtain ⟨fl, σ1, e1, h⟩ := h
  cases fl with
  | nx =>
    obtain ⟨x, σ2, e2, h⟩ := h
    exact ⟨x, σ2, by simp only [evS, e1, R.bind, e2], h⟩
  | _ => exact h.elim
theorem x_cond (h : OkP (evE sb cf c σ) fun x σ1 => tB x (ExS (evS W sb cf p σ1) Q) (ExS (evS W sb cf q σ1) Q)) : ExS (evS W sb cf (.cond c p q) σ) Q := by
  obtain ⟨y, σ1, e1, k, rfl, h1, h2⟩ := h
  cases k with
  | true =>
    obtain ⟨x, σ2, e2, h⟩ := h1 rfl
    exact ⟨x, σ2, by simp only [evS, e1, R.bind, e2], h⟩
  | false =>
    obtain ⟨x, σ2, e2, h⟩ := h2 rfl
    exact ⟨x, σ2, by simp only [evS, e1, R.bind, e2], h⟩
theorem x_rse {x : Nat} (h : Q ⟨x, none⟩ σ) : ExS (evS W sb cf (.rse x) σ) Q := ⟨_, _, rfl, h⟩
theorem frx_fn {prog : List FnI} {k fi np ns : Nat} {io : Bool} {body : IS} {args : List Sl} {Q : Xn → Prop} (hp : prog[fi]? = some ⟨np, ns, io, body⟩) (ha : args.length = np)
    (h : ExS (evS W sb (callK W sb prog k) body (args ++ List.replicate (ns - np) .un)) fun x _ => Q x) : FxP (callK W sb prog (k + 1) fi args) Q := by
  obtain ⟨x, s, e, q⟩ := h
  unfold callK
  rw [hp]
  dsimp only
  rw [if_pos ha, e]
  exact ⟨x, rfl, q⟩
/-- the body ends well -/
theorem S_try_ok {P : Fl → Sls → Prop} {k : Nat} {o : Option Nat} {h : IS} (hb : OkP (evS W sb cf p σ) P) : OkP (evS W sb cf (.try1 p k o h) σ) P := by
  obtain ⟨f, σ1, e, q⟩ := hb
  refine ⟨f, σ1, ?_, q⟩
  simp only [evS, e]
/-- the handler without a name -/
theorem S_try_x {P : Fl → Sls → Prop} {k : Nat} {h : IS} (hb : ExS (evS W sb cf p σ) fun x σ1 => sb x.cls x.cls = true ∧ sb x.cls k = true ∧ OkP (evS W sb cf h σ1) fun f σ2 => P f (σ2.map unx)) : OkP (evS W sb cf (.try1 p k none h) σ) P := by
  obtain ⟨x, σ1, e, h1, h2, f, σ2, e2, q⟩ := hb
  refine ⟨f, _, ?_, q⟩
  simp only [evS, e, h1, h2, e2, if_true]
/-- the handler with a name -/
theorem S_try_e {P : Fl → Sls → Prop} {k i : Nat} {h : IS} (hb : ExS (evS W sb cf p σ) fun x σ1 => sb x.cls x.cls = true ∧ sb x.cls k = true ∧ OkP (evS W sb cf h (σ1.set i (.exn x))) fun f σ2 => P f ((σ2.map unx).set i .un)) : OkP (evS W sb cf (.try1 p k (some i) h) σ) P := by
  obtain ⟨x, σ1, e, h1, h2, f, σ2, e2, q⟩ := hb
  refine ⟨f, _, ?_, q⟩
  simp only [evS, e, h1, h2, e2, if_true]
theorem S_try_as {P : Fl → Sls → Prop} {k i : Nat} {h : IS} (hb : ExS (evS W sb cf p σ) fun x σ1 => sb x.cls x.cls = true ∧ sb x.cls k = true ∧ x.code = none ∧ OkP (evS W sb cf h (σ1.set i (.exn ⟨x.cls, none⟩))) fun f σ2 => P f ((σ2.map unx).set i .un)) : OkP (evS W sb cf (.try1 p k (some i) h) σ) P := by
  obtain ⟨⟨xc, xd⟩, σ1, e, h1, h2, h3, q⟩ := hb
  cases h3
  exact S_try_e ⟨_, σ1, e, h1, h2, q⟩
theorem o_isx {P : Sl → Sls → Prop} {z k : Nat} (e : σ[i]? = some (.exn ⟨z, none⟩)) (h : P (.im (.bl (sb z k))) σ) : OkP (evE sb cf (.isx i k) σ) P := ⟨_, _, by simp only [evE, e], h⟩
end
end Rf
/-! Hf: fractions, the program's and the laws' own, for any law. -/
namespace Rf
open PySem
local macro_rules | `(tactic| walk_at "vc") => `(tactic| first
  | (with_reducible refine' S_seq ?_)
  | ((with_reducible refine' o_lv_im ?e ?h); (case e => rfl))
  | (with_reducible refine' o_cst ?_)
  | ((with_reducible refine' wo_lv ?e ?h); (case e => rfl))
  | (with_reducible refine' wd_im ?_)
  | (with_reducible refine' wd_mu ?_)
  | ((with_reducible refine' o_var_im ?e ?h); (case e => rfl))
  | (with_reducible refine' o_bin ?_)
  | (with_reducible refine' o_cmp ?_)
  | (with_reducible refine' o_idx ?_)
  | ((with_reducible refine' o_lv_mu ?e ?h); (case e => rfl))
  | (with_reducible refine' o_cons ?_)
  | (with_reducible refine' o_nil ?_)
  | (with_reducible refine' mu_of ?_)
  | (with_reducible refine' nx_nx ?_)
  | (with_reducible refine' nx_rt ?_)
  | (with_reducible refine' nx_bk ?_)
  | (with_reducible refine' nx_ct ?_)
  | (with_reducible refine' tb_t ?_)
  | (with_reducible refine' tb_f ?_)
  | ((with_reducible refine' tb_yes ?e ?h); (case e => first | assumption | decide +kernel))
  | ((with_reducible refine' tb_no ?e ?h); (case e => first | assumption | decide +kernel))
  | ((with_reducible refine' tb_dec ?_ ?_) <;> intro hc <;> try (first | contradiction | (exfalso; omega)))
  | ((with_reducible refine' tb_ndec ?_ ?_) <;> intro hc <;> try (first | contradiction | (exfalso; omega)))
  | (with_reducible refine' S_asg ?_)
  | (with_reducible refine' S_cond ?_)
  | (with_reducible refine' S_ret ?_)
  | (with_reducible refine' S_skip ?_)
  | ((with_reducible refine' isA_of ?e ?h); (case e => rfl))
  | (with_reducible refine' isB'_eq_ii ?_)
  | (with_reducible refine' isB'_ne_ii ?_)
  | (with_reducible refine' isB'_eq_ss ?_)
  | (with_reducible refine' isB'_ne_ss ?_)
  | ((with_reducible refine' isO_mod ?e ?h); (case e => first | omega | assumption))
  | ((with_reducible refine' isO_fdv ?e ?h); (case e => first | decide | assumption))
  | ((with_reducible refine' isO_mul ?e ?h); (case e => first | decide | assumption))
  | ((with_reducible refine' isO_of ?e ?h); (case e => rfl))
  | ((with_reducible refine' hasMu_of ?e ?h); (case e => rfl))
  | (with_reducible refine' isInt_of ?_)
  | ((with_reducible refine' isN_of ?e ?h); (case e => rfl))
  | (with_reducible refine' isD_t0 ?_)
  | (with_reducible refine' isD_t1 ?_)
  | (with_reducible refine' isD_t2 ?_)
  | (with_reducible refine' isD_l0 ?_)
  | (with_reducible refine' isD_l1 ?_)
  | ((with_reducible refine' isD_of ?e ?h); (case e => rfl))
  | ((with_reducible refine' isB'_of ?e ?h); (case e => rfl))
  | (with_reducible refine' o_tup ?_)
  | (with_reducible refine' o_lst ?_)
  | ((with_reducible refine' sz_of ?e ?h); (case e => exact Nat.le_of_ble_eq_true rfl))
  | (with_reducible refine' o_b1 ?_)
  | (with_reducible refine' o_b2 ?_)
  | (with_reducible refine' o_an ?_)
  | (with_reducible refine' o_orr ?_)
  | (with_reducible refine' o_nt ?_)
  | (with_reducible refine' o_tr ?_)
  | (with_reducible refine' o_ite ?_)
  | (with_reducible refine' o_slc ?_)
  | (with_reducible refine' bd_non ?_)
  | (with_reducible refine' bd_int ?_)
  | ((with_reducible refine' o_var_mu ?e ?h); (case e => rfl))
  | (with_reducible refine' o_glo ?_)
  | ((with_reducible refine' S_rtv_im ?e ?h); (case e => rfl))
  | ((with_reducible refine' S_rtv_mu ?e ?h); (case e => rfl))
  | (with_reducible refine' S_rtn ?_)
  | (with_reducible refine' S_brk ?_)
  | (with_reducible refine' S_cnt ?_)
  | (with_reducible refine' S_exp ?_)
  | ((with_reducible refine' S_app ?e ?h); (case e => rfl))
  | ((with_reducible refine' S_aug ?e ?h); (case e => rfl))
  | (with_reducible refine' isI_of ?_)
  | (with_reducible refine' S_par ?_)
  | (with_reducible refine' S_six ?_)
  | (with_reducible refine' S_for ?_)
  | (with_reducible refine' S_whl ?_)
  | (with_reducible refine' o_rng1 ?_)
  | (with_reducible refine' o_rng2 ?_)
  | (with_reducible refine' o_comp ?_)
  | (with_reducible refine' o_call ?_)
  | ((with_reducible refine' o_cio ?e ?h); (case e => rfl))
  | (with_reducible refine' o_neg ?_)
  | (with_reducible refine' o_rep ?_)
  | (with_reducible refine' o_chn ?_)
  | (with_reducible refine' it_mu ?_)
  | (with_reducible refine' it_tp ?_)
  | (with_reducible refine' it_ls ?_)
  | ((with_reducible refine' wo_o ?e ?h); (case e => exact fun _ z => nomatch z)))

/-- so many figures -/
def Bd (n : Nat) (i : Int) : Prop := i.natAbs < 2 ^ n
theorem bd_mul {n m : Nat} {i j : Int} (h : Bd n i) (g : Bd m j) : Bd (n + m) (i * j) := by
  unfold Bd at *
  rw [Int.natAbs_mul, Nat.pow_add]
  exact Nat.mul_lt_mul'' h g
theorem bd_mono {n m : Nat} {i : Int} (h : Bd n i) (g : n ≤ m) : Bd m i := Nat.lt_of_lt_of_le h (Nat.pow_le_pow_right (by decide) g)
theorem bd_add {n : Nat} {i j : Int} (h : Bd n i) (g : Bd n j) : Bd (n + 1) (i + j) := by
  unfold Bd at *
  rw [Nat.pow_succ]
  omega
theorem bd_sub {n : Nat} {i j : Int} (h : Bd n i) (g : Bd n j) : Bd (n + 1) (i - j) := by
  unfold Bd at *
  rw [Nat.pow_succ]
  omega
theorem bd_le {n : Nat} {i j : Int} (h : Bd n i) (g : j.natAbs ≤ i.natAbs) : Bd n j := Nat.lt_of_le_of_lt g h
theorem bd_abs {n : Nat} {i : Int} (h : Bd n i) : Bd n (if i < 0 then -i else i) := bd_le h (by split <;> omega)
theorem mu {n m : Nat} {i j : Int} (h : Bd n i) (g : Bd m j) (h0 : 0 < n) (g0 : 0 < m) (hs : n + m ≤ 100000) : mulOk i j = true := mul_ok n m h g h0 g0 (by omega)
theorem bd_fu {F n : Nat} {i : Int} (h : Bd n i) (hn : n ≤ 4000) (hF : 2 ^ 4000 ≤ F) : i.natAbs < F := Nat.lt_of_lt_of_le h (Nat.le_trans (Nat.pow_le_pow_right (by decide) hn) hF)
theorem bd_sm {n : Nat} {i : Int} (h : Bd n i) (hn : n ≤ 9000) : Sm i := .of n h hn
/-! fractions in lowest terms -/
theorem g_pos {a b : Int} (hb : b ≠ 0) : 0 < (Int.gcd a b : Int) := by
  have := Int.gcd_pos_of_ne_zero_right a hb
  omega
theorem div_g {g x a : Int} (hg : 0 < g) (h : a = g * x) : a / g = x := by
  rw [h]
  exact Int.mul_ediv_cancel_left _ (by omega)
theorem fr_parts {a b : Int} (hb : b ≠ 0) : ∃ x y : Int, a = (Int.gcd a b : Int) * x ∧ b = (Int.gcd a b : Int) * y ∧ frN a b = (if b < 0 then -x else x) ∧ frD a b = (if b < 0 then -y else y) ∧ Int.gcd x y = 1 := by
  obtain ⟨x, hx⟩ : (Int.gcd a b : Int) ∣ a := Int.gcd_dvd_left ..
  obtain ⟨y, hy⟩ : (Int.gcd a b : Int) ∣ b := Int.gcd_dvd_right ..
  have gp := g_pos (a := a) hb
  have ex := div_g gp hx
  have ey := div_g gp hy
  refine ⟨x, y, hx, hy, ?_, ?_, ?_⟩
  · unfold frN
    split
    · exact div_g gp (by rw [Int.mul_neg, ← hx]; omega)
    · exact ex
  · unfold frD
    split
    · exact div_g gp (by rw [Int.mul_neg, ← hy]; omega)
    · exact ey
  · have := Int.gcd_mul_left (Int.gcd a b : Int) x y
    rw [← hx, ← hy, Int.natAbs_natCast] at this
    have g0 : 0 < Int.gcd a b := by omega
    rcases Nat.lt_trichotomy (Int.gcd x y) 1 with h | h | h
    · have h0 : Int.gcd x y = 0 := by omega
      rw [h0, Nat.mul_zero] at this
      omega
    · exact h
    · have := Nat.mul_lt_mul_of_pos_left h g0
      omega
theorem pos_of_mul {g y b : Int} (hg : 0 < g) (h : b = g * y) (hb : 0 < b) : 0 < y := by
  rcases Int.lt_or_le 0 y with h1 | h1
  · exact h1
  · exfalso
    have := Int.mul_nonpos_of_nonneg_of_nonpos (Int.le_of_lt hg) h1
    omega
theorem frD_pos {a b : Int} (hb : b ≠ 0) : 0 < frD a b := by
  obtain ⟨x, y, hx, hy, e1, e2, e3⟩ := fr_parts (a := a) hb
  have gp := g_pos (a := a) hb
  rw [e2]
  split
  · exact pos_of_mul (b := -b) gp (by rw [Int.mul_neg, ← hy]) (by omega)
  · exact pos_of_mul (b := b) gp hy (by omega)
theorem fr_cross {a b : Int} (hb : b ≠ 0) : frN a b * b = a * frD a b := by
  obtain ⟨x, y, hx, hy, e1, e2, e3⟩ := fr_parts (a := a) hb
  rw [e1, e2]
  generalize (Int.gcd a b : Int) = g at *
  subst hx hy
  split
  · rw [Int.neg_mul, Int.mul_neg, Int.mul_left_comm, Int.mul_assoc]
  · rw [Int.mul_left_comm, Int.mul_assoc]
theorem fr_gcd {a b : Int} (hb : b ≠ 0) : Int.gcd (frN a b) (frD a b) = 1 := by
  obtain ⟨x, y, hx, hy, e1, e2, e3⟩ := fr_parts (a := a) hb
  rw [e1, e2]
  split
  · rw [Int.gcd_neg, Int.neg_gcd]
    exact e3
  · exact e3
theorem mul_le_abs {g x a : Int} (hg : 0 < g) (h : a = g * x) : x.natAbs ≤ a.natAbs := by
  rw [h, Int.natAbs_mul]
  exact Nat.le_mul_of_pos_left _ (by omega)
theorem frN_le {a b : Int} (hb : b ≠ 0) : (frN a b).natAbs ≤ a.natAbs := by
  obtain ⟨x, y, hx, hy, e1, e2, e3⟩ := fr_parts (a := a) hb
  have := mul_le_abs (g_pos (a := a) hb) hx
  rw [e1]
  split <;> omega
theorem frD_le {a b : Int} (hb : b ≠ 0) : (frD a b).natAbs ≤ b.natAbs := by
  obtain ⟨x, y, hx, hy, e1, e2, e3⟩ := fr_parts (a := a) hb
  have := mul_le_abs (g_pos (a := a) hb) hy
  rw [e2]
  split <;> omega
/-- a fraction -/
def fr (a b : Int) : D := .tup [.int (frN a b), .int (frD a b)]
/-- two fractions' numbers -/
structure Fq (n : Nat) (d : D) (p q : Int) : Prop where
  e : d = .tup [.int p, .int q]
  pos : 0 < q
  bp : Bd n p
  bq : Bd n q
theorem fq_fr {n : Nat} {a b : Int} (hb : b ≠ 0) (h1 : Bd n a) (h2 : Bd n b) : Fq n (fr a b) (frN a b) (frD a b) := ⟨rfl, frD_pos hb, bd_le h1 (frN_le hb), bd_le h2 (frD_le hb)⟩
theorem fq_mono {n m : Nat} {d : D} {p q : Int} (h : Fq n d p q) (hm : n ≤ m) : Fq m d p q := ⟨h.e, h.pos, bd_mono h.bp hm, bd_mono h.bq hm⟩
section
variable {F : Nat} {sb : Sub} {prog : List FnI}
/-! the program's -/
def fractionB (x : Nat) : IS :=
  (.seq (.cond (.cmp .eq (.lv 1) (.cst (.int 0))) (.rse x) .skip)
  (.seq (.cond (.cmp .lt (.lv 1) (.cst (.int 0))) (.seq (.asg (.nm 0) (.neg (.lv 0)))
  (.asg (.nm 1) (.neg (.lv 1)))) .skip)
  (.seq (.asg (.nm 2) (.b2 .gcd (.lv 0) (.lv 1)))
  (.ret (.tup (.cons (.bin .fdv (.lv 0) (.lv 2)) (.cons (.bin .fdv (.lv 1) (.lv 2)) .nil)))))))
def plusB (f : Nat) : IS :=
  (.ret (.call f (.cons (.bin .add (.bin .mul (.idx (.lv 0) (.cst (.int 0))) (.idx (.lv 1) (.cst (.int 1)))) (.bin .mul (.idx (.lv 1) (.cst (.int 0))) (.idx (.lv 0) (.cst (.int 1))))) (.cons (.bin .mul (.idx (.lv 0) (.cst (.int 1))) (.idx (.lv 1) (.cst (.int 1)))) .nil))))
def minusB (f : Nat) : IS :=
  (.ret (.call f (.cons (.bin .sub (.bin .mul (.idx (.lv 0) (.cst (.int 0))) (.idx (.lv 1) (.cst (.int 1)))) (.bin .mul (.idx (.lv 1) (.cst (.int 0))) (.idx (.lv 0) (.cst (.int 1))))) (.cons (.bin .mul (.idx (.lv 0) (.cst (.int 1))) (.idx (.lv 1) (.cst (.int 1)))) .nil))))
def timesB (f : Nat) : IS :=
  (.ret (.call f (.cons (.bin .mul (.idx (.lv 0) (.cst (.int 0))) (.idx (.lv 1) (.cst (.int 0)))) (.cons (.bin .mul (.idx (.lv 0) (.cst (.int 1))) (.idx (.lv 1) (.cst (.int 1)))) .nil))))
def overB (f : Nat) : IS :=
  (.ret (.call f (.cons (.bin .mul (.idx (.lv 0) (.cst (.int 0))) (.idx (.lv 1) (.cst (.int 1)))) (.cons (.bin .mul (.idx (.lv 0) (.cst (.int 1))) (.idx (.lv 1) (.cst (.int 0)))) .nil))))
def compareB : IS :=
  (.seq (.asg (.nm 2) (.bin .mul (.idx (.lv 0) (.cst (.int 0))) (.idx (.lv 1) (.cst (.int 1)))))
  (.seq (.asg (.nm 3) (.bin .mul (.idx (.lv 1) (.cst (.int 0))) (.idx (.lv 0) (.cst (.int 1)))))
  (.seq (.cond (.cmp .lt (.lv 2) (.lv 3)) (.ret (.neg (.cst (.int 1)))) .skip)
  (.seq (.cond (.cmp .gt (.lv 2) (.lv 3)) (.ret (.cst (.int 1))) .skip)
  (.ret (.cst (.int 0)))))))
def lessB : IS :=
  (.ret (.cmp .lt (.bin .mul (.idx (.lv 0) (.cst (.int 0))) (.idx (.lv 1) (.cst (.int 1)))) (.bin .mul (.idx (.lv 1) (.cst (.int 0))) (.idx (.lv 0) (.cst (.int 1))))))
/-- what makes a fraction of two numbers -/
def FrS (g : List Sl → FR) : Prop := ∀ a b : Int, b ≠ 0 → Bd 4000 b → FrP (g [.im (.int a), .im (.int b)]) fun s _ => s = .im (fr a b)
theorem fraction_fn {x t k : Nat} (h : prog[t]? = some ⟨2, 3, false, fractionB x⟩) : FrS (callK F sb prog (k + 1) t) := fun a b hb hB => by
  have gp := g_pos (a := a) hb
  have gd : divOk (Int.gcd a b : Int) = true := (bd_sm hB (by decide)).div gp (Nat.le_of_dvd (by omega) (Int.natAbs_dvd_natAbs.mpr (Int.gcd_dvd_right ..)))
  refine frp_fn h rfl ?_
  unfold fractionB
  by_cases hn : b < 0
  · repeat' walk_at "vc"
    rw [show (Nat.gcd (-a).natAbs (-b).natAbs : Int) = (Int.gcd a b : Int) by unfold Int.gcd; rw [Int.natAbs_neg, Int.natAbs_neg]]
    repeat' walk_at "vc"
    show Sl.im _ = Sl.im _
    unfold fr frN frD
    rw [if_pos hn, if_pos hn, show (0 - a) = -a by omega, show (0 - b) = -b by omega]
  · repeat' walk_at "vc"
    rw [show (Nat.gcd a.natAbs b.natAbs : Int) = (Int.gcd a b : Int) from rfl]
    repeat' walk_at "vc"
    show Sl.im _ = Sl.im _
    unfold fr frN frD
    rw [if_neg hn, if_neg hn]
theorem lawf_frs {t g k : Nat} (hF : 2 ^ 4000 ≤ F) (h : prog[t]? = some ⟨2, 3, false, fB g⟩) (hg : prog[g]? = some ⟨2, 2, false, gcdB⟩) : FrS (callK F sb prog (k + 2) t) := fun a b hb hB =>
  f_fn h (fun a b ha hb h => gcd_fn hg ha hb h) hb (bd_fu hB (by decide) hF) (bd_sm hB (by decide))
section
variable {n m k t f : Nat} {x y : D} {a b c d : Int}
theorem plus_fn (h : prog[t]? = some ⟨2, 2, false, plusB f⟩) (hf : FrS (callK F sb prog k f)) (hx : Fq n x a b) (hy : Fq m y c d) (h0 : 0 < n := by decide) (g0 : 0 < m := by decide) (hs : n + m ≤ 3000 := by decide) : FrP (callK F sb prog (k + 1) t [.im x, .im y]) fun s _ => s = .im (fr (a * d + c * b) (b * d)) := by
  obtain ⟨rfl, h1, h2, h3⟩ := hx
  obtain ⟨rfl, g1, g2, g3⟩ := hy
  refine frp_fn h rfl ?_
  unfold plusB
  have m1 := mu h2 g3 h0 g0 (by omega)
  have m2 := mu g2 h3 g0 h0 (by omega)
  have m3 := mu h3 g3 h0 g0 (by omega)
  repeat' walk_at "vc"
  exact hf _ _ (Int.ne_of_gt (Int.mul_pos h1 g1)) (bd_mono (bd_mul h3 g3) (by omega))
theorem minus_fn (h : prog[t]? = some ⟨2, 2, false, minusB f⟩) (hf : FrS (callK F sb prog k f)) (hx : Fq n x a b) (hy : Fq m y c d) (h0 : 0 < n := by decide) (g0 : 0 < m := by decide) (hs : n + m ≤ 3000 := by decide) : FrP (callK F sb prog (k + 1) t [.im x, .im y]) fun s _ => s = .im (fr (a * d - c * b) (b * d)) := by
  obtain ⟨rfl, h1, h2, h3⟩ := hx
  obtain ⟨rfl, g1, g2, g3⟩ := hy
  refine frp_fn h rfl ?_
  unfold minusB
  have m1 := mu h2 g3 h0 g0 (by omega)
  have m2 := mu g2 h3 g0 h0 (by omega)
  have m3 := mu h3 g3 h0 g0 (by omega)
  repeat' walk_at "vc"
  exact hf _ _ (Int.ne_of_gt (Int.mul_pos h1 g1)) (bd_mono (bd_mul h3 g3) (by omega))
theorem times_fn (h : prog[t]? = some ⟨2, 2, false, timesB f⟩) (hf : FrS (callK F sb prog k f)) (hx : Fq n x a b) (hy : Fq m y c d) (h0 : 0 < n := by decide) (g0 : 0 < m := by decide) (hs : n + m ≤ 3000 := by decide) : FrP (callK F sb prog (k + 1) t [.im x, .im y]) fun s _ => s = .im (fr (a * c) (b * d)) := by
  obtain ⟨rfl, h1, h2, h3⟩ := hx
  obtain ⟨rfl, g1, g2, g3⟩ := hy
  refine frp_fn h rfl ?_
  unfold timesB
  have m1 := mu h2 g2 h0 g0 (by omega)
  have m3 := mu h3 g3 h0 g0 (by omega)
  repeat' walk_at "vc"
  exact hf _ _ (Int.ne_of_gt (Int.mul_pos h1 g1)) (bd_mono (bd_mul h3 g3) (by omega))
theorem over_fn (h : prog[t]? = some ⟨2, 2, false, overB f⟩) (hf : FrS (callK F sb prog k f)) (hx : Fq n x a b) (hy : Fq m y c d) (hc : c ≠ 0) (h0 : 0 < n := by decide) (g0 : 0 < m := by decide) (hs : n + m ≤ 3000 := by decide) : FrP (callK F sb prog (k + 1) t [.im x, .im y]) fun s _ => s = .im (fr (a * d) (b * c)) := by
  obtain ⟨rfl, h1, h2, h3⟩ := hx
  obtain ⟨rfl, g1, g2, g3⟩ := hy
  refine frp_fn h rfl ?_
  unfold overB
  have m1 := mu h2 g3 h0 g0 (by omega)
  have m3 := mu h3 g2 h0 g0 (by omega)
  repeat' walk_at "vc"
  exact hf _ _ (Int.mul_ne_zero (by omega) hc) (bd_mono (bd_mul h3 g2) (by omega))
def cmpZ (l r : Int) : Int := if l < r then -1 else if r < l then 1 else 0
theorem cmpZ_of (l r : Int) : (l < r ∧ cmpZ l r = -1) ∨ (r < l ∧ cmpZ l r = 1) ∨ (l = r ∧ cmpZ l r = 0) := by
  unfold cmpZ
  split
  · exact .inl ⟨‹_›, rfl⟩
  · split
    · exact .inr (.inl ⟨‹_›, rfl⟩)
    · exact .inr (.inr ⟨by omega, rfl⟩)
theorem cmpZ_le {l r : Int} : cmpZ l r ≤ 0 ↔ l ≤ r := by
  rcases cmpZ_of l r with ⟨h, e⟩ | ⟨h, e⟩ | ⟨h, e⟩ <;> rw [e] <;> omega
/-- two numbers each, of any sign -/
structure Nq (n : Nat) (d : D) (p q : Int) : Prop where
  e : d = .tup [.int p, .int q]
  bp : Bd n p
  bq : Bd n q
theorem Fq.nq (h : Fq n x a b) : Nq n x a b := ⟨h.e, h.bp, h.bq⟩
theorem compare_fn (h : prog[t]? = some ⟨2, 4, false, compareB⟩) (hx : Nq n x a b) (hy : Nq m y c d) (h0 : 0 < n := by decide) (g0 : 0 < m := by decide) (hs : n + m ≤ 3000 := by decide) : FrP (callK F sb prog (k + 1) t [.im x, .im y]) fun s _ => s = .im (.int (cmpZ (a * d) (c * b))) := by
  obtain ⟨rfl, h2, h3⟩ := hx
  obtain ⟨rfl, g2, g3⟩ := hy
  refine frp_fn h rfl ?_
  unfold compareB
  have m1 := mu h2 g3 h0 g0 (by omega)
  have m2 := mu g2 h3 g0 h0 (by omega)
  repeat' walk_at "vc"
  all_goals (show Sl.im (.int _) = Sl.im (.int (cmpZ _ _)); unfold cmpZ)
  · rw [if_pos ‹_›]
  · rw [if_neg ‹_›, if_pos ‹_›]
  · rw [if_neg ‹¬ a * d < c * b›, if_neg ‹¬ c * b < a * d›]
theorem less_fn (h : prog[t]? = some ⟨2, 2, false, lessB⟩) (hx : Nq n x a b) (hy : Nq m y c d) (h0 : 0 < n := by decide) (g0 : 0 < m := by decide) (hs : n + m ≤ 3000 := by decide) : FrP (callK F sb prog (k + 1) t [.im x, .im y]) fun s _ => s = .im (.bl (decide (a * d < c * b))) := by
  obtain ⟨rfl, h2, h3⟩ := hx
  obtain ⟨rfl, g2, g3⟩ := hy
  refine frp_fn h rfl ?_
  unfold lessB
  have m1 := mu h2 g3 h0 g0 (by omega)
  have m2 := mu g2 h3 g0 h0 (by omega)
  repeat' walk_at "vc"
  rfl
end
end
theorem rngIn_of {i : Int} (h1 : -1000000000 ≤ i) (h2 : i < 1000000000) : rngIn i = true := by
  unfold rngIn
  exact decide_eq_true ⟨by omega, by omega⟩
theorem rng_get {lo hi : Int} {i : Nat} {d : D} (h : (rngL lo hi)[i]? = some d) : d = .int (lo + (i : Int)) ∧ i < (hi - lo).toNat := by
  unfold rngL at h
  rw [List.getElem?_map] at h
  obtain ⟨n, h1, h2⟩ := Option.map_eq_some_iff.mp h
  have hi := (List.getElem?_eq_some_iff.mp h1).1
  rw [List.length_range] at hi
  rw [List.getElem?_range hi] at h1
  cases h1
  exact ⟨h2.symm, hi⟩
theorem rng_len (lo hi : Int) : (rngL lo hi).length = (hi - lo).toNat := by simp [rngL]
end Rf
/-! L4: comprehensions that map, lists of numbers and truth values. -/
namespace Rf
open PySem
section
variable {α : Type} {own : List Nat} {t : Tg} {tst el : Sls → R Sl} {P : List D → Sls → Prop} {σ : Sls}
/-- a comprehension that maps and keeps, its state as it was -/
theorem comp_mapF (f : α → D) (g : α → D) (keep : α → Bool) (xs : List α) (h : ∀ x, x ∈ xs → ∃ σ1, asgT t (f x) (wipeD σ own) = some σ1 ∧ OkP (tst σ1) fun s σ2 => tB s (keep x = true ∧ OkP (el σ2) fun y σ3 => wD y fun v => v = g x ∧ backD σ σ3 own = σ) (keep x = false ∧ backD σ σ2 own = σ))
    (hP : P ((xs.filter keep).map g) σ) : OkP (compF own t tst el (xs.map f) σ) P := by
  suffices h : ∃ ys, compF own t tst el (xs.map f) σ = .ok ys σ ∧ ys = (xs.filter keep).map g by
    obtain ⟨ys, e, rfl⟩ := h
    exact ⟨_, _, e, hP⟩
  clear hP
  induction xs with
  | nil => exact ⟨[], rfl, rfl⟩
  | cons x xs ih =>
    obtain ⟨ys, e, rfl⟩ := ih fun y hy => h y (List.mem_cons_of_mem _ hy)
    obtain ⟨σ1, e1, s, σ2, e2, k, rfl, h1, h2⟩ := h x (List.mem_cons_self ..)
    rw [List.map_cons]
    unfold compF
    rw [e1]
    dsimp only
    rw [e2]
    cases k with
    | false =>
      obtain ⟨hk, hb⟩ := h2 rfl
      dsimp only
      rw [hb, e]
      exact ⟨_, rfl, by rw [List.filter_cons_of_neg (by rw [hk]; decide)]⟩
    | true =>
      obtain ⟨hk, y, σ3, e3, hv⟩ := h1 rfl
      dsimp only
      rw [e3]
      rw [List.filter_cons_of_pos hk]
      cases y with
      | im v =>
        obtain ⟨rfl, hb⟩ := hv
        refine ⟨_, ?_, rfl⟩
        show (match compF own t tst el (List.map f xs) (backD σ σ3 own) with
          | .ok ys σ4 => R.ok (g x :: ys) σ4
          | _ => .bad) = _
        rw [hb, e]
        rfl
      | mu v =>
        obtain ⟨hv, hb⟩ := hv
        refine ⟨_, ?_, rfl⟩
        show (match compF own t tst el (List.map f xs) (backD σ σ3 own) with
          | .ok ys σ4 => R.ok (D.lst v :: ys) σ4
          | _ => .bad) = _
        rw [hb, e, hv]
        rfl
      | un => exact hv.elim
      | exn z => exact hv.elim
      | clo z => exact hv.elim
theorem comp_map (f : α → D) (g : α → D) (xs : List α) (h : ∀ x, x ∈ xs → ∃ σ1, asgT t (f x) (wipeD σ own) = some σ1 ∧ OkP (tst σ1) fun s σ2 => tB s (OkP (el σ2) fun y σ3 => wD y fun v => v = g x ∧ backD σ σ3 own = σ) False)
    (hP : P (xs.map g) σ) : OkP (compF own t tst el (xs.map f) σ) P := by
  refine comp_mapF f g (fun _ => true) xs (fun x hx => ?_) (by rw [List.filter_eq_self.mpr fun _ _ => rfl]; exact hP)
  obtain ⟨σ1, e1, s, σ2, e2, k, rfl, h1, h2⟩ := h x hx
  exact ⟨σ1, e1, _, σ2, e2, k, rfl, fun e => ⟨rfl, h1 e⟩, fun e => (h2 e).elim⟩
end
section
variable {α : Type} {Q : Sl → Prop}
theorem allO_ints' (xs : List α) (f : α → Int) : allO D.i? (xs.map fun x => D.int (f x)) = some (xs.map f) := by
  induction xs with
  | nil => rfl
  | cons x xs ih => simp only [List.map_cons, allO, D.i?, ih]
theorem allO_bls' (xs : List α) (f : α → Bool) : allO D.b? (xs.map fun x => D.bl (f x)) = some (xs.map f) := by
  induction xs with
  | nil => rfl
  | cons x xs ih => simp only [List.map_cons, allO, D.b?, ih]
theorem isO_sum (xs : List α) (f : α → Int) (h : Q (.im (.int (xs.map f).sum))) : isO (b1D .sum (.lst (xs.map fun x => D.int (f x)))) Q := ⟨_, by simp only [b1D, allO_ints', Option.map_some], h⟩
theorem isO_all (xs : List α) (f : α → Bool) (h : Q (.im (.bl (xs.all f)))) : isO (b1D .all (.lst (xs.map fun x => D.bl (f x)))) Q := by
  refine ⟨_, by simp only [b1D, allO_bls', Option.map_some]; rfl, ?_⟩
  rw [List.all_map]
  exact h
theorem isO_any (xs : List α) (f : α → Bool) (h : Q (.im (.bl (xs.any f)))) : isO (b1D .any (.lst (xs.map fun x => D.bl (f x)))) Q := by
  refine ⟨_, by simp only [b1D, allO_bls', Option.map_some]; rfl, ?_⟩
  rw [List.any_map]
  exact h
theorem isO_max (n : Int) (xs : List α) (f : α → Int) (h : Q (.im (.int (maxI n (xs.map f))))) : isO (b1D .max (.lst (D.int n :: xs.map fun x => D.int (f x)))) Q := by
  refine ⟨_, ?_, h⟩
  simp only [b1D, allO, D.i?, allO_ints']
theorem isO_min (n : Int) (xs : List α) (f : α → Int) (h : Q (.im (.int (minI n (xs.map f))))) : isO (b1D .min (.lst (D.int n :: xs.map fun x => D.int (f x)))) Q := by
  refine ⟨_, ?_, h⟩
  simp only [b1D, allO, D.i?, allO_ints']
theorem eqv_bb {i j : Bool} : (D.bl i).eqv (.bl j) = decide (i = j) := by
  show PyData.eqv (.bool i) (.bool j) = _
  cases i <;> cases j <;> rfl
theorem isB'_eq_bb {i j : Bool} {Q : Bool → Prop} (h : Q (decide (i = j))) : isB' (copD .eq (.bl i) (.bl j)) Q := ⟨_, by simp only [copD, eqOk_l (show (D.bl i).deep ≤ 200 from Nat.zero_le _), if_true, eqv_bb], h⟩
theorem isB'_ne_bb {i j : Bool} {Q : Bool → Prop} (h : Q (!decide (i = j))) : isB' (copD .ne (.bl i) (.bl j)) Q := ⟨_, by simp only [copD, eqOk_l (show (D.bl i).deep ≤ 200 from Nat.zero_le _), if_true, eqv_bb], h⟩
theorem maxI_eq : ∀ (xs : List Int) (m : Int), maxI m xs = xs.foldl max m
  | [], _ => rfl
  | x :: xs, m => by
    unfold maxI
    rw [maxI_eq xs, List.foldl_cons]
    congr 1
    split <;> omega
theorem minI_eq : ∀ (xs : List Int) (m : Int), minI m xs = xs.foldl min m
  | [], _ => rfl
  | x :: xs, m => by
    unfold minI
    rw [minI_eq xs, List.foldl_cons]
    congr 1
    split <;> omega
end
end Rf
/-! Hr: fractions by their values. -/
namespace Rf
open PySem
def dq (x : Rat) : D := .tup [.int x.num, .int (x.den : Int)]
/-- few figures above and below -/
def QB (n : Nat) (x : Rat) : Prop := Bd n x.num ∧ Bd n (x.den : Int)
theorem QB.mono {n m : Nat} {x : Rat} (h : QB n x) (hm : n ≤ m) : QB m x := ⟨bd_mono h.1 hm, bd_mono h.2 hm⟩
theorem fr_dq {a b : Int} (hb : b ≠ 0) : fr a b = dq ((a : Rat) / (b : Rat)) := by
  rw [← Rat.divInt_eq_div]
  unfold fr dq frN frD
  rw [Rat.num_divInt, Rat.den_divInt, if_neg hb, Int.gcd_comm b a]
  have gp : 0 < Int.gcd a b := Int.gcd_pos_of_ne_zero_right _ hb
  by_cases h : b < 0
  · rw [if_pos h, if_pos h, Int.sign_eq_neg_one_of_neg h]
    have e1 : (-1 : Int) * a = 0 - a := by omega
    have e2 : ((b.natAbs / Int.gcd a b : Nat) : Int) = (0 - b) / (Int.gcd a b : Int) := by
      rw [Int.natCast_ediv]
      congr 1
      omega
    rw [e1, e2]
  · rw [if_neg h, if_neg h, Int.sign_eq_one_of_pos (by omega)]
    have e2 : ((b.natAbs / Int.gcd a b : Nat) : Int) = b / (Int.gcd a b : Int) := by
      rw [Int.natCast_ediv]
      congr 1
      omega
    rw [Int.one_mul, e2]
theorem qb_fr {n : Nat} {a b : Int} (hb : b ≠ 0) (h1 : Bd n a) (h2 : Bd n b) : QB n ((a : Rat) / (b : Rat)) := by
  have e := fr_dq (a := a) hb
  unfold fr dq at e
  injection e with e
  injection e with e1 e2
  injection e2 with e2 _
  injection e1 with e1
  injection e2 with e2
  exact ⟨by rw [← e1]; exact bd_le h1 (frN_le hb), by rw [← e2]; exact bd_le h2 (frD_le hb)⟩
theorem den_pos' (x : Rat) : 0 < (x.den : Int) := by have := x.den_pos; omega
theorem fq_dq {n : Nat} {x : Rat} (h : QB n x) : Fq n (dq x) x.num (x.den : Int) := ⟨rfl, den_pos' x, h.1, h.2⟩
theorem q_self (x : Rat) : (x.num : Rat) / ((x.den : Int) : Rat) = x := by
  rw [← Rat.divInt_eq_div]
  exact Rat.num_divInt_den x
theorem den_ne (x : Rat) : ((x.den : Int) : Rat) ≠ 0 := by
  have := den_pos' x
  intro h
  have h2 : ((x.den : Int) : Rat) = ((0 : Int) : Rat) := h
  have := Rat.intCast_inj.mp h2
  omega
theorem q_plus (x y : Rat) : ((x.num * y.den + y.num * x.den : Int) : Rat) / ((x.den * y.den : Int) : Rat) = x + y := by
  have hx := q_self x
  have hy := q_self y
  have dx := den_ne x
  have dy := den_ne y
  simp only [Rat.intCast_add, Rat.intCast_mul]
  grind
theorem q_minus (x y : Rat) : ((x.num * y.den - y.num * x.den : Int) : Rat) / ((x.den * y.den : Int) : Rat) = x - y := by
  have hx := q_self x
  have hy := q_self y
  have dx := den_ne x
  have dy := den_ne y
  simp only [Rat.intCast_sub, Rat.intCast_mul]
  grind
theorem q_times (x y : Rat) : ((x.num * y.num : Int) : Rat) / ((x.den * y.den : Int) : Rat) = x * y := by
  have hx := q_self x
  have hy := q_self y
  have dx := den_ne x
  have dy := den_ne y
  simp only [Rat.intCast_mul]
  grind
theorem q_over (x y : Rat) (h : y.num ≠ 0) : ((x.num * y.den : Int) : Rat) / ((x.den * y.num : Int) : Rat) = x / y := by
  have hx := q_self x
  have hy := q_self y
  have dx := den_ne x
  have dy := den_ne y
  have h' : ((y.num : Int) : Rat) ≠ 0 := fun e => h (Rat.intCast_inj.mp e)
  simp only [Rat.intCast_mul]
  grind
theorem dd_ne (x y : Rat) : (x.den : Int) * (y.den : Int) ≠ 0 := Int.ne_of_gt (Int.mul_pos (den_pos' x) (den_pos' y))
theorem qb_plus {n m : Nat} {x y : Rat} (h : QB n x) (g : QB m y) : QB (n + m + 1) (x + y) := by
  rw [← q_plus]
  exact qb_fr (dd_ne x y) (bd_add (bd_mul h.1 g.2) (by rw [Nat.add_comm]; exact bd_mul g.1 h.2)) (bd_mono (bd_mul h.2 g.2) (by omega))
theorem qb_minus {n m : Nat} {x y : Rat} (h : QB n x) (g : QB m y) : QB (n + m + 1) (x - y) := by
  rw [← q_minus]
  exact qb_fr (dd_ne x y) (bd_sub (bd_mul h.1 g.2) (by rw [Nat.add_comm]; exact bd_mul g.1 h.2)) (bd_mono (bd_mul h.2 g.2) (by omega))
theorem qb_times {n m : Nat} {x y : Rat} (h : QB n x) (g : QB m y) : QB (n + m) (x * y) := by
  rw [← q_times]
  exact qb_fr (dd_ne x y) (bd_mul h.1 g.1) (bd_mul h.2 g.2)
theorem num_ne {y : Rat} (h : y ≠ 0) : y.num ≠ 0 := fun e => h (Rat.num_eq_zero.mp e)
theorem qb_over {n m : Nat} {x y : Rat} (h : QB n x) (g : QB m y) (hy : y ≠ 0) : QB (n + m) (x / y) := by
  rw [← q_over x y (num_ne hy)]
  exact qb_fr (Int.mul_ne_zero (Int.ne_of_gt (den_pos' x)) (num_ne hy)) (bd_mul h.1 g.2) (bd_mul h.2 g.1)
section
variable {F : Nat} {sb : Sub} {prog : List FnI} {n m k t f : Nat} {x y : Rat}
theorem plus_q (h : prog[t]? = some ⟨2, 2, false, plusB f⟩) (hf : FrS (callK F sb prog k f)) (hx : QB n x) (hy : QB m y) (h0 : 0 < n := by decide) (g0 : 0 < m := by decide) (hs : n + m ≤ 3000 := by decide) : FrP (callK F sb prog (k + 1) t [.im (dq x), .im (dq y)]) fun s _ => s = .im (dq (x + y)) :=
  (plus_fn h hf (fq_dq hx) (fq_dq hy) h0 g0 hs).imp fun s _ e => by rw [e, fr_dq (dd_ne x y), q_plus]
theorem minus_q (h : prog[t]? = some ⟨2, 2, false, minusB f⟩) (hf : FrS (callK F sb prog k f)) (hx : QB n x) (hy : QB m y) (h0 : 0 < n := by decide) (g0 : 0 < m := by decide) (hs : n + m ≤ 3000 := by decide) : FrP (callK F sb prog (k + 1) t [.im (dq x), .im (dq y)]) fun s _ => s = .im (dq (x - y)) :=
  (minus_fn h hf (fq_dq hx) (fq_dq hy) h0 g0 hs).imp fun s _ e => by rw [e, fr_dq (dd_ne x y), q_minus]
theorem times_q (h : prog[t]? = some ⟨2, 2, false, timesB f⟩) (hf : FrS (callK F sb prog k f)) (hx : QB n x) (hy : QB m y) (h0 : 0 < n := by decide) (g0 : 0 < m := by decide) (hs : n + m ≤ 3000 := by decide) : FrP (callK F sb prog (k + 1) t [.im (dq x), .im (dq y)]) fun s _ => s = .im (dq (x * y)) :=
  (times_fn h hf (fq_dq hx) (fq_dq hy) h0 g0 hs).imp fun s _ e => by rw [e, fr_dq (dd_ne x y), q_times]
theorem over_q (h : prog[t]? = some ⟨2, 2, false, overB f⟩) (hf : FrS (callK F sb prog k f)) (hx : QB n x) (hy : QB m y) (hy0 : y ≠ 0) (h0 : 0 < n := by decide) (g0 : 0 < m := by decide) (hs : n + m ≤ 3000 := by decide) : FrP (callK F sb prog (k + 1) t [.im (dq x), .im (dq y)]) fun s _ => s = .im (dq (x / y)) :=
  (over_fn h hf (fq_dq hx) (fq_dq hy) (num_ne hy0) h0 g0 hs).imp fun s _ e => by rw [e, fr_dq (Int.mul_ne_zero (Int.ne_of_gt (den_pos' x)) (num_ne hy0)), q_over x y (num_ne hy0)]
/-- as compare tells it -/
def cmpQ (x y : Rat) : Int := if x < y then -1 else if y < x then 1 else 0
theorem cmp_q_eq (x y : Rat) : cmpZ (x.num * y.den) (y.num * x.den) = cmpQ x y := by
  unfold cmpZ cmpQ
  simp only [Rat.lt_iff]
theorem compare_q (h : prog[t]? = some ⟨2, 4, false, compareB⟩) (hx : QB n x) (hy : QB m y) (h0 : 0 < n := by decide) (g0 : 0 < m := by decide) (hs : n + m ≤ 3000 := by decide) : FrP (callK F sb prog (k + 1) t [.im (dq x), .im (dq y)]) fun s _ => s = .im (.int (cmpQ x y)) :=
  (compare_fn h (fq_dq hx).nq (fq_dq hy).nq h0 g0 hs).imp fun s _ e => by rw [e, cmp_q_eq]
theorem less_q (h : prog[t]? = some ⟨2, 2, false, lessB⟩) (hx : QB n x) (hy : QB m y) (h0 : 0 < n := by decide) (g0 : 0 < m := by decide) (hs : n + m ≤ 3000 := by decide) : FrP (callK F sb prog (k + 1) t [.im (dq x), .im (dq y)]) fun s _ => s = .im (.bl (decide (x < y))) :=
  (less_fn h (fq_dq hx).nq (fq_dq hy).nq h0 g0 hs).imp fun s _ e => by rw [e]; simp only [Rat.lt_iff]
theorem cmpQ_le {x y : Rat} : cmpQ x y ≤ 0 ↔ x ≤ y := by
  rw [← cmp_q_eq, cmpZ_le, Rat.le_iff]
theorem frs_q (hf : FrS (callK F sb prog k f)) {a b : Int} (hb : b ≠ 0) (h : Bd 4000 b) : FrP (callK F sb prog k f [.im (.int a), .im (.int b)]) fun s _ => s = .im (dq ((a : Rat) / (b : Rat))) :=
  (hf a b hb h).imp fun s _ e => by rw [e, fr_dq hb]
end
theorem dq_inj {x y : Rat} (h : dq x = dq y) : x = y := by
  unfold dq at h
  injection h with h
  injection h with h1 h2
  injection h2 with h2 _
  injection h1 with h1
  injection h2 with h2
  have hx := q_self x
  have hy := q_self y
  rw [h1, h2] at hx
  exact hx.symm.trans hy
theorem dq_pl (x : Rat) : (dq x).pl = true := rfl
theorem dq0 : dq 0 = .tup [.int 0, .int 1] := rfl
theorem dq1 : dq 1 = .tup [.int 1, .int 1] := rfl
theorem dq_of (a : Int) (b : Nat) (x : Rat) (h1 : x.num = a) (h2 : x.den = b) : dq x = .tup [.int a, .int (b : Int)] := by unfold dq; rw [h1, h2]
theorem num_nn {x : Rat} : 0 ≤ x.num ↔ 0 ≤ x := Rat.num_nonneg
theorem dq_deep (x : Rat) : (dq x).deep = 1 := rfl
end Rf
/-! Ht: markets as trees; paths; sorting of paths. -/
namespace Rf
open PySem
/-- a pair of prices: four numbers -/
structure Pq where
  bn : Int
  bd : Int
  sn : Int
  sd : Int
def Pq.d (p : Pq) : D := .tup [.tup [.int p.bn, .int p.bd], .tup [.int p.sn, .int p.sd]]
inductive Nd where
  | mk (ps : List Pq) (ks : List Nd)
def Nd.ps : Nd → List Pq
  | .mk ps _ => ps
def Nd.ks : Nd → List Nd
  | .mk _ ks => ks
mutual
def Nd.d : Nd → D
  | .mk ps ks => .tup [.tup (ps.map Pq.d), .tup (Nd.ds ks)]
def Nd.ds : List Nd → List D
  | [] => []
  | k :: ks => Nd.d k :: Nd.ds ks
end
theorem Nd.ds_map : ∀ ks : List Nd, Nd.ds ks = ks.map Nd.d
  | [] => rfl
  | k :: ks => by rw [Nd.ds, Nd.ds_map ks]; rfl
theorem Nd.d_eq (n : Nd) : n.d = .tup [.tup (n.ps.map Pq.d), .tup (n.ks.map Nd.d)] := by
  cases n
  rw [Nd.d, Nd.ds_map]
  rfl
abbrev Pth := List Int
abbrev PN := Pth × Nd
mutual
def Nd.nodes : Pth → Nd → List PN
  | p, .mk ps ks => (p, .mk ps ks) :: Nd.nodesL p 0 ks
def Nd.nodesL : Pth → Nat → List Nd → List PN
  | _, _, [] => []
  | p, k, n :: ns => Nd.nodes (p ++ [(k : Int)]) n ++ Nd.nodesL p (k + 1) ns
end
/-- the nodes right behind one -/
def chl (p : Pth) : Nat → List Nd → List PN
  | _, [] => []
  | k, n :: ns => (p ++ [(k : Int)], n) :: chl p (k + 1) ns
def nodesX (x : PN) : List PN := x.2.nodes x.1
def chX (x : PN) : List PN := chl x.1 0 x.2.ks
theorem nodesL_eq (p : Pth) : ∀ (k : Nat) (ns : List Nd), Nd.nodesL p k ns = (chl p k ns).flatMap nodesX
  | _, [] => by rw [Nd.nodesL]; rfl
  | k, n :: ns => by
    rw [Nd.nodesL, chl, List.flatMap_cons, nodesL_eq p (k + 1) ns]
    rfl
theorem nodesX_eq (x : PN) : nodesX x = x :: (chX x).flatMap nodesX := by
  obtain ⟨p, n⟩ := x
  cases n with
  | mk ps ks =>
    show Nd.nodes p (.mk ps ks) = _
    rw [Nd.nodes, nodesL_eq]
    rfl
theorem chl_get (p : Pth) : ∀ (k : Nat) (ns : List Nd) (i : Nat), (chl p k ns)[i]? = (ns[i]?).map fun n => (p ++ [((k + i : Nat) : Int)], n)
  | _, [], i => by simp [chl]
  | k, n :: ns, 0 => by simp [chl]
  | k, n :: ns, i + 1 => by
    rw [chl, List.getElem?_cons_succ, List.getElem?_cons_succ, chl_get p (k + 1) ns i]
    simp only [show k + 1 + i = k + (i + 1) by omega]
theorem chl_len (p : Pth) : ∀ (k : Nat) (ns : List Nd), (chl p k ns).length = ns.length
  | _, [] => rfl
  | k, n :: ns => by rw [chl, List.length_cons, chl_len p (k + 1) ns]; rfl
theorem chl_take (p : Pth) (ns : List Nd) (i : Nat) {n : Nd} (h : ns[i]? = some n) : (chl p 0 ns).take (i + 1) = (chl p 0 ns).take i ++ [(p ++ [(i : Int)], n)] := by
  rw [List.take_succ, chl_get, h]
  simp
/-! sizes -/
mutual
def Nd.size : Nd → Nat
  | .mk _ ks => 1 + Nd.sizeL ks
def Nd.sizeL : List Nd → Nat
  | [] => 0
  | k :: ks => Nd.size k + Nd.sizeL ks
end
theorem Nd.size_pos (n : Nd) : 1 ≤ n.size := by cases n; rw [Nd.size]; omega
theorem Nd.size_eq (n : Nd) : n.size = 1 + Nd.sizeL n.ks := by cases n; rw [Nd.size]; rfl
mutual
theorem nodes_len : ∀ (p : Pth) (n : Nd), (Nd.nodes p n).length = n.size
  | p, .mk ps ks => by rw [Nd.nodes, List.length_cons, nodesL_len, Nd.size]; omega
theorem nodesL_len : ∀ (p : Pth) (k : Nat) (ns : List Nd), (Nd.nodesL p k ns).length = Nd.sizeL ns
  | _, _, [] => by rw [Nd.nodesL, Nd.sizeL]; rfl
  | p, k, n :: ns => by rw [Nd.nodesL, List.length_append, nodes_len, nodesL_len, Nd.sizeL]
end
theorem nodesX_len (x : PN) : (nodesX x).length = x.2.size := nodes_len x.1 x.2
/-- the weight of a stack -/
def wt (st : List PN) : Nat := (st.flatMap nodesX).length
theorem wt_app (a b : List PN) : wt (a ++ b) = wt a + wt b := by unfold wt; rw [List.flatMap_append, List.length_append]
theorem wt_one (x : PN) : wt [x] = x.2.size := by unfold wt; simp [nodesX_len]
theorem wt_ch (x : PN) : wt (chX x) + 1 = x.2.size := by
  rw [← nodesX_len, nodesX_eq, List.length_cons]
  rfl
theorem wt_ge (st : List PN) : st.length ≤ wt st := by
  induction st with
  | nil => exact Nat.zero_le _
  | cons x st ih =>
    have : wt (x :: st) = x.2.size + wt st := by rw [show x :: st = [x] ++ st from rfl, wt_app, wt_one]
    have := x.2.size_pos
    rw [List.length_cons]
    omega
/-! the order of paths -/
def pLt : Pth → Pth → Bool
  | [], [] => false
  | [], _ :: _ => true
  | _ :: _, [] => false
  | x :: xs, y :: ys => if x = y then pLt xs ys else decide (x < y)
theorem pLt_app (p a b : Pth) : pLt (p ++ a) (p ++ b) = pLt a b := by
  induction p with
  | nil => rfl
  | cons x p ih => simp [pLt, ih]
theorem pLt_irr : ∀ a, pLt a a = false
  | [] => rfl
  | x :: xs => by simp [pLt, pLt_irr xs]
theorem pLt_anti : ∀ a b, pLt a b = false → pLt b a = false → a = b
  | [], [], _, _ => rfl
  | [], _ :: _, h, _ => by simp [pLt] at h
  | _ :: _, [], _, h => by simp [pLt] at h
  | x :: xs, y :: ys, h1, h2 => by
    unfold pLt at h1 h2
    by_cases e : x = y
    · subst e
      rw [if_pos rfl] at h1 h2
      rw [pLt_anti xs ys h1 h2]
    · rw [if_neg e] at h1
      rw [if_neg (Ne.symm e)] at h2
      simp at h1 h2
      omega
def pth (p : Pth) : D := .tup (p.map D.int)
theorem pth_py (p : Pth) : (pth p).py = .tuple (p.map PyData.int) := by
  unfold pth
  rw [D.py]
  congr 1
  induction p with
  | nil => rfl
  | cons x p ih => rw [List.map_cons, D.pys, ih]; rfl
theorem lexI (x : Int) : PySem.W.dataLt (.int x) (.int x) = false := by rw [PySem.W.dataLt_int]; simp
theorem toks_lt : ∀ a b : Pth, PyProof.Rows.lexLt PyProof.Rows.itemOrd (PySem.W.keyToksAll (a.map PyData.int)) (PySem.W.keyToksAll (b.map PyData.int)) = pLt a b
  | [], [] => by decide
  | [], y :: ys => by
    simp only [List.map_nil, List.map_cons, PySem.W.keyToksAll]
    rfl
  | x :: xs, [] => by
    simp only [List.map_nil, List.map_cons, PySem.W.keyToksAll]
    rfl
  | x :: xs, y :: ys => by
    have al : PySem.W.alike (.int x) (.int y) = true := rfl
    simp only [List.map_cons]
    unfold pLt
    by_cases e : x = y
    · subst e
      rw [PySem.W.dataLt_all_yes al (by simp [PyData.eqv]), toks_lt xs ys, if_pos rfl]
    · rw [PySem.W.dataLt_all_no al (by simp [PyData.eqv, e]), PySem.W.dataLt_int, if_neg e]
theorem lt_pth (a b : Pth) : (pth a).lt (pth b) = pLt a b := by
  unfold D.lt
  rw [pth_py, pth_py, PySem.W.dataLt_tuple, toks_lt]
theorem alikeAll_ints : ∀ a b : Pth, PySem.W.alikeAll (a.map PyData.int) (b.map PyData.int) = true
  | [], _ => by simp [PySem.W.alikeAll]
  | _ :: _, [] => by simp [PySem.W.alikeAll]
  | x :: xs, y :: ys => by simp [PySem.W.alikeAll, PySem.W.alike, alikeAll_ints xs ys]
theorem alike_pth (a b : Pth) : PySem.W.alike (pth a).py (pth b).py = true := by
  rw [pth_py, pth_py]
  simp [PySem.W.alike, alikeAll_ints]
theorem deep_pth (a : Pth) : (pth a).deep ≤ 1 := by
  unfold pth
  rw [deep_tup]
  have : deepL (a.map D.int) = 0 := by
    induction a with
    | nil => rfl
    | cons x a ih => simp [deepL, ih, deep_int]
  omega
theorem sortOk_pth (L : List Pth) : sortOk (L.map pth) = true := by
  unfold sortOk alikeL
  simp only [Bool.and_eq_true, List.all_eq_true, List.mem_map, decide_eq_true_eq]
  refine ⟨⟨?_, ?_⟩, ?_⟩
  · rintro _ ⟨a, _, rfl⟩ _ ⟨b, _, rfl⟩
    exact alike_pth a b
  · rintro _ ⟨a, _, rfl⟩
    have := deep_pth a
    omega
  · rintro _ ⟨a, _, rfl⟩
    rfl
theorem allO_pth (L : List Pth) : allO D.i? (L.map pth) = if L = [] then some [] else none := by
  cases L with
  | nil => rfl
  | cons x L => simp [allO, pth, D.i?]
/-- sorted, of paths: the ascending list of the same paths -/
theorem sort_pth {L P : List Pth} (hp : L.Perm P) (hs : P.Pairwise fun a b => pLt b a = false) : sortD (L.map pth) = P.map pth := by
  have tot := PySem.W.sortLe_total (PyProof.Rows.listOrd PyProof.Rows.itemOrd) false (fun d : D => (PySem.W.keyToks d.py : List (Int ⊕ List Nat)))
  have h1 : (sortD (L.map pth)).Pairwise fun a b => (!(b.lt a)) = true := PySem.W.sort_pairwise tot (L.map pth)
  have h2 : (P.map pth).Pairwise fun a b => (!(b.lt a)) = true := List.pairwise_map.mpr (hs.imp fun h => by rw [lt_pth, h]; rfl)
  have h3 : (sortD (L.map pth)).Perm (P.map pth) := (List.mergeSort_perm _ _).trans (hp.map pth)
  have h4 : ∀ d ∈ sortD (L.map pth), ∃ p, d = pth p := fun d hd => by
    obtain ⟨p, _, e⟩ := List.mem_map.mp (h3.mem_iff.mp hd)
    exact ⟨p, e.symm⟩
  refine h3.eq_of_pairwise (fun a b ha hb h5 h6 => ?_) h1 h2
  obtain ⟨p, rfl⟩ := h4 a ha
  obtain ⟨q, _, rfl⟩ := List.mem_map.mp hb
  rw [lt_pth] at h5 h6
  rw [pLt_anti p q (by simpa using h6) (by simpa using h5)]
/-! what is drawn is in order -/
theorem chl_mem {p : Pth} {x : PN} : ∀ {k : Nat} {ns : List Nd}, x ∈ chl p k ns → ∃ i : Nat, k ≤ i ∧ x.1 = p ++ [(i : Int)] ∧ x.2 ∈ ns
  | _, [], h => nomatch h
  | k, n :: ns, h => by
    rcases List.mem_cons.mp h with rfl | h
    · exact ⟨k, Nat.le_refl _, rfl, List.mem_cons_self ..⟩
    · obtain ⟨i, h1, h2, h3⟩ := chl_mem h
      exact ⟨i, by omega, h2, List.mem_cons_of_mem _ h3⟩
mutual
theorem nodes_pre : ∀ (p : Pth) (n : Nd) (x : PN), x ∈ Nd.nodes p n → ∃ r, x.1 = p ++ r
  | p, .mk ps ks, x, h => by
    rw [Nd.nodes] at h
    rcases List.mem_cons.mp h with rfl | h
    · exact ⟨[], by simp⟩
    · obtain ⟨i, r, _, e⟩ := nodesL_pre p 0 ks x h
      exact ⟨_, e⟩
theorem nodesL_pre : ∀ (p : Pth) (k : Nat) (ns : List Nd) (x : PN), x ∈ Nd.nodesL p k ns → ∃ (i : Nat) (r : Pth), k ≤ i ∧ x.1 = p ++ (i : Int) :: r
  | _, _, [], x, h => by rw [Nd.nodesL] at h; exact nomatch h
  | p, k, n :: ns, x, h => by
    rw [Nd.nodesL] at h
    rcases List.mem_append.mp h with h | h
    · obtain ⟨r, e⟩ := nodes_pre _ n x h
      exact ⟨k, r, Nat.le_refl _, by rw [e]; simp⟩
    · obtain ⟨i, r, h1, e⟩ := nodesL_pre p (k + 1) ns x h
      exact ⟨i, r, by omega, e⟩
end
mutual
theorem nodes_ord : ∀ (p : Pth) (n : Nd), (Nd.nodes p n).Pairwise fun a b => pLt b.1 a.1 = false
  | p, .mk ps ks => by
    rw [Nd.nodes]
    refine List.pairwise_cons.mpr ⟨fun x hx => ?_, nodesL_ord p 0 ks⟩
    obtain ⟨i, r, _, e⟩ := nodesL_pre p 0 ks x hx
    rw [e]
    have := pLt_app p ((i : Int) :: r) []
    rw [List.append_nil] at this
    rw [this]
    rfl
theorem nodesL_ord : ∀ (p : Pth) (k : Nat) (ns : List Nd), (Nd.nodesL p k ns).Pairwise fun a b => pLt b.1 a.1 = false
  | _, _, [] => by rw [Nd.nodesL]; exact List.Pairwise.nil
  | p, k, n :: ns => by
    rw [Nd.nodesL]
    refine List.pairwise_append.mpr ⟨nodes_ord _ n, nodesL_ord p (k + 1) ns, fun x hx y hy => ?_⟩
    obtain ⟨r, e1⟩ := nodes_pre _ n x hx
    obtain ⟨i, r2, h1, e2⟩ := nodesL_pre p (k + 1) ns y hy
    rw [e1, e2, List.append_assoc, pLt_app]
    show pLt ((i : Int) :: r2) ((k : Int) :: r) = false
    unfold pLt
    rw [if_neg (by omega)]
    simp
    omega
end
/-- all paths, ascending -/
def Nd.paths (n : Nd) : List Pth := (n.nodes []).map Prod.fst
theorem sort_paths {n : Nd} {L : List PN} (h : L.Perm (n.nodes [])) : sortD (L.map fun x => pth x.1) = n.paths.map pth := by
  have := sort_pth (L := L.map Prod.fst) (P := n.paths) (h.map Prod.fst) (List.pairwise_map.mpr (nodes_ord [] n))
  rwa [List.map_map] at this
/-- the node at a path -/
def Nd.find : Nd → Pth → Option Nd
  | n, [] => some n
  | n, i :: r => if 0 ≤ i ∧ i < (n.ks.length : Int) then (match n.ks[i.toNat]? with
      | some k => k.find r
      | none => none) else none
mutual
theorem nodes_find : ∀ (p : Pth) (n : Nd) (x : PN), x ∈ Nd.nodes p n → ∃ r, x.1 = p ++ r ∧ n.find r = some x.2
  | p, .mk ps ks, x, h => by
    rw [Nd.nodes] at h
    rcases List.mem_cons.mp h with rfl | h
    · exact ⟨[], by simp, rfl⟩
    · obtain ⟨i, k, r, h1, h2, e, hf⟩ := nodesL_find p 0 ks x h
      refine ⟨(i : Int) :: r, e, ?_⟩
      have hi := (List.getElem?_eq_some_iff.mp h2).1
      rw [Nat.sub_zero] at h2 hi
      unfold Nd.find
      refine (if_pos (show 0 ≤ (i : Int) ∧ (i : Int) < ((Nd.mk ps ks).ks.length : Int) from ⟨by omega, by simp only [Nd.ks]; omega⟩)).trans ?_
      rw [show ((i : Int)).toNat = i by omega, show (Nd.mk ps ks).ks[i]? = some k from h2]
      exact hf
theorem nodesL_find : ∀ (p : Pth) (k : Nat) (ns : List Nd) (x : PN), x ∈ Nd.nodesL p k ns → ∃ (i : Nat) (m : Nd) (r : Pth), k ≤ i ∧ ns[i - k]? = some m ∧ x.1 = p ++ (i : Int) :: r ∧ m.find r = some x.2
  | _, _, [], x, h => by rw [Nd.nodesL] at h; exact nomatch h
  | p, k, n :: ns, x, h => by
    rw [Nd.nodesL] at h
    rcases List.mem_append.mp h with h | h
    · obtain ⟨r, e, hf⟩ := nodes_find _ n x h
      exact ⟨k, n, r, Nat.le_refl _, by simp, by rw [e]; simp, hf⟩
    · obtain ⟨i, m, r, h1, h2, e, hf⟩ := nodesL_find p (k + 1) ns x h
      exact ⟨i, m, r, by omega, by rw [show i - k = (i - (k + 1)) + 1 by omega, List.getElem?_cons_succ]; exact h2, e, hf⟩
end
theorem find_of {n : Nd} {x : PN} (h : x ∈ n.nodes []) : n.find x.1 = some x.2 := by
  obtain ⟨r, e, hf⟩ := nodes_find [] n x h
  rw [e]
  exact hf
/-! levels -/
mutual
def Nd.hgt : Nd → Nat
  | .mk _ ks => 1 + Nd.hgtL ks
def Nd.hgtL : List Nd → Nat
  | [] => 0
  | k :: ks => max (Nd.hgt k) (Nd.hgtL ks)
end
theorem Nd.hgt_eq (n : Nd) : n.hgt = 1 + Nd.hgtL n.ks := by cases n; rw [Nd.hgt]; rfl
theorem Nd.hgt_pos (n : Nd) : 1 ≤ n.hgt := by rw [Nd.hgt_eq]; omega
theorem hgtL_mem : ∀ {ks : List Nd} {k : Nd}, k ∈ ks → k.hgt ≤ Nd.hgtL ks
  | k0 :: ks, k, h => by
    rw [Nd.hgtL]
    rcases List.mem_cons.mp h with rfl | h
    · omega
    · have := hgtL_mem h
      omega
theorem ch_hgt {x y : PN} (h : y ∈ chX x) : y.2.hgt + 1 ≤ x.2.hgt := by
  obtain ⟨i, _, _, hm⟩ := chl_mem h
  have := hgtL_mem hm
  rw [Nd.hgt_eq x.2]
  omega
end Rf
/-! Hm: markets: the program's looks at them. -/
namespace Rf
open PySem
local macro_rules | `(tactic| walk_at "vc") => `(tactic| first
  | (with_reducible refine' S_seq ?_)
  | ((with_reducible refine' o_lv_im ?e ?h); (case e => rfl))
  | (with_reducible refine' o_cst ?_)
  | ((with_reducible refine' wo_lv ?e ?h); (case e => rfl))
  | (with_reducible refine' wd_im ?_)
  | (with_reducible refine' wd_mu ?_)
  | ((with_reducible refine' o_var_im ?e ?h); (case e => rfl))
  | (with_reducible refine' o_bin ?_)
  | (with_reducible refine' o_cmp ?_)
  | (with_reducible refine' o_idx ?_)
  | ((with_reducible refine' o_lv_mu ?e ?h); (case e => rfl))
  | (with_reducible refine' o_cons ?_)
  | (with_reducible refine' o_nil ?_)
  | (with_reducible refine' mu_of ?_)
  | (with_reducible refine' nx_nx ?_)
  | (with_reducible refine' nx_rt ?_)
  | (with_reducible refine' nx_bk ?_)
  | (with_reducible refine' nx_ct ?_)
  | (with_reducible refine' tb_t ?_)
  | (with_reducible refine' tb_f ?_)
  | ((with_reducible refine' tb_yes ?e ?h); (case e => first | assumption | decide +kernel))
  | ((with_reducible refine' tb_no ?e ?h); (case e => first | assumption | decide +kernel))
  | ((with_reducible refine' tb_dec ?_ ?_) <;> intro hc <;> try (first | contradiction | (exfalso; omega)))
  | ((with_reducible refine' tb_ndec ?_ ?_) <;> intro hc <;> try (first | contradiction | (exfalso; omega)))
  | (with_reducible refine' S_asg ?_)
  | (with_reducible refine' S_cond ?_)
  | (with_reducible refine' S_ret ?_)
  | (with_reducible refine' S_skip ?_)
  | ((with_reducible refine' isA_of ?e ?h); (case e => rfl))
  | ((with_reducible refine' isB'_of ?e ?h); (case e => with_reducible assumption))
  | (with_reducible refine' isB'_eq_ii ?_)
  | (with_reducible refine' isB'_eq_bb ?_)
  | (with_reducible refine' isB'_ne_bb ?_)
  | (with_reducible refine' isB'_ne_ii ?_)
  | (with_reducible refine' isB'_eq_ss ?_)
  | (with_reducible refine' isB'_ne_ss ?_)
  | ((with_reducible refine' isO_mod ?e ?h); (case e => first | omega | assumption))
  | ((with_reducible refine' isO_fdv ?e ?h); (case e => first | decide | assumption))
  | ((with_reducible refine' isO_mul ?e ?h); (case e => first | decide | assumption))
  | ((with_reducible refine' isO_of ?e ?h); (case e => rfl))
  | ((with_reducible refine' hasMu_of ?e ?h); (case e => rfl))
  | (with_reducible refine' isInt_of ?_)
  | ((with_reducible refine' isN_of ?e ?h); (case e => rfl))
  | (with_reducible refine' isD_t0 ?_)
  | (with_reducible refine' isD_t1 ?_)
  | (with_reducible refine' isD_t2 ?_)
  | (with_reducible refine' isD_l0 ?_)
  | (with_reducible refine' isD_l1 ?_)
  | ((with_reducible refine' isD_of ?e ?h); (case e => rfl))
  | ((with_reducible refine' isB'_of (k := false) ?e ?h); (case e => decide +kernel))
  | ((with_reducible refine' isB'_of (k := true) ?e ?h); (case e => decide +kernel))
  | ((with_reducible refine' isB'_of ?e ?h); (case e => rfl))
  | (with_reducible refine' o_tup ?_)
  | (with_reducible refine' o_lst ?_)
  | ((with_reducible refine' sz_of ?e ?h); (case e => exact Nat.le_of_ble_eq_true rfl))
  | (with_reducible refine' o_b1 ?_)
  | (with_reducible refine' o_b2 ?_)
  | (with_reducible refine' o_an ?_)
  | (with_reducible refine' o_orr ?_)
  | (with_reducible refine' o_nt ?_)
  | (with_reducible refine' o_tr ?_)
  | (with_reducible refine' o_ite ?_)
  | (with_reducible refine' o_slc ?_)
  | (with_reducible refine' bd_non ?_)
  | (with_reducible refine' bd_int ?_)
  | ((with_reducible refine' o_var_mu ?e ?h); (case e => rfl))
  | (with_reducible refine' o_glo ?_)
  | ((with_reducible refine' S_rtv_im ?e ?h); (case e => rfl))
  | ((with_reducible refine' S_rtv_mu ?e ?h); (case e => rfl))
  | (with_reducible refine' S_rtn ?_)
  | (with_reducible refine' S_brk ?_)
  | (with_reducible refine' S_cnt ?_)
  | (with_reducible refine' S_exp ?_)
  | ((with_reducible refine' S_app ?e ?h); (case e => rfl))
  | ((with_reducible refine' S_aug ?e ?h); (case e => rfl))
  | (with_reducible refine' isI_of ?_)
  | (with_reducible refine' S_par ?_)
  | (with_reducible refine' S_six ?_)
  | (with_reducible refine' S_for ?_)
  | (with_reducible refine' S_whl ?_)
  | (with_reducible refine' o_rng1 ?_)
  | (with_reducible refine' o_rng2 ?_)
  | (with_reducible refine' o_comp ?_)
  | (with_reducible refine' o_call ?_)
  | ((with_reducible refine' o_cio ?e ?h); (case e => rfl))
  | (with_reducible refine' o_neg ?_)
  | (with_reducible refine' o_rep ?_)
  | (with_reducible refine' o_chn ?_)
  | (with_reducible refine' it_mu ?_)
  | (with_reducible refine' it_tp ?_)
  | (with_reducible refine' it_ls ?_)
  | ((with_reducible refine' wo_o ?e ?h); (case e => exact fun _ z => nomatch z)))

def nodesOfB : IS :=
  (.seq (.asg (.nm 1) (.lst .nil))
  (.seq (.asg (.nm 2) (.lst (.cons (.tup (.cons (.tup .nil) (.cons (.idx (.lv 0) (.cst (.int 1))) .nil))) .nil)))
  (.seq (.whl (.cmp .gt (.b1 .len (.lv 2)) (.cst (.int 0))) (.seq (.asg (.cs (.nm 3) (.cs (.nm 4) .nl)) (.pop 2))
  (.seq (.app 1 (.tup (.cons (.var 3) (.cons (.var 4) .nil))))
  (.fr (.nm 5) (.rng1 (.b1 .len (.idx (.lv 4) (.cst (.int 1))))) (.app 2 (.tup (.cons (.bin .add (.lv 3) (.tup (.cons (.var 5) .nil))) (.cons (.idx (.idx (.lv 4) (.cst (.int 1))) (.lv 5)) .nil))))))))
  (.rtv 1))))

def rightPricesB (cm : Nat) : IS :=
  (.seq (.cond (.cmp .ne (.b1 .len (.lv 1)) (.bin .sub (.lv 0) (.cst (.int 1)))) (.ret (.cst (.bl false))) .skip)
  (.ret (.b1 .all (.comp [2, 3, 4] (.cs (.nm 3) (.cs (.nm 4) .nl)) (.var 1) (.cst (.bl true)) (.an (.cmp .ge (.idx (.lv 4) (.cst (.int 0))) (.cst (.int 0))) (.cmp .le (.call cm (.cons (.var 4) (.cons (.var 3) .nil))) (.cst (.int 0))))))))

def checkB (no rp x1 x2 : Nat) : IS :=
  (.seq (.asg (.nm 1) (.idx (.lv 0) (.cst (.int 0))))
  (.seq (.cond (.orr (.cmp .lt (.lv 1) (.cst (.int 1))) (.cmp .gt (.lv 1) (.glo (.int 4)))) (.rse x1) .skip)
  (.seq (.asg (.nm 2) (.call no (.cons (.var 0) .nil)))
  (.seq (.asg (.nm 3) (.comp [4, 5, 6] (.cs (.nm 5) (.cs (.nm 6) .nl)) (.var 2) (.cmp .eq (.b1 .len (.idx (.lv 6) (.cst (.int 1)))) (.cst (.int 0))) (.b1 .len (.lv 5))))
  (.seq (.cond (.orr (.nt (.tr (.b1 .all (.comp [4, 5, 6] (.cs (.nm 5) (.cs (.nm 6) .nl)) (.var 2) (.cst (.bl true)) (.call rp (.cons (.var 1) (.cons (.idx (.lv 6) (.cst (.int 0))) .nil))))))) (.cmp .ne (.b1 .min (.lv 3)) (.b1 .max (.lv 3)))) (.rse x1) .skip)
  (.cond (.orr (.cmp .gt (.b1 .len (.lv 2)) (.glo (.int 40))) (.cmp .gt (.b1 .max (.lv 3)) (.glo (.int 5)))) (.rse x2) .skip))))))

def pathListB (no : Nat) : IS :=
  (.ret (.b1 .sorted (.comp [1, 2, 3] (.cs (.nm 2) (.cs (.nm 3) .nl)) (.call no (.cons (.var 0) .nil)) (.cst (.bl true)) (.var 2))))

def endListB (no : Nat) : IS :=
  (.ret (.b1 .sorted (.comp [1, 2, 3] (.cs (.nm 2) (.cs (.nm 3) .nl)) (.call no (.cons (.var 0) .nil)) (.cmp .eq (.b1 .len (.idx (.lv 3) (.cst (.int 1)))) (.cst (.int 0))) (.var 2))))

def nodeAtB (x3 : Nat) : IS :=
  (.seq (.asg (.nm 2) (.idx (.lv 0) (.cst (.int 1))))
  (.seq (.fr (.nm 3) (.var 1) (.seq (.cond (.orr (.cmp .lt (.lv 3) (.cst (.int 0))) (.cmp .ge (.lv 3) (.b1 .len (.idx (.lv 2) (.cst (.int 1)))))) (.rse x3) .skip)
  (.asg (.nm 2) (.idx (.idx (.lv 2) (.cst (.int 1))) (.lv 3)))))
  (.rtv 2)))

def pricesOfB (na : Nat) : IS :=
  (.ret (.bin .add (.tup (.cons (.tup (.cons (.glo (.tup [(.int 1), (.int 1)])) (.cons (.glo (.tup [(.int 1), (.int 1)])) .nil))) .nil)) (.idx (.call na (.cons (.var 0) (.cons (.var 1) .nil))) (.cst (.int 0)))))

def lawNodesB (fi : Nat) : IS :=
  (.seq (.asg (.nm 1) (.lst .nil))
  (.seq (.asg (.nm 2) (.lst (.cons (.tup (.cons (.tup .nil) (.cons (.idx (.lv 0) (.cst (.int 1))) .nil))) .nil)))
  (.seq (.fr (.nm 3) (.rng1 (.cst (.int 7))) (.seq (.asg (.nm 1) (.bin .add (.lv 1) (.lv 2)))
  (.seq (.asg (.nm 4) (.lst .nil))
  (.seq (.fr (.cs (.nm 5) (.cs (.nm 6) .nl)) (.var 2) (.asg (.nm 4) (.bin .add (.lv 4) (.comp [7, 8] (.nm 8) (.rng1 (.b1 .len (.idx (.lv 6) (.cst (.int 1))))) (.cst (.bl true)) (.tup (.cons (.bin .add (.lv 5) (.tup (.cons (.var 8) .nil))) (.cons (.idx (.idx (.lv 6) (.cst (.int 1))) (.lv 8)) .nil)))))))
  (.asg (.nm 2) (.var 4))))))
  (.ret (.comp [7, 5] (.nm 5) (.b1 .sorted (.comp [7, 9] (.nm 9) (.var 1) (.cst (.bl true)) (.idx (.lv 9) (.cst (.int 0))))) (.cst (.bl true)) (.tup (.cons (.var 5) (.cons (.call fi (.cons (.var 0) (.cons (.var 5) .nil))) .nil))))))))

def lawFindB : IS :=
  (.seq (.asg (.nm 2) (.idx (.lv 0) (.cst (.int 1))))
  (.seq (.fr (.nm 3) (.var 1) (.seq (.cond (.orr (.cmp .lt (.lv 3) (.cst (.int 0))) (.cmp .ge (.lv 3) (.b1 .len (.idx (.lv 2) (.cst (.int 1)))))) (.ret (.cst .non)) .skip)
  (.asg (.nm 2) (.idx (.idx (.lv 2) (.cst (.int 1))) (.lv 3)))))
  (.rtv 2)))

def lawPricesB (fi : Nat) : IS :=
  (.ret (.bin .add (.tup (.cons (.tup (.cons (.tup (.cons (.cst (.int 1)) (.cons (.cst (.int 1)) .nil))) (.cons (.tup (.cons (.cst (.int 1)) (.cons (.cst (.int 1)) .nil))) .nil))) .nil)) (.idx (.call fi (.cons (.var 0) (.cons (.var 1) .nil))) (.cst (.int 0)))))

def lawEndsB (ln : Nat) : IS :=
  (.ret (.comp [1, 2, 3] (.cs (.nm 2) (.cs (.nm 3) .nl)) (.call ln (.cons (.var 0) .nil)) (.cmp .eq (.b1 .len (.idx (.lv 3) (.cst (.int 1)))) (.cst (.int 0))) (.var 2)))

/-- a pair of path and node -/
def pn (x : PN) : D := .tup [pth x.1, x.2.d]
/-- a market -/
def mkt (g : Int) (n : Nd) : D := .tup [.int g, n.d]
theorem sz_le {n m : Nat} (h : n ≤ m) (hm : m ≤ 1000000 := by decide) : n ≤ sizeLine := Nat.le_trans h (Nat.le_trans hm (by decide))
theorem sz_lt {n m : Nat} (h : n ≤ m) (hm : m ≤ 1000000 := by decide) : n < sizeLine := Nat.lt_of_le_of_lt (Nat.le_trans h hm) (by decide)
section
variable {F : Nat} {sb : Sub} {prog : List FnI} {k no rp cm ck : Nat}
theorem nodes_s (hF : 1000000 < F) (h : prog[no]? = some ⟨1, 6, false, nodesOfB⟩) {g : Int} {n : Nd} (hz : n.size ≤ 10000) (hh : n.hgt ≤ 1000) :
    FrP (callK F sb prog (k + 1) no [.im (mkt g n)]) fun s _ => ∃ L : List PN, s = .mu (L.map pn) ∧ L.Perm (n.nodes []) := by
  refine frp_fn h rfl ?_
  unfold nodesOfB mkt
  repeat' walk_at "vc"
  refine whl_inv (fun m σ => ∃ (fo st : List PN) (a3 a4 a5 : Sl), σ = [.im (.tup [.int g, n.d]), .mu (fo.map pn), .mu (st.map pn), a3, a4, a5] ∧ m = wt st ∧ (fo ++ st.flatMap nodesX).Perm (n.nodes []) ∧ ∀ x ∈ st, x.1.length + x.2.hgt ≤ n.hgt) (m := wt [(([] : Pth), n)]) ?_ ?_ (by rw [wt_one]; show n.size < F; omega)
  · refine ⟨[], [([], n)], _, _, _, rfl, rfl, ?_, ?_⟩
    · simp [nodesX]
    · intro x hx
      rw [List.mem_singleton.mp hx]
      simp
  · rintro m σ ⟨fo, st, a3, a4, a5, rfl, rfl, hp, hl⟩
    have hlen : fo.length + wt st = n.size := by
      have := hp.length_eq
      rw [List.length_append, nodes_len] at this
      exact this
    have hst := wt_ge st
    repeat' walk_at "vc"
    · rename_i hpos
      rw [List.length_map] at hpos
      rcases List.eq_nil_or_concat st with rfl | ⟨st, x, rfl⟩
      · simp at hpos
      · simp only [List.concat_eq_append] at *
        refine o_pop (ds := st.map pn) (d := pn x) (by rw [List.map_append]; rfl) ?_
        unfold pn
        repeat' walk_at "vc"
        refine ⟨?_, ?_⟩
        · rw [List.length_map]
          rw [wt_app, wt_one] at hlen
          have := x.2.size_pos
          exact sz_lt (m := 10000) (by omega)
        · rw [Nd.d_eq x.2]
          repeat' walk_at "vc"
          refine ⟨rngIn_of (by omega) ?_, ?_⟩
          · rw [List.length_map]
            have hc := wt_ge (chX x)
            have := wt_ch x
            unfold chX at hc
            rw [chl_len] at hc
            rw [wt_app, wt_one] at hlen
            unfold chX at this
            omega
          · repeat' walk_at "vc"
            rw [show (rngL 0 (((x.2.ks.map Nd.d).length : Nat) : Int)) = (rngL 0 ((x.2.ks.length : Nat) : Int)) by rw [List.length_map]]
            refine for_inv (fun i σ => ∃ a5 : Sl, σ = [.im (.tup [.int g, n.d]), .mu ((fo ++ [x]).map pn), .mu ((st ++ (chX x).take i).map pn), .im (pth x.1), .im (.tup [.tup (x.2.ps.map Pq.d), .tup (x.2.ks.map Nd.d)]), a5]) ⟨a5, ?_⟩ ?_ ?_
            · have e1 : (fo ++ [x]).map pn = fo.map pn ++ [.tup [pth x.1, .tup [.tup (x.2.ps.map Pq.d), .tup (x.2.ks.map Nd.d)]]] := by
                rw [List.map_append, ← Nd.d_eq]
                rfl
              rw [List.take_zero, List.append_nil, e1]
              rfl
            · rintro i d σ hi ⟨a5, rfl⟩
              obtain ⟨rfl, hi2⟩ := rng_get hi
              have hi3 : i < x.2.ks.length := by omega
              refine ⟨_, rfl, ?_⟩
              unfold pth
              have hx := hl x (by simp)
              have hc : (chX x).length = x.2.ks.length := chl_len _ _ _
              repeat' walk_at "vc"
              refine isO_tup (by rw [List.length_map]; exact sz_le (m := 1001) (by simp; omega)) ?_
              repeat' walk_at "vc"
              refine isD_atT (by omega) (d := (x.2.ks[i]).d) (by rw [show ((0 : Int) + (i : Int)).toNat = i by omega, List.getElem?_map, List.getElem?_eq_getElem hi3]; rfl) ?_
              repeat' walk_at "vc"
              refine ⟨?_, ?_⟩
              · rw [List.length_map, List.length_append, List.length_take]
                rw [wt_app, wt_one] at hlen
                have := wt_ch x
                have := wt_ge (chX x)
                have := wt_ge st
                exact sz_lt (m := 10000) (by omega)
              · repeat' walk_at "vc"
                refine ⟨.im (.int (0 + (i : Int))), ?_⟩
                have e := chl_take x.1 x.2.ks i (List.getElem?_eq_getElem hi3)
                have e2 : ((st ++ (chX x).take (i + 1)).map pn) = ((st ++ (chX x).take i).map pn) ++ [pn (x.1 ++ [(i : Int)], x.2.ks[i])] := by
                  unfold chX
                  rw [e, ← List.append_assoc, List.map_append]
                  rfl
                rw [e2]
                have e3 : pn (x.1 ++ [(i : Int)], x.2.ks[i]) = .tup [.tup (x.1.map D.int ++ [.int (0 + (i : Int))]), (x.2.ks[i]).d] := by
                  unfold pn pth
                  rw [List.map_append, Int.zero_add]
                  rfl
                rw [e3]
                rfl
            · rintro σ ⟨a5, rfl⟩
              rw [rng_len, show (((x.2.ks.length : Nat) : Int) - 0).toNat = x.2.ks.length by omega, List.take_of_length_le (by unfold chX; rw [chl_len]; exact Nat.le_refl _)]
              repeat' walk_at "vc"
              refine ⟨wt (st ++ chX x), ?_, fo ++ [x], st ++ chX x, _, _, _, rfl, rfl, ?_, ?_⟩
              · rw [wt_app, wt_app, wt_one]
                have := wt_ch x
                omega
              · rw [List.flatMap_append] at hp ⊢
                refine List.Perm.trans ?_ hp
                rw [List.append_assoc]
                refine List.Perm.append_left _ ?_
                have e1 : [x].flatMap nodesX = x :: (chX x).flatMap nodesX := by simp [nodesX_eq x]
                rw [e1]
                show (x :: (st.flatMap nodesX ++ (chX x).flatMap nodesX)).Perm _
                exact List.perm_middle.symm
              · intro y hy
                rcases List.mem_append.mp hy with hy | hy
                · exact hl y (by simp [hy])
                · have h1 := ch_hgt hy
                  have h2 := hl x (by simp)
                  obtain ⟨i, _, e, _⟩ := chl_mem hy
                  rw [e, List.length_append]
                  simp only [List.length_cons, List.length_nil]
                  omega
    · rename_i hpos
      rw [List.length_map] at hpos
      have : st = [] := List.eq_nil_of_length_eq_zero (by omega)
      subst this
      exact ⟨fo, rfl, by simpa using hp⟩
/-! prices -/
def PqB (p : Pq) : Prop := Bd 1000 p.bn ∧ Bd 1000 p.bd ∧ Bd 1000 p.sn ∧ Bd 1000 p.sd
def Pq.ok (p : Pq) : Bool := decide (0 ≤ p.sn) && decide (p.sn * p.bd ≤ p.bn * p.sd)
def prOk (g : Int) (ps : List Pq) : Bool := decide ((ps.length : Int) = g - 1) && ps.all Pq.ok
theorem right_prices_s (hc : prog[cm]? = some ⟨2, 4, false, compareB⟩) (h : prog[rp]? = some ⟨2, 5, false, rightPricesB cm⟩) {g : Int} {ps : List Pq} (hb : ∀ p ∈ ps, PqB p) (hl : ps.length ≤ 10000) :
    FrP (callK F sb prog (k + 2) rp [.im (.int g), .im (.tup (ps.map Pq.d))]) fun s _ => s = .im (.bl (prOk g ps)) := by
  refine frp_fn h rfl ?_
  unfold rightPricesB prOk
  have el : (((ps.map Pq.d).length : Nat) : Int) = (ps.length : Int) := by rw [List.length_map]
  by_cases e0 : (ps.length : Int) = g - 1
  · have e1 : (((ps.map Pq.d).length : Nat) : Int) = g - 1 := by rw [el]; exact e0
    repeat' walk_at "vc"
    refine comp_map Pq.d (fun p => .bl p.ok) ps (fun p hp => ⟨_, rfl, o_cst (tb_t ?_)⟩) ?_
    · obtain ⟨b1, b2, b3, b4⟩ := hb p hp
      unfold Pq.ok
      repeat' walk_at "vc"
      · refine (compare_fn (n := 1000) (m := 1000) hc (⟨rfl, b3, b4⟩ : Nq 1000 (.tup [.int p.sn, .int p.sd]) p.sn p.sd) (⟨rfl, b1, b2⟩ : Nq 1000 (.tup [.int p.bn, .int p.bd]) p.bn p.bd)).imp fun s _ e => ?_
        subst e
        repeat' walk_at "vc"
        refine ⟨?_, rfl⟩
        have h0 := ‹0 ≤ p.sn›
        simp [cmpZ_le, h0]
      · refine ⟨?_, rfl⟩
        have h0 := ‹¬ 0 ≤ p.sn›
        simp [h0]
    · refine ⟨by rw [List.length_map]; exact sz_le hl, ?_⟩
      repeat' walk_at "vc"
      refine isO_all _ _ ?_
      repeat' walk_at "vc"
      show Sl.im _ = Sl.im _
      simp [e0]
  · have e1 : ¬ (((ps.map Pq.d).length : Nat) : Int) = g - 1 := by rw [el]; exact e0
    repeat' walk_at "vc"
    show Sl.im _ = Sl.im _
    simp [e0]
/-! is a market right -/
def leafB (x : PN) : Bool := decide ((x.2.ks.length : Int) = 0)
def leaves (n : Nd) : List PN := (n.nodes []).filter leafB
def BadM (g : Int) (n : Nd) : Prop := (∃ x ∈ n.nodes [], prOk g x.2.ps = false) ∨ ∃ x ∈ leaves n, ∃ y ∈ leaves n, x.1.length ≠ y.1.length
def BigM (n : Nd) : Prop := 40 < n.size ∨ ∃ x ∈ leaves n, 5 < x.1.length
/-- a market that can be looked at -/
structure Mk (n : Nd) : Prop where
  sz : n.size ≤ 10000
  hg : n.hgt ≤ 1000
  pq : ∀ x ∈ n.nodes [], (∀ p ∈ x.2.ps, PqB p) ∧ x.2.ps.length ≤ 10000
mutual
theorem has_leaf : ∀ (p : Pth) (n : Nd), ∃ x ∈ Nd.nodes p n, leafB x = true
  | p, .mk ps [] => ⟨(p, .mk ps []), by rw [Nd.nodes]; exact List.mem_cons_self .., rfl⟩
  | p, .mk ps (k :: ks) => by
    obtain ⟨x, h1, h2⟩ := has_leaf (p ++ [((0 : Nat) : Int)]) k
    refine ⟨x, ?_, h2⟩
    rw [Nd.nodes, Nd.nodesL]
    exact List.mem_cons_of_mem _ (List.mem_append_left _ h1)
end
/-- least and greatest are one -/
theorem minmax_iff (a : Int) (r : List Int) : minI a r = maxI a r ↔ ∀ x ∈ a :: r, ∀ y ∈ a :: r, x = y := by
  obtain ⟨h1, h2, h3⟩ := minI_le r a
  obtain ⟨g1, g2, g3⟩ := maxI_le r a
  constructor
  · intro e x hx y hy
    have lo : ∀ z ∈ a :: r, minI a r ≤ z ∧ z ≤ maxI a r := fun z hz => by
      rcases List.mem_cons.mp hz with rfl | hz
      · exact ⟨h1, g1⟩
      · exact ⟨h2 z hz, g2 z hz⟩
    have := lo x hx
    have := lo y hy
    omega
  · intro h
    refine h _ ?_ _ ?_
    · rcases h3 with e | e
      · rw [e]; exact List.mem_cons_self ..
      · exact List.mem_cons_of_mem _ e
    · rcases g3 with e | e
      · rw [e]; exact List.mem_cons_self ..
      · exact List.mem_cons_of_mem _ e
theorem max_gt (a : Int) (r : List Int) (b : Int) : b < maxI a r ↔ ∃ x ∈ a :: r, b < x := by
  obtain ⟨g1, g2, g3⟩ := maxI_le r a
  constructor
  · intro h
    rcases g3 with e | e
    · exact ⟨a, List.mem_cons_self .., by omega⟩
    · exact ⟨_, List.mem_cons_of_mem _ e, h⟩
  · rintro ⟨x, hx, h⟩
    rcases List.mem_cons.mp hx with rfl | hx
    · omega
    · have := g2 x hx
      omega
/-- the nodes in any order, their leaves' times, what is told of them -/
theorem look_of {g : Int} {n : Nd} {L : List PN} (hp : L.Perm (n.nodes [])) : ∃ x r, L.filter leafB = x :: r ∧
    ((L.all fun x => prOk g x.2.ps) = false ∨ ¬ minI (x.1.length : Int) (r.map fun x => (x.1.length : Int)) = maxI (x.1.length : Int) (r.map fun x => (x.1.length : Int)) ↔ BadM g n) ∧
    (40 < (L.length : Int) ∨ 5 < maxI (x.1.length : Int) (r.map fun x => (x.1.length : Int)) ↔ BigM n) := by
  have hf : (L.filter leafB).Perm (leaves n) := hp.filter _
  obtain ⟨x0, h1, h2⟩ := has_leaf [] n
  have hm : x0 ∈ L.filter leafB := List.mem_filter.mpr ⟨hp.mem_iff.mpr h1, h2⟩
  cases e : L.filter leafB with
  | nil => rw [e] at hm; exact nomatch hm
  | cons x r =>
    rw [e] at hf
    have mem : ∀ y, y ∈ x :: r ↔ y ∈ leaves n := fun y => hf.mem_iff
    refine ⟨x, r, rfl, ?_, ?_⟩
    · have e1 : (L.all fun x => prOk g x.2.ps) = false ↔ ∃ x ∈ n.nodes [], prOk g x.2.ps = false := by
        rw [List.all_eq_false]
        constructor
        · rintro ⟨y, hy, h⟩
          exact ⟨y, hp.mem_iff.mp hy, by simpa using h⟩
        · rintro ⟨y, hy, h⟩
          exact ⟨y, hp.mem_iff.mpr hy, by rw [h]; decide⟩
      rw [e1, minmax_iff]
      unfold BadM
      refine or_congr Iff.rfl ?_
      constructor
      · intro h
        refine Classical.byContradiction fun hn => h ?_
        intro a ha b hb
        rw [← List.map_cons (f := fun x : PN => (x.1.length : Int)), List.mem_map] at ha hb
        obtain ⟨y, hy, rfl⟩ := ha
        obtain ⟨z, hz, rfl⟩ := hb
        refine Classical.byContradiction fun hne => hn ⟨y, (mem y).mp hy, z, (mem z).mp hz, ?_⟩
        omega
      · rintro ⟨y, hy, z, hz, hne⟩ h
        have h1 := h (y.1.length : Int) (by rw [← List.map_cons (f := fun x : PN => (x.1.length : Int))]; exact List.mem_map_of_mem ((mem y).mpr hy)) (z.1.length : Int) (by rw [← List.map_cons (f := fun x : PN => (x.1.length : Int))]; exact List.mem_map_of_mem ((mem z).mpr hz))
        omega
    · rw [max_gt]
      unfold BigM
      have el : L.length = n.size := by rw [hp.length_eq, nodes_len]
      rw [el]
      refine or_congr (by omega) ?_
      constructor
      · rintro ⟨a, ha, h⟩
        rw [← List.map_cons (f := fun x : PN => (x.1.length : Int)), List.mem_map] at ha
        obtain ⟨y, hy, rfl⟩ := ha
        exact ⟨y, (mem y).mp hy, by omega⟩
      · rintro ⟨y, hy, h⟩
        exact ⟨_, by rw [← List.map_cons (f := fun x : PN => (x.1.length : Int))]; exact List.mem_map_of_mem ((mem y).mpr hy), by omega⟩
def timesE : IE := (.comp [4, 5, 6] (.cs (.nm 5) (.cs (.nm 6) .nl)) (.var 2) (.cmp .eq (.b1 .len (.idx (.lv 6) (.cst (.int 1)))) (.cst (.int 0))) (.b1 .len (.lv 5)))
def badE (rp : Nat) : IE := (.orr (.nt (.tr (.b1 .all (.comp [4, 5, 6] (.cs (.nm 5) (.cs (.nm 6) .nl)) (.var 2) (.cst (.bl true)) (.call rp (.cons (.var 1) (.cons (.idx (.lv 6) (.cst (.int 0))) .nil))))))) (.cmp .ne (.b1 .min (.lv 3)) (.b1 .max (.lv 3))))
def bigE : IE := (.orr (.cmp .gt (.b1 .len (.lv 2)) (.glo (.int 40))) (.cmp .gt (.b1 .max (.lv 3)) (.glo (.int 5))))
theorem checkB_eq (no rp x1 x2 : Nat) : checkB no rp x1 x2 = (.seq (.asg (.nm 1) (.idx (.lv 0) (.cst (.int 0))))
  (.seq (.cond (.orr (.cmp .lt (.lv 1) (.cst (.int 1))) (.cmp .gt (.lv 1) (.glo (.int 4)))) (.rse x1) .skip)
  (.seq (.asg (.nm 2) (.call no (.cons (.var 0) .nil)))
  (.seq (.asg (.nm 3) timesE)
  (.seq (.cond (badE rp) (.rse x1) .skip)
  (.cond bigE (.rse x2) .skip)))))) := rfl
def tmD (x : PN) (r : List PN) : List D := .int (x.1.length : Int) :: r.map fun x => .int (x.1.length : Int)
section
variable {W : Nat} {cf : Nat → List Sl → FR} {g : Int} {n : Nd} {L r : List PN} {x : PN} {q0 q2 a4 a5 a6 : Sl}
theorem times_s (e : L.filter leafB = x :: r) (hz : L.length ≤ 10000) : OkP (evE sb cf timesE [q0, .im (.int g), .mu (L.map pn), .un, a4, a5, a6]) fun s σ => s = .mu (tmD x r) ∧ σ = [q0, .im (.int g), .im (.lst (L.map pn)), .un, a4, a5, a6] := by
  unfold timesE
  repeat' walk_at "vc"
  refine comp_mapF pn (fun x => .int (x.1.length : Int)) leafB L (fun y hy => ⟨_, rfl, ?_⟩) ?_
  · unfold leafB
    have el : (((y.2.ks.map Nd.d).length : Nat) : Int) = (y.2.ks.length : Int) := by rw [List.length_map]
    by_cases h0 : (y.2.ks.length : Int) = 0
    · have h1 : (((y.2.ks.map Nd.d).length : Nat) : Int) = 0 := by rw [el]; exact h0
      rw [Nd.d_eq y.2]
      unfold pth
      repeat' walk_at "vc"
      refine ⟨by simp [h0], ?_⟩
      repeat' walk_at "vc"
      exact ⟨by simp, rfl⟩
    · have h1 : ¬ (((y.2.ks.map Nd.d).length : Nat) : Int) = 0 := by rw [el]; exact h0
      rw [Nd.d_eq y.2]
      repeat' walk_at "vc"
      exact ⟨decide_eq_false h0, rfl⟩
  · rw [e]
    refine ⟨by rw [List.length_map, ← e]; exact sz_le (Nat.le_trans (List.length_filter_le _ _) hz), rfl, rfl⟩
theorem bad_s (hr : ∀ y ∈ L, FrP (cf rp [.im (.int g), .im (.tup (y.2.ps.map Pq.d))]) fun s _ => s = .im (.bl (prOk g y.2.ps))) (hz : L.length ≤ 10000) :
    OkP (evE sb cf (badE rp) [q0, .im (.int g), .im (.lst (L.map pn)), .mu (tmD x r), a4, a5, a6]) fun s σ =>
      σ = [q0, .im (.int g), .im (.lst (L.map pn)), .mu (tmD x r), a4, a5, a6] ∧ ∃ b, s = .im (.bl b) ∧ (b = true ↔ (L.all fun x => prOk g x.2.ps) = false ∨ ¬ minI (x.1.length : Int) (r.map fun x => (x.1.length : Int)) = maxI (x.1.length : Int) (r.map fun x => (x.1.length : Int))) := by
  unfold badE
  repeat' walk_at "vc"
  refine comp_map pn (fun y => .bl (prOk g y.2.ps)) L (fun y hy => ⟨_, rfl, o_cst (tb_t ?_)⟩) ?_
  · rw [Nd.d_eq y.2]
    repeat' walk_at "vc"
    refine (hr y hy).imp fun s _ e => ?_
    subst e
    exact ⟨rfl, by rw [← Nd.d_eq y.2]; rfl⟩
  · refine ⟨by rw [List.length_map]; exact sz_le hz, ?_⟩
    repeat' walk_at "vc"
    refine isO_all _ _ ?_
    cases ha : (L.all fun y => prOk g y.2.ps)
    · repeat' walk_at "vc"
      exact ⟨rfl, _, rfl, by simp⟩
    · repeat' walk_at "vc"
      refine isO_min _ _ _ ?_
      repeat' walk_at "vc"
      refine isO_max _ _ _ ?_
      repeat' walk_at "vc"
      exact ⟨rfl, _, rfl, by simp⟩
theorem big_s : OkP (evE sb cf bigE [q0, .im (.int g), .im (.lst (L.map pn)), .mu (tmD x r), a4, a5, a6]) fun s σ =>
      σ = [q0, .im (.int g), .im (.lst (L.map pn)), .mu (tmD x r), a4, a5, a6] ∧ ∃ b, s = .im (.bl b) ∧ (b = true ↔ 40 < (L.length : Int) ∨ 5 < maxI (x.1.length : Int) (r.map fun x => (x.1.length : Int))) := by
  unfold bigE
  have el : (((L.map pn).length : Nat) : Int) = (L.length : Int) := by rw [List.length_map]
  repeat' walk_at "vc"
  · have h0 := ‹40 < (((L.map pn).length : Nat) : Int)›
    rw [el] at h0
    exact ⟨rfl, _, rfl, by simp; omega⟩
  · have h0 := ‹¬ 40 < (((L.map pn).length : Nat) : Int)›
    rw [el] at h0
    refine isO_max _ _ _ ?_
    repeat' walk_at "vc"
    exact ⟨rfl, _, rfl, by simp; omega⟩
end
/-- the checking def stands in the program -/
structure CkH (F : Nat) (sb : Sub) (prog : List FnI) (cm no rp ck x1 x2 : Nat) : Prop where
  F0 : 1000000 < F
  hcm : prog[cm]? = some ⟨2, 4, false, compareB⟩
  hno : prog[no]? = some ⟨1, 6, false, nodesOfB⟩
  hrp : prog[rp]? = some ⟨2, 5, false, rightPricesB cm⟩
  hck : prog[ck]? = some ⟨1, 7, false, checkB no rp x1 x2⟩
theorem seq_run {W : Nat} {cf : Nat → List Sl → FR} {p q : IS} {σ σ1 : Sls} (h : OkP (evS W sb cf p σ) fun f s => f = .nx ∧ s = σ1) : evS W sb cf (.seq p q) σ = evS W sb cf q σ1 := by
  obtain ⟨f, s, e, rfl, rfl⟩ := h
  simp only [evS, e, R.bind]
theorem cond_run {W : Nat} {cf : Nat → List Sl → FR} {c : IE} {p q : IS} {σ : Sls} {b : Bool} (h : OkP (evE sb cf c σ) fun s σ1 => σ1 = σ ∧ s = .im (.bl b)) : evS W sb cf (.cond c p q) σ = if b = true then evS W sb cf p σ else evS W sb cf q σ := by
  obtain ⟨f, s, e, rfl, rfl⟩ := h
  simp only [evS, e, R.bind]
  cases b <;> rfl
section
variable {x1 x2 : Nat}
theorem CkH.gds (H : CkH F sb prog cm no rp ck x1 x2) {g : Int} {n : D} (hg : g < 1 ∨ 4 < g) : FxP (callK F sb prog (k + 3) ck [.im (.tup [.int g, n])]) fun x => x = ⟨x1, none⟩ := by
  refine frx_fn H.hck rfl ?_
  rw [checkB_eq]
  refine x_seq2 ?_
  repeat' walk_at "vc"
  refine nxe_nx (x_seq1 (x_cond ?_))
  repeat' walk_at "vc"
  all_goals exact x_rse rfl
/-- on to where it is judged -/
theorem CkH.look (H : CkH F sb prog cm no rp ck x1 x2) {g : Int} {n : Nd} (hg : ¬ (g < 1 ∨ 4 < g)) (M : Mk n) : ∃ (σ : Sls) (b1 b2 : Bool), (b1 = true ↔ BadM g n) ∧ (b2 = true ↔ BigM n) ∧
    evS F sb (callK F sb prog (k + 2)) (checkB no rp x1 x2) [.im (mkt g n), .un, .un, .un, .un, .un, .un] = if b1 = true then R.exc ⟨x1, none⟩ σ else if b2 = true then R.exc ⟨x2, none⟩ σ else R.ok .nx σ := by
  have g1 : ¬ g < 1 := fun z => hg (.inl z)
  have g2 : ¬ 4 < g := fun z => hg (.inr z)
  obtain ⟨s, io, e, L, rfl, hp⟩ := nodes_s (k := k + 1) H.F0 H.hno (g := g) M.sz M.hg
  obtain ⟨x, r, e1, e2, e3⟩ := look_of (g := g) hp
  have hz : L.length ≤ 10000 := by rw [hp.length_eq, nodes_len]; exact M.sz
  have hn : FrP (callK F sb prog (k + 2) no [.im (mkt g n)]) fun s _ => s = .mu (L.map pn) := ⟨_, _, e, rfl⟩
  have hr : ∀ y ∈ L, FrP (callK F sb prog (k + 2) rp [.im (.int g), .im (.tup (y.2.ps.map Pq.d))]) fun s _ => s = .im (.bl (prOk g y.2.ps)) := fun y hy => by
    obtain ⟨a, b⟩ := M.pq y (hp.mem_iff.mp hy)
    exact right_prices_s (k := k) H.hcm H.hrp a b
  obtain ⟨s1, t1, f1, ht1, b1, hs1, hb1⟩ := bad_s (sb := sb) (q0 := .im (mkt g n)) (a4 := .un) (a5 := .un) (a6 := .un) (x := x) (r := r) hr hz
  obtain ⟨s2, t2, f2, ht2, b2, hs2, hb2⟩ := big_s (sb := sb) (cf := callK F sb prog (k + 2)) (g := g) (L := L) (q0 := .im (mkt g n)) (a4 := .un) (a5 := .un) (a6 := .un) (x := x) (r := r)
  refine ⟨[.im (mkt g n), .im (.int g), .im (.lst (L.map pn)), .mu (tmD x r), .un, .un, .un], b1, b2, hb1.trans e2, hb2.trans e3, ?_⟩
  rw [checkB_eq]
  rw [seq_run (σ1 := [.im (mkt g n), .im (.int g), .un, .un, .un, .un, .un]) (by
    unfold mkt
    repeat' walk_at "vc"
    exact ⟨rfl, rfl⟩)]
  rw [seq_run (σ1 := [.im (mkt g n), .im (.int g), .un, .un, .un, .un, .un]) (by
    repeat' walk_at "vc"
    exact ⟨rfl, rfl⟩)]
  rw [seq_run (σ1 := [.im (mkt g n), .im (.int g), .mu (L.map pn), .un, .un, .un, .un]) (by
    repeat' walk_at "vc"
    refine hn.imp fun s _ e => ?_
    subst e
    repeat' walk_at "vc"
    exact ⟨rfl, rfl⟩)]
  rw [seq_run (σ1 := [.im (mkt g n), .im (.int g), .im (.lst (L.map pn)), .mu (tmD x r), .un, .un, .un]) (by
    refine S_asg ((times_s e1 hz).imp fun s σ ⟨e1, e2⟩ => ?_)
    subst e1 e2
    exact ⟨_, rfl, rfl, rfl⟩)]
  subst hs1 ht1 hs2 ht2
  cases b1 with
  | true =>
    rw [if_pos rfl]
    simp only [evS, f1, R.bind]
  | false =>
    rw [if_neg (by decide)]
    rw [seq_run (σ1 := [.im (mkt g n), .im (.int g), .im (.lst (L.map pn)), .mu (tmD x r), .un, .un, .un]) ⟨.nx, _, by simp only [evS, f1, R.bind], rfl, rfl⟩]
    simp only [evS, f2, R.bind]
    cases b2 <;> rfl
theorem CkH.ok (H : CkH F sb prog cm no rp ck x1 x2) {g : Int} {n : Nd} (hg : ¬ (g < 1 ∨ 4 < g)) (M : Mk n) (h1 : ¬ BadM g n) (h2 : ¬ BigM n) : FrP (callK F sb prog (k + 3) ck [.im (mkt g n)]) fun s _ => s = .im .non := by
  obtain ⟨σ, b1, b2, e1, e2, e⟩ := H.look (k := k) hg M
  refine frp_fn H.hck rfl ?_
  show OkP (evS F sb (callK F sb prog (k + 2)) (checkB no rp x1 x2) [.im (mkt g n), .un, .un, .un, .un, .un, .un]) _
  rw [e, if_neg (fun z => h1 (e1.mp z)), if_neg (fun z => h2 (e2.mp z))]
  exact ⟨_, _, rfl, rfl⟩
theorem CkH.bad (H : CkH F sb prog cm no rp ck x1 x2) {g : Int} {n : Nd} (hg : ¬ (g < 1 ∨ 4 < g)) (M : Mk n) (h1 : BadM g n) : FxP (callK F sb prog (k + 3) ck [.im (mkt g n)]) fun x => x = ⟨x1, none⟩ := by
  obtain ⟨σ, b1, b2, e1, e2, e⟩ := H.look (k := k) hg M
  refine frx_fn H.hck rfl ?_
  show ExS (evS F sb (callK F sb prog (k + 2)) (checkB no rp x1 x2) [.im (mkt g n), .un, .un, .un, .un, .un, .un]) _
  rw [e, if_pos (e1.mpr h1)]
  exact ⟨_, _, rfl, rfl⟩
theorem CkH.big (H : CkH F sb prog cm no rp ck x1 x2) {g : Int} {n : Nd} (hg : ¬ (g < 1 ∨ 4 < g)) (M : Mk n) (h1 : ¬ BadM g n) (h2 : BigM n) : FxP (callK F sb prog (k + 3) ck [.im (mkt g n)]) fun x => x = ⟨x2, none⟩ := by
  obtain ⟨σ, b1, b2, e1, e2, e⟩ := H.look (k := k) hg M
  refine frx_fn H.hck rfl ?_
  show ExS (evS F sb (callK F sb prog (k + 2)) (checkB no rp x1 x2) [.im (mkt g n), .un, .un, .un, .un, .un, .un]) _
  rw [e, if_neg (fun z => h1 (e1.mp z)), if_pos (e2.mpr h2)]
  exact ⟨_, _, rfl, rfl⟩
/-! lists of paths -/
theorem CkH.path_list (H : CkH F sb prog cm no rp ck x1 x2) {pl : Nat} (h : prog[pl]? = some ⟨1, 4, false, pathListB no⟩) {g : Int} {n : Nd} (M : Mk n) : FrP (callK F sb prog (k + 2) pl [.im (mkt g n)]) fun s _ => s = .mu (n.paths.map pth) := by
  obtain ⟨s, io, e, L, rfl, hp⟩ := nodes_s (k := k) H.F0 H.hno (g := g) M.sz M.hg
  have hn : FrP (callK F sb prog (k + 1) no [.im (mkt g n)]) fun s _ => s = .mu (L.map pn) := ⟨_, _, e, rfl⟩
  have hz : L.length ≤ 10000 := by rw [hp.length_eq, nodes_len]; exact M.sz
  refine frp_fn h rfl ?_
  unfold pathListB
  repeat' walk_at "vc"
  refine hn.imp fun s _ e => ?_
  subst e
  repeat' walk_at "vc"
  refine comp_map pn (fun x => pth x.1) L (fun y hy => ⟨_, rfl, o_cst (tb_t ?_)⟩) ?_
  · repeat' walk_at "vc"
    exact ⟨rfl, rfl⟩
  · refine ⟨by rw [List.length_map]; exact sz_le hz, ?_⟩
    repeat' walk_at "vc"
    refine isO_of (s := .mu (n.paths.map pth)) ?_ ?_
    · have a1 := sortOk_pth (L.map Prod.fst)
      have a2 := allO_pth (L.map Prod.fst)
      rw [List.map_map] at a1 a2
      have hne : L ≠ [] := fun z => by
        have := hp.length_eq
        rw [z, nodes_len, List.length_nil] at this
        have := n.size_pos
        omega
      rw [if_neg (by simpa using hne)] at a2
      show (match allO D.i? (L.map fun x : PN => pth x.1) with
        | some ns => some (Sl.mu ((sortI ns).map D.int))
        | none => if sortOk (L.map fun x : PN => pth x.1) = true then some (Sl.mu (sortD (L.map fun x : PN => pth x.1))) else none) = _
      rw [show allO D.i? (L.map fun x : PN => pth x.1) = none from a2, show sortOk (L.map fun x : PN => pth x.1) = true from a1, sort_paths hp]
      rfl
    · rfl
/-- the paths of the ends, ascending -/
def Nd.ends (n : Nd) : List Pth := (leaves n).map Prod.fst
theorem ends_ord (n : Nd) : n.ends.Pairwise fun a b => pLt b a = false := List.pairwise_map.mpr ((nodes_ord [] n).filter _)
theorem CkH.end_list (H : CkH F sb prog cm no rp ck x1 x2) {el : Nat} (h : prog[el]? = some ⟨1, 4, false, endListB no⟩) {g : Int} {n : Nd} (M : Mk n) : FrP (callK F sb prog (k + 2) el [.im (mkt g n)]) fun s _ => s = .mu (n.ends.map pth) := by
  obtain ⟨s, io, e, L, rfl, hp⟩ := nodes_s (k := k) H.F0 H.hno (g := g) M.sz M.hg
  have hn : FrP (callK F sb prog (k + 1) no [.im (mkt g n)]) fun s _ => s = .mu (L.map pn) := ⟨_, _, e, rfl⟩
  have hz : L.length ≤ 10000 := by rw [hp.length_eq, nodes_len]; exact M.sz
  refine frp_fn h rfl ?_
  unfold endListB
  repeat' walk_at "vc"
  refine hn.imp fun s _ e => ?_
  subst e
  repeat' walk_at "vc"
  refine comp_mapF pn (fun x => pth x.1) leafB L (fun y hy => ⟨_, rfl, ?_⟩) ?_
  · unfold leafB
    have el : (((y.2.ks.map Nd.d).length : Nat) : Int) = (y.2.ks.length : Int) := by rw [List.length_map]
    by_cases h0 : (y.2.ks.length : Int) = 0
    · have h1 : (((y.2.ks.map Nd.d).length : Nat) : Int) = 0 := by rw [el]; exact h0
      rw [Nd.d_eq y.2]
      repeat' walk_at "vc"
      refine ⟨decide_eq_true h0, ?_⟩
      repeat' walk_at "vc"
      exact ⟨rfl, rfl⟩
    · have h1 : ¬ (((y.2.ks.map Nd.d).length : Nat) : Int) = 0 := by rw [el]; exact h0
      rw [Nd.d_eq y.2]
      repeat' walk_at "vc"
      exact ⟨decide_eq_false h0, rfl⟩
  · refine ⟨by rw [List.length_map]; exact sz_le (Nat.le_trans (List.length_filter_le _ _) hz), ?_⟩
    repeat' walk_at "vc"
    refine isO_of (s := .mu (n.ends.map pth)) ?_ ?_
    · have hf : ((L.filter leafB).map Prod.fst).Perm n.ends := (hp.filter _).map _
      have a1 := sortOk_pth ((L.filter leafB).map Prod.fst)
      have a2 := allO_pth ((L.filter leafB).map Prod.fst)
      have a3 := sort_pth hf (ends_ord n)
      rw [List.map_map] at a1 a2 a3
      have hne : L.filter leafB ≠ [] := fun z => by
        obtain ⟨x, r, e, _⟩ := look_of (g := 0) hp
        rw [e] at z
        exact nomatch z
      rw [if_neg (by simpa using hne)] at a2
      show (match allO D.i? ((L.filter leafB).map fun x : PN => pth x.1) with
        | some ns => some (Sl.mu ((sortI ns).map D.int))
        | none => if sortOk ((L.filter leafB).map fun x : PN => pth x.1) = true then some (Sl.mu (sortD ((L.filter leafB).map fun x : PN => pth x.1))) else none) = _
      rw [show allO D.i? ((L.filter leafB).map fun x : PN => pth x.1) = none from a2, show sortOk ((L.filter leafB).map fun x : PN => pth x.1) = true from a1, show sortD ((L.filter leafB).map fun x : PN => pth x.1) = n.ends.map pth from a3]
      rfl
    · rfl
end
end
end Rf
/-! L5: exceptions out of expressions, loops; runs as equations. -/
namespace Rf
open PySem
section
variable {sb : Sub} {cf : Nat → List Sl → FR} {W : Nat} {σ : Sls} {Q : Xn → Sls → Prop} {a b c e es : IE} {p q : IS} {i f : Nat} {t : Tg}
theorem x_bin1 {o : BOp} (h : ExS (evE sb cf a σ) Q) : ExS (evE sb cf (.bin o a b) σ) Q := by
  obtain ⟨x, σ1, e1, h⟩ := h
  exact ⟨x, σ1, by simp only [evE, e1, R.bind], h⟩
theorem x_bin2 {o : BOp} (h : OkP (evE sb cf a σ) fun _ σ1 => ExS (evE sb cf b σ1) Q) : ExS (evE sb cf (.bin o a b) σ) Q := by
  obtain ⟨y, σ1, e1, x, σ2, e2, h⟩ := h
  exact ⟨x, σ2, by simp only [evE, e1, R.bind, e2], h⟩
theorem x_cmp1 {o : COp} (h : ExS (evE sb cf a σ) Q) : ExS (evE sb cf (.cmp o a b) σ) Q := by
  obtain ⟨x, σ1, e1, h⟩ := h
  exact ⟨x, σ1, by simp only [evE, e1, R.bind], h⟩
theorem x_cmp2 {o : COp} (h : OkP (evE sb cf a σ) fun _ σ1 => ExS (evE sb cf b σ1) Q) : ExS (evE sb cf (.cmp o a b) σ) Q := by
  obtain ⟨y, σ1, e1, x, σ2, e2, h⟩ := h
  exact ⟨x, σ2, by simp only [evE, e1, R.bind, e2], h⟩
theorem x_idx1 (h : ExS (evE sb cf a σ) Q) : ExS (evE sb cf (.idx a b) σ) Q := by
  obtain ⟨x, σ1, e1, h⟩ := h
  exact ⟨x, σ1, by simp only [evE, e1, R.bind], h⟩
theorem x_idx2 (h : OkP (evE sb cf a σ) fun _ σ1 => ExS (evE sb cf b σ1) Q) : ExS (evE sb cf (.idx a b) σ) Q := by
  obtain ⟨y, σ1, e1, x, σ2, e2, h⟩ := h
  exact ⟨x, σ2, by simp only [evE, e1, R.bind, e2], h⟩
theorem x_cons1 (h : ExS (evE sb cf e σ) Q) : ExS (evE sb cf (.cons e es) σ) Q := by
  obtain ⟨x, σ1, e1, h⟩ := h
  exact ⟨x, σ1, by simp only [evE, e1, R.bind], h⟩
theorem x_cons2 (h : OkP (evE sb cf e σ) fun y σ1 => wD y fun _ => ExS (evE sb cf es σ1) Q) : ExS (evE sb cf (.cons e es) σ) Q := by
  obtain ⟨y, σ1, e1, h⟩ := h
  cases y with
  | im d =>
    obtain ⟨x, σ2, e2, h⟩ := h
    exact ⟨x, σ2, by simp only [evE, e1, R.bind, wd, e2], h⟩
  | mu d =>
    obtain ⟨x, σ2, e2, h⟩ := h
    exact ⟨x, σ2, by simp only [evE, e1, R.bind, wd, e2], h⟩
  | un => exact h.elim
  | exn z => exact h.elim
  | clo z => exact h.elim
theorem x_tup (h : ExS (evE sb cf es σ) Q) : ExS (evE sb cf (.tup es) σ) Q := by
  obtain ⟨x, σ1, e1, h⟩ := h
  exact ⟨x, σ1, by simp only [evE, e1, R.bind], h⟩
theorem x_b1 {f : Blt} (h : ExS (evE sb cf a σ) Q) : ExS (evE sb cf (.b1 f a) σ) Q := by
  obtain ⟨x, σ1, e1, h⟩ := h
  exact ⟨x, σ1, by simp only [evE, e1, R.bind], h⟩
theorem x_callA (h : ExS (evE sb cf es σ) Q) : ExS (evE sb cf (.call f es) σ) Q := by
  obtain ⟨x, σ1, e1, h⟩ := h
  exact ⟨x, σ1, by simp only [evE, e1, R.bind], h⟩
theorem x_condc (h : ExS (evE sb cf c σ) Q) : ExS (evS W sb cf (.cond c p q) σ) Q := by
  obtain ⟨x, σ1, e1, h⟩ := h
  exact ⟨x, σ1, by simp only [evS, e1, R.bind], h⟩
/-! loops, item by item -/
theorem for_nil {body : Sls → R Fl} {P : Fl → Sls → Prop} {σ : Sls} (h : P .nx σ) : OkP (forF t body [] σ) P := ⟨_, _, rfl, h⟩
theorem for_cons {body : Sls → R Fl} {P : Fl → Sls → Prop} {σ σ1 : Sls} {d : D} {ds : List D} (e : asgT t d σ = some σ1) (h : OkP (body σ1) fun f σ2 => f = .nx ∧ OkP (forF t body ds σ2) P) : OkP (forF t body (d :: ds) σ) P := by
  obtain ⟨f, σ2, e2, rfl, f', σ3, e3, h⟩ := h
  refine ⟨f', σ3, ?_, h⟩
  unfold forF
  rw [e]
  dsimp only
  rw [e2]
  exact e3
theorem for_ret {body : Sls → R Fl} {P : Fl → Sls → Prop} {σ σ1 : Sls} {d : D} {ds : List D} (e : asgT t d σ = some σ1) (h : OkP (body σ1) fun f σ2 => ∃ s, f = .rt s ∧ P (.rt s) σ2) : OkP (forF t body (d :: ds) σ) P := by
  obtain ⟨f, σ2, e2, s, rfl, h⟩ := h
  refine ⟨.rt s, σ2, ?_, h⟩
  unfold forF
  rw [e]
  dsimp only
  rw [e2]
theorem x_for1 {body : Sls → R Fl} {σ σ1 : Sls} {d : D} {ds : List D} (e : asgT t d σ = some σ1) (h : ExS (body σ1) Q) : ExS (forF t body (d :: ds) σ) Q := by
  obtain ⟨x, σ2, e2, h⟩ := h
  refine ⟨x, σ2, ?_, h⟩
  unfold forF
  rw [e]
  dsimp only
  rw [e2]
theorem x_for2 {body : Sls → R Fl} {σ σ1 : Sls} {d : D} {ds : List D} (e : asgT t d σ = some σ1) (h : OkP (body σ1) fun f σ2 => f = .nx ∧ ExS (forF t body ds σ2) Q) : ExS (forF t body (d :: ds) σ) Q := by
  obtain ⟨f, σ2, e2, rfl, x, σ3, e3, h⟩ := h
  refine ⟨x, σ3, ?_, h⟩
  unfold forF
  rw [e]
  dsimp only
  rw [e2]
  exact e3
theorem x_for (h : OkP (evE sb cf a σ) fun x σ1 => isIt x fun ds => ExS (forF t (fun σ => evS W sb cf p σ) ds σ1) Q) : ExS (evS W sb cf (.fr t a p) σ) Q := by
  obtain ⟨x, σ1, e1, h⟩ := h
  cases x with
  | im d =>
    obtain ⟨ds, e2, x, σ2, e3, h⟩ := h
    refine ⟨x, σ2, ?_, h⟩
    simp only [evS, e1, R.bind, wd, e2]
    exact e3
  | mu ds =>
    obtain ⟨ds', e2, x, σ2, e3, h⟩ := h
    refine ⟨x, σ2, ?_, h⟩
    simp only [evS, e1, R.bind, wd, e2]
    exact e3
  | un => exact h.elim
  | exn z => exact h.elim
  | clo z => exact h.elim
/-- a while loop that raises: I holds until it does -/
theorem x_whl {body : Sls → R Fl} {cc : Sls → R Sl} (I : Nat → Sls → Prop) {m : Nat} (h0 : I m σ) (step : ∀ m σ, I m σ → OkP (cc σ) fun x σ1 => tB x (ExS (body σ1) Q ∨ OkP (body σ1) fun f σ2 => f = .nx ∧ ∃ m', m' < m ∧ I m' σ2) False) : ∀ {F : Nat}, m < F → ExS (whlF cc body F σ) Q := by
  intro F hF
  induction F generalizing m σ with
  | zero => omega
  | succ F ih =>
    obtain ⟨x, σ1, e1, k, rfl, h1, h2⟩ := step m σ h0
    unfold whlF
    rw [e1]
    cases k with
    | false => exact (h2 rfl).elim
    | true =>
      dsimp only
      rcases h1 rfl with ⟨x, σ2, e2, h⟩ | ⟨f, σ2, e2, rfl, m', hm, hi⟩
      · rw [e2]
        exact ⟨x, σ2, rfl, h⟩
      · rw [e2]
        exact ih hi (by omega)
theorem isB'_ne_self {x : D} {Q : Bool → Prop} (hd : x.deep ≤ 200) (h : Q false) : isB' (copD .ne x x) Q := isB'_ne_l hd (by rw [eqv_refl]; exact h)
theorem isB'_eq_self {x : D} {Q : Bool → Prop} (hd : x.deep ≤ 200) (h : Q true) : isB' (copD .eq x x) Q := isB'_eq_l hd (by rw [eqv_refl]; exact h)
theorem o_isx_t {P : Sl → Sls → Prop} {z k : Nat} (e : σ[i]? = some (.exn ⟨z, none⟩)) (b : sb z k = true) (h : P (.im (.bl true)) σ) : OkP (evE sb cf (.isx i k) σ) P := o_isx e (by rw [b]; exact h)
theorem o_isx_f {P : Sl → Sls → Prop} {z k : Nat} (e : σ[i]? = some (.exn ⟨z, none⟩)) (b : sb z k = false) (h : P (.im (.bl false)) σ) : OkP (evE sb cf (.isx i k) σ) P := o_isx e (by rw [b]; exact h)
theorem o_lrg {P : Sl → Sls → Prop} {tp : Bool} {a b : IE} (h : OkP (evE sb cf a σ) fun x σ1 => wD x fun p => OkP (evE sb cf b σ1) fun y σ2 => wD y fun q => isInt p fun l => isInt q fun k => ((rngIn l = true ∧ rngIn k = true) ∧ (k - l).toNat ≤ 16777216) ∧ P (if tp = true then .im (.tup (rngL l k)) else .mu (rngL l k)) σ2) : OkP (evE sb cf (.lrg tp a b) σ) P := by
  simp only [evE, okp_bind]
  refine h.imp fun x σ1 h => okp_wd (h.imp fun p h => ?_)
  rw [okp_bind]
  refine h.imp fun y σ2 h => okp_wd (h.imp fun q ⟨l, e, k, e2, h1, h9⟩ => ?_)
  subst e; subst e2
  dsimp only
  rw [if_pos h1]
  exact ⟨_, _, rfl, h9⟩
end
end Rf
/-! Hm2: nodes at paths; the laws' own lists of nodes. -/
namespace Rf
open PySem
local macro_rules | `(tactic| walk_at "vc") => `(tactic| first
  | (with_reducible refine' S_seq ?_)
  | ((with_reducible refine' o_lv_im ?e ?h); (case e => rfl))
  | (with_reducible refine' o_cst ?_)
  | ((with_reducible refine' wo_lv ?e ?h); (case e => rfl))
  | (with_reducible refine' wd_im ?_)
  | (with_reducible refine' wd_mu ?_)
  | ((with_reducible refine' o_var_im ?e ?h); (case e => rfl))
  | (with_reducible refine' o_bin ?_)
  | (with_reducible refine' o_cmp ?_)
  | (with_reducible refine' o_idx ?_)
  | ((with_reducible refine' o_lv_mu ?e ?h); (case e => rfl))
  | (with_reducible refine' o_cons ?_)
  | (with_reducible refine' o_nil ?_)
  | (with_reducible refine' mu_of ?_)
  | (with_reducible refine' nx_nx ?_)
  | (with_reducible refine' nx_rt ?_)
  | (with_reducible refine' nx_bk ?_)
  | (with_reducible refine' nx_ct ?_)
  | (with_reducible refine' tb_t ?_)
  | (with_reducible refine' tb_f ?_)
  | ((with_reducible refine' tb_yes ?e ?h); (case e => first | assumption | decide +kernel))
  | ((with_reducible refine' tb_no ?e ?h); (case e => first | assumption | decide +kernel))
  | ((with_reducible refine' tb_dec ?_ ?_) <;> intro hc <;> try (first | contradiction | (exfalso; omega)))
  | ((with_reducible refine' tb_ndec ?_ ?_) <;> intro hc <;> try (first | contradiction | (exfalso; omega)))
  | (with_reducible refine' S_asg ?_)
  | (with_reducible refine' S_cond ?_)
  | (with_reducible refine' S_ret ?_)
  | (with_reducible refine' S_skip ?_)
  | ((with_reducible refine' isA_of ?e ?h); (case e => rfl))
  | ((with_reducible refine' isB'_of ?e ?h); (case e => with_reducible assumption))
  | (with_reducible refine' isB'_eq_ii ?_)
  | (with_reducible refine' isB'_eq_bb ?_)
  | (with_reducible refine' isB'_ne_bb ?_)
  | (with_reducible refine' isB'_ne_ii ?_)
  | (with_reducible refine' isB'_eq_ss ?_)
  | (with_reducible refine' isB'_ne_ss ?_)
  | ((with_reducible refine' isO_mod ?e ?h); (case e => first | omega | assumption))
  | ((with_reducible refine' isO_fdv ?e ?h); (case e => first | decide | assumption))
  | ((with_reducible refine' isO_mul ?e ?h); (case e => first | decide | assumption))
  | ((with_reducible refine' isO_of ?e ?h); (case e => rfl))
  | ((with_reducible refine' hasMu_of ?e ?h); (case e => rfl))
  | (with_reducible refine' isInt_of ?_)
  | ((with_reducible refine' isN_of ?e ?h); (case e => rfl))
  | (with_reducible refine' isD_t0 ?_)
  | (with_reducible refine' isD_t1 ?_)
  | (with_reducible refine' isD_t2 ?_)
  | (with_reducible refine' isD_l0 ?_)
  | (with_reducible refine' isD_l1 ?_)
  | ((with_reducible refine' isD_of ?e ?h); (case e => rfl))
  | ((with_reducible refine' isB'_of (k := false) ?e ?h); (case e => decide +kernel))
  | ((with_reducible refine' isB'_of (k := true) ?e ?h); (case e => decide +kernel))
  | ((with_reducible refine' isB'_of ?e ?h); (case e => rfl))
  | (with_reducible refine' o_tup ?_)
  | (with_reducible refine' o_lst ?_)
  | ((with_reducible refine' sz_of ?e ?h); (case e => exact Nat.le_of_ble_eq_true rfl))
  | (with_reducible refine' o_b1 ?_)
  | (with_reducible refine' o_b2 ?_)
  | (with_reducible refine' o_an ?_)
  | (with_reducible refine' o_orr ?_)
  | (with_reducible refine' o_nt ?_)
  | (with_reducible refine' o_tr ?_)
  | (with_reducible refine' o_ite ?_)
  | (with_reducible refine' o_slc ?_)
  | (with_reducible refine' bd_non ?_)
  | (with_reducible refine' bd_int ?_)
  | ((with_reducible refine' o_var_mu ?e ?h); (case e => rfl))
  | (with_reducible refine' o_glo ?_)
  | ((with_reducible refine' S_rtv_im ?e ?h); (case e => rfl))
  | ((with_reducible refine' S_rtv_mu ?e ?h); (case e => rfl))
  | (with_reducible refine' S_rtn ?_)
  | (with_reducible refine' S_brk ?_)
  | (with_reducible refine' S_cnt ?_)
  | (with_reducible refine' S_exp ?_)
  | ((with_reducible refine' S_app ?e ?h); (case e => rfl))
  | ((with_reducible refine' S_aug ?e ?h); (case e => rfl))
  | (with_reducible refine' isI_of ?_)
  | (with_reducible refine' S_par ?_)
  | (with_reducible refine' S_six ?_)
  | (with_reducible refine' S_for ?_)
  | (with_reducible refine' S_whl ?_)
  | (with_reducible refine' o_rng1 ?_)
  | (with_reducible refine' o_rng2 ?_)
  | (with_reducible refine' o_comp ?_)
  | (with_reducible refine' o_call ?_)
  | ((with_reducible refine' o_cio ?e ?h); (case e => rfl))
  | (with_reducible refine' o_neg ?_)
  | (with_reducible refine' o_rep ?_)
  | (with_reducible refine' o_chn ?_)
  | (with_reducible refine' it_mu ?_)
  | (with_reducible refine' it_tp ?_)
  | (with_reducible refine' it_ls ?_)
  | ((with_reducible refine' wo_o ?e ?h); (case e => exact fun _ z => nomatch z)))

section
variable {F : Nat} {sb : Sub} {prog : List FnI} {k na fi ln x3 : Nat} {α : Type}
theorem find_cons {n : Nd} {i : Int} {p : Pth} : (∃ m, 0 ≤ i ∧ i < (n.ks.length : Int) ∧ n.ks[i.toNat]? = some m ∧ n.find (i :: p) = m.find p) ∨ ((i < 0 ∨ (n.ks.length : Int) ≤ i) ∧ n.find (i :: p) = none) := by
  by_cases h : 0 ≤ i ∧ i < (n.ks.length : Int)
  · left
    have hl : i.toNat < n.ks.length := by omega
    refine ⟨n.ks[i.toNat], h.1, h.2, List.getElem?_eq_getElem hl, ?_⟩
    conv => lhs; unfold Nd.find
    rw [if_pos h, List.getElem?_eq_getElem hl]
  · right
    refine ⟨by omega, ?_⟩
    conv => lhs; unfold Nd.find
    rw [if_neg h]
/-! the node at a path -/
def stepI (q : IS) : IS := (.seq (.cond (.orr (.cmp .lt (.lv 3) (.cst (.int 0))) (.cmp .ge (.lv 3) (.b1 .len (.idx (.lv 2) (.cst (.int 1)))))) q .skip)
  (.asg (.nm 2) (.idx (.idx (.lv 2) (.cst (.int 1))) (.lv 3))))
section
variable {W : Nat} {cf : Nat → List Sl → FR} {q0 q1 : Sl} {q : IS}
theorem step_in {n m : Nd} {i : Int} (h0 : 0 ≤ i) (h1 : i < (n.ks.length : Int)) (hm : n.ks[i.toNat]? = some m) : OkP (evS W sb cf (stepI q) [q0, q1, .im n.d, .im (.int i)]) fun f σ => f = .nx ∧ σ = [q0, q1, .im m.d, .im (.int i)] := by
  unfold stepI
  rw [Nd.d_eq n]
  have el : ¬ (((n.ks.map Nd.d).length : Nat) : Int) ≤ i := by rw [List.length_map]; omega
  have g0 : ¬ i < 0 := by omega
  repeat' walk_at "vc"
  refine isD_atT h0 (d := m.d) (by rw [List.getElem?_map, hm]; rfl) ?_
  repeat' walk_at "vc"
  exact ⟨rfl, rfl⟩
theorem step_out {n : Nd} {i : Int} (h : i < 0 ∨ (n.ks.length : Int) ≤ i) : evS W sb cf (stepI q) [q0, q1, .im n.d, .im (.int i)] = (evS W sb cf q [q0, q1, .im n.d, .im (.int i)]).bind fun f σ => match f with
    | .nx => evS W sb cf (.asg (.nm 2) (.idx (.idx (.lv 2) (.cst (.int 1))) (.lv 3))) σ
    | f => .ok f σ := by
  have e : evS W sb cf (.cond (.orr (.cmp .lt (.lv 3) (.cst (.int 0))) (.cmp .ge (.lv 3) (.b1 .len (.idx (.lv 2) (.cst (.int 1)))))) q .skip) [q0, q1, .im n.d, .im (.int i)] = evS W sb cf q [q0, q1, .im n.d, .im (.int i)] := by
    rw [cond_run (b := true)]
    · rfl
    · rw [Nd.d_eq n]
      by_cases g0 : i < 0
      · repeat' walk_at "vc"
        exact ⟨rfl, rfl⟩
      · have el : (((n.ks.map Nd.d).length : Nat) : Int) ≤ i := by rw [List.length_map]; omega
        repeat' walk_at "vc"
        refine ⟨rfl, ?_⟩
        rw [decide_eq_true el]
  unfold stepI
  rw [show ∀ a b σ, evS W sb cf (.seq a b) σ = (evS W sb cf a σ).bind fun f σ1 => (match f with
    | .nx => evS W sb cf b σ1
    | f => .ok f σ1) from fun _ _ _ => rfl, e]
theorem at_ok : ∀ (p : Pth) (n m : Nd) (a3 : Sl), n.find p = some m → OkP (forF (.nm 3) (fun σ => evS W sb cf (stepI q) σ) (p.map D.int) [q0, q1, .im n.d, a3]) fun f σ => f = .nx ∧ ∃ z, σ = [q0, q1, .im m.d, z]
  | [], n, m, a3, h => by
    cases h
    exact for_nil ⟨rfl, _, rfl⟩
  | i :: p, n, m, a3, h => by
    rcases find_cons (n := n) (i := i) (p := p) with ⟨c, h0, h1, h2, h3⟩ | ⟨_, h3⟩
    · rw [h3] at h
      refine for_cons rfl ((step_in h0 h1 h2).imp fun f σ ⟨e1, e2⟩ => ⟨e1, ?_⟩)
      subst e2
      exact at_ok p c m _ h
    · rw [h3] at h
      cases h
theorem at_x : ∀ (p : Pth) (n : Nd) (a3 : Sl), n.find p = none → ExS (forF (.nm 3) (fun σ => evS W sb cf (stepI (.rse x3)) σ) (p.map D.int) [q0, q1, .im n.d, a3]) fun x _ => x = ⟨x3, none⟩
  | [], n, a3, h => by cases h
  | i :: p, n, a3, h => by
    rcases find_cons (n := n) (i := i) (p := p) with ⟨c, h0, h1, h2, h3⟩ | ⟨h0, h3⟩
    · rw [h3] at h
      refine x_for2 rfl ((step_in h0 h1 h2).imp fun f σ ⟨e1, e2⟩ => ⟨e1, ?_⟩)
      subst e2
      exact at_x p c _ h
    · refine x_for1 rfl ?_
      show ExS (evS W sb cf (stepI (.rse x3)) [q0, q1, .im n.d, .im (.int i)]) _
      rw [step_out h0]
      exact ⟨_, _, rfl, rfl⟩
theorem at_non : ∀ (p : Pth) (n : Nd) (a3 : Sl), n.find p = none → OkP (forF (.nm 3) (fun σ => evS W sb cf (stepI (.ret (.cst .non))) σ) (p.map D.int) [q0, q1, .im n.d, a3]) fun f σ => f = .rt (.im .non)
  | [], n, a3, h => by cases h
  | i :: p, n, a3, h => by
    rcases find_cons (n := n) (i := i) (p := p) with ⟨c, h0, h1, h2, h3⟩ | ⟨h0, h3⟩
    · rw [h3] at h
      refine for_cons rfl ((step_in h0 h1 h2).imp fun f σ ⟨e1, e2⟩ => ⟨e1, ?_⟩)
      subst e2
      exact at_non p c _ h
    · refine for_ret rfl ?_
      show OkP (evS W sb cf (stepI (.ret (.cst .non))) [q0, q1, .im n.d, .im (.int i)]) _
      rw [step_out h0]
      exact ⟨_, _, rfl, _, rfl, rfl⟩
end
theorem node_at_ok (h : prog[na]? = some ⟨2, 4, false, nodeAtB x3⟩) {g : D} {n m : Nd} {p : Pth} (hf : n.find p = some m) : FrP (callK F sb prog (k + 1) na [.im (.tup [g, n.d]), .im (pth p)]) fun s _ => s = .im m.d := by
  refine frp_fn h rfl ?_
  unfold nodeAtB pth
  repeat' walk_at "vc"
  refine (at_ok (q := .rse x3) p n m .un hf).imp fun f σ ⟨e, z, e2⟩ => ?_
  subst e e2
  repeat' walk_at "vc"
  rfl
theorem node_at_x (h : prog[na]? = some ⟨2, 4, false, nodeAtB x3⟩) {g : D} {n : Nd} {p : Pth} (hf : n.find p = none) : FxP (callK F sb prog (k + 1) na [.im (.tup [g, n.d]), .im (pth p)]) fun x => x = ⟨x3, none⟩ := by
  refine frx_fn h rfl ?_
  unfold nodeAtB pth
  refine x_seq2 ?_
  repeat' walk_at "vc"
  refine nxe_nx (x_seq1 (x_for ?_))
  repeat' walk_at "vc"
  exact at_x p n .un hf
theorem find_ok (h : prog[fi]? = some ⟨2, 4, false, lawFindB⟩) {g : D} {n m : Nd} {p : Pth} (hf : n.find p = some m) : FrP (callK F sb prog (k + 1) fi [.im (.tup [g, n.d]), .im (pth p)]) fun s _ => s = .im m.d := by
  refine frp_fn h rfl ?_
  unfold lawFindB pth
  repeat' walk_at "vc"
  refine (at_ok (q := .ret (.cst .non)) p n m .un hf).imp fun f σ ⟨e, z, e2⟩ => ?_
  subst e e2
  repeat' walk_at "vc"
  rfl
theorem find_none (h : prog[fi]? = some ⟨2, 4, false, lawFindB⟩) {g : D} {n : Nd} {p : Pth} (hf : n.find p = none) : FrP (callK F sb prog (k + 1) fi [.im (.tup [g, n.d]), .im (pth p)]) fun s _ => s = .im .non := by
  refine frp_fn h rfl ?_
  unfold lawFindB pth
  repeat' walk_at "vc"
  refine (at_non p n .un hf).imp fun f σ e => ?_
  subst e
  repeat' walk_at "vc"
  rfl
/-- the prices of all goods, money first -/
def allP (m : Nd) : List Pq := ⟨1, 1, 1, 1⟩ :: m.ps
theorem prices_of_ok {po : Nat} (h : prog[po]? = some ⟨2, 2, false, pricesOfB na⟩) (ha : prog[na]? = some ⟨2, 4, false, nodeAtB x3⟩) {g : D} {n m : Nd} {p : Pth} (hf : n.find p = some m) (hl : m.ps.length ≤ 10000) : FrP (callK F sb prog (k + 2) po [.im (.tup [g, n.d]), .im (pth p)]) fun s _ => s = .im (.tup ((allP m).map Pq.d)) := by
  refine frp_fn h rfl ?_
  unfold pricesOfB
  repeat' walk_at "vc"
  refine (node_at_ok (k := k) ha hf).imp fun s _ e => ?_
  subst e
  rw [Nd.d_eq m]
  repeat' walk_at "vc"
  refine isO_tup (by rw [List.length_map]; exact sz_le (m := 10001) (by simp; omega)) ?_
  repeat' walk_at "vc"
  rfl
theorem prices_of_x {po : Nat} (h : prog[po]? = some ⟨2, 2, false, pricesOfB na⟩) (ha : prog[na]? = some ⟨2, 4, false, nodeAtB x3⟩) {g : D} {n : Nd} {p : Pth} (hf : n.find p = none) : FxP (callK F sb prog (k + 2) po [.im (.tup [g, n.d]), .im (pth p)]) fun x => x = ⟨x3, none⟩ := by
  have hx := node_at_x (k := k) (F := F) (sb := sb) (g := g) ha hf
  refine frx_fn h rfl ?_
  unfold pricesOfB
  refine x_ret (x_bin2 ?_)
  repeat' walk_at "vc"
  refine x_idx1 (x_call ?_)
  repeat' walk_at "vc"
  exact hx
theorem law_prices_ok {lp : Nat} (h : prog[lp]? = some ⟨2, 2, false, lawPricesB fi⟩) (ha : prog[fi]? = some ⟨2, 4, false, lawFindB⟩) {g : D} {n m : Nd} {p : Pth} (hf : n.find p = some m) (hl : m.ps.length ≤ 10000) : FrP (callK F sb prog (k + 2) lp [.im (.tup [g, n.d]), .im (pth p)]) fun s _ => s = .im (.tup ((allP m).map Pq.d)) := by
  refine frp_fn h rfl ?_
  unfold lawPricesB
  repeat' walk_at "vc"
  refine (find_ok (k := k) ha hf).imp fun s _ e => ?_
  subst e
  rw [Nd.d_eq m]
  repeat' walk_at "vc"
  refine isO_tup (by rw [List.length_map]; exact sz_le (m := 10001) (by simp; omega)) ?_
  repeat' walk_at "vc"
  rfl
/-! the law's own list of nodes -/
theorem rngL_map (lo hi : Int) : rngL lo hi = (List.range (hi - lo).toNat).map fun i : Nat => D.int (lo + (i : Int)) := rfl
/-- the item of a list, or nothing -/
def atD (l : List D) (i : Nat) : D := l.getD i .non
theorem range_at (l : List D) : (List.range l.length).map (atD l) = l := by
  refine List.ext_getElem (by simp) fun i h1 h2 => ?_
  simp only [List.getElem_map, List.getElem_range]
  unfold atD
  rw [List.getD_eq_getElem?_getD, List.getElem?_eq_getElem h2]
  rfl
def lawStep : IS := (.seq (.asg (.nm 1) (.bin .add (.lv 1) (.lv 2)))
  (.seq (.asg (.nm 4) (.lst .nil))
  (.seq (.fr (.cs (.nm 5) (.cs (.nm 6) .nl)) (.var 2) (.asg (.nm 4) (.bin .add (.lv 4) (.comp [7, 8] (.nm 8) (.rng1 (.b1 .len (.idx (.lv 6) (.cst (.int 1))))) (.cst (.bl true)) (.tup (.cons (.bin .add (.lv 5) (.tup (.cons (.var 8) .nil))) (.cons (.idx (.idx (.lv 6) (.cst (.int 1))) (.lv 8)) .nil)))))))
  (.asg (.nm 2) (.var 4)))))
/-- the level's slot: its own list at first, later frozen -/
def lvS (b : Bool) (l : List PN) : Sl := if b = true then .mu (l.map pn) else .im (.lst (l.map pn))
section
variable {W : Nat} {cf : Nat → List Sl → FR}
theorem ch_comp {q0 q1 q2 q3 q4 a7 a8 a9 : Sl} {x : PN} (hz : x.1.length + x.2.ks.length ≤ 10000) : OkP (evE sb cf (.comp [7, 8] (.nm 8) (.rng1 (.b1 .len (.idx (.lv 6) (.cst (.int 1))))) (.cst (.bl true)) (.tup (.cons (.bin .add (.lv 5) (.tup (.cons (.var 8) .nil))) (.cons (.idx (.idx (.lv 6) (.cst (.int 1))) (.lv 8)) .nil)))) [q0, q1, q2, q3, q4, .im (pth x.1), .im x.2.d, a7, a8, a9])
    fun s σ => s = .mu ((chX x).map pn) ∧ σ = [q0, q1, q2, q3, q4, .im (pth x.1), .im x.2.d, a7, a8, a9] := by
  rw [Nd.d_eq x.2]
  repeat' walk_at "vc"
  refine ⟨rngIn_of (by omega) (by rw [List.length_map]; omega), ?_⟩
  repeat' walk_at "vc"
  have hc : ((chX x).map pn).length = x.2.ks.length := by rw [List.length_map]; exact chl_len _ _ _
  rw [rngL_map, List.length_map, show (((x.2.ks.length : Nat) : Int) - 0).toNat = x.2.ks.length by omega]
  refine comp_map _ (atD ((chX x).map pn)) _ (fun i hi => ⟨_, rfl, o_cst (tb_t ?_)⟩) ?_
  · have hi : i < x.2.ks.length := List.mem_range.mp hi
    unfold pth
    repeat' walk_at "vc"
    refine isO_tup (by rw [List.length_map]; exact sz_le (m := 10001) (by simp; omega)) ?_
    repeat' walk_at "vc"
    refine isD_atT (by omega) (d := (x.2.ks[i]).d) (by rw [show ((0 : Int) + (i : Int)).toNat = i by omega, List.getElem?_map, List.getElem?_eq_getElem hi]; rfl) ?_
    repeat' walk_at "vc"
    refine ⟨?_, rfl⟩
    unfold atD chX
    rw [List.getD_eq_getElem?_getD, List.getElem?_map, chl_get, List.getElem?_eq_getElem hi, Int.zero_add]
    show _ = pn (x.1 ++ [((0 + i : Nat) : Int)], x.2.ks[i])
    unfold pn pth
    rw [List.map_append, Nat.zero_add]
    rfl
  · rw [← hc, range_at]
    exact ⟨by rw [hc]; exact sz_le (m := 10000) (by omega), rfl, rfl⟩
theorem law_step {q0 a3 a4 a5 a6 a7 a8 a9 : Sl} {ro lv : List PN} {b : Bool} (hl : ∀ x ∈ lv, x.1.length + x.2.ks.length ≤ 10000) (hz : ro.length + lv.length + (lv.flatMap chX).length ≤ 100000) :
    OkP (evS W sb cf lawStep [q0, .mu (ro.map pn), lvS b lv, a3, a4, a5, a6, a7, a8, a9]) fun f σ => f = .nx ∧ ∃ a2 a4 a5 a6 : Sl, σ = [q0, .mu ((ro ++ lv).map pn), lvS false (lv.flatMap chX), a3, a4, a5, a6, a7, a8, a9] := by
  have key : OkP (evS W sb cf (.fr (.cs (.nm 5) (.cs (.nm 6) .nl)) (.var 2) (.asg (.nm 4) (.bin .add (.lv 4) (.comp [7, 8] (.nm 8) (.rng1 (.b1 .len (.idx (.lv 6) (.cst (.int 1))))) (.cst (.bl true)) (.tup (.cons (.bin .add (.lv 5) (.tup (.cons (.var 8) .nil))) (.cons (.idx (.idx (.lv 6) (.cst (.int 1))) (.lv 8)) .nil)))))))
      [q0, .mu ((ro ++ lv).map pn), lvS b lv, a3, .mu [], a5, a6, a7, a8, a9]) fun f σ => f = .nx ∧ ∃ a2 a5 a6 : Sl, σ = [q0, .mu ((ro ++ lv).map pn), a2, a3, .mu ((lv.flatMap chX).map pn), a5, a6, a7, a8, a9] := by
    refine S_for ?_
    have go : ∀ a2 : Sl, OkP (forF (.cs (.nm 5) (.cs (.nm 6) .nl)) (fun σ => evS W sb cf (.asg (.nm 4) (.bin .add (.lv 4) (.comp [7, 8] (.nm 8) (.rng1 (.b1 .len (.idx (.lv 6) (.cst (.int 1))))) (.cst (.bl true)) (.tup (.cons (.bin .add (.lv 5) (.tup (.cons (.var 8) .nil))) (.cons (.idx (.idx (.lv 6) (.cst (.int 1))) (.lv 8)) .nil)))))) σ) (lv.map pn)
        [q0, .mu ((ro ++ lv).map pn), a2, a3, .mu [], a5, a6, a7, a8, a9]) fun f σ => f = .nx ∧ ∃ a2 a5 a6 : Sl, σ = [q0, .mu ((ro ++ lv).map pn), a2, a3, .mu ((lv.flatMap chX).map pn), a5, a6, a7, a8, a9] := fun a2 => by
      refine for_inv (fun i σ => ∃ a5 a6 : Sl, σ = [q0, .mu ((ro ++ lv).map pn), a2, a3, .mu (((lv.take i).flatMap chX).map pn), a5, a6, a7, a8, a9]) ⟨_, _, rfl⟩ ?_ ?_
      · rintro i d σ hi ⟨a5, a6, rfl⟩
        rw [List.getElem?_map] at hi
        obtain ⟨x, hx, rfl⟩ := Option.map_eq_some_iff.mp hi
        have hm := List.mem_of_getElem? hx
        refine ⟨_, rfl, ?_⟩
        have et : (lv.take (i + 1)).flatMap chX = (lv.take i).flatMap chX ++ chX x := by
          rw [List.take_succ, hx, List.flatMap_append]
          simp
        have hl2 : ((lv.take (i + 1)).flatMap chX).length ≤ (lv.flatMap chX).length := by
          have : lv.flatMap chX = (lv.take (i + 1)).flatMap chX ++ (lv.drop (i + 1)).flatMap chX := by rw [← List.flatMap_append, List.take_append_drop]
          rw [this, List.length_append]
          omega
        rw [et, List.length_append] at hl2
        refine S_asg (o_bin (o_lv_mu rfl ?_))
        refine (ch_comp (hl x hm)).imp fun s σ ⟨e1, e2⟩ => ?_
        subst e1 e2
        repeat' walk_at "vc"
        refine isO_lst (by rw [List.length_map, List.length_map]; exact sz_le (m := 100000) (by omega)) ?_
        repeat' walk_at "vc"
        refine ⟨.im (pth x.1), .im x.2.d, ?_⟩
        rw [et, List.map_append (l₁ := (lv.take i).flatMap chX)]
        rfl
      · rintro σ ⟨a5, a6, rfl⟩
        rw [List.length_map, List.take_length]
        exact ⟨rfl, _, _, _, rfl⟩
    unfold lvS
    cases b with
    | true =>
      rw [if_pos rfl]
      repeat' walk_at "vc"
      exact go _
    | false =>
      rw [if_neg (by decide)]
      repeat' walk_at "vc"
      exact go _
  unfold lawStep
  refine S_seq (S_asg (o_bin ?_))
  have add : isO (bopD .add (.lst (ro.map pn)) (.lst (lv.map pn))) fun s => s = .mu ((ro ++ lv).map pn) := by
    refine isO_lst (by rw [List.length_map, List.length_map]; exact sz_le (m := 100000) (by omega)) ?_
    rw [List.map_append]
  obtain ⟨s, e, rfl⟩ := add
  have fin : OkP (evS W sb cf (.seq (.asg (.nm 4) (.lst .nil)) (.seq (.fr (.cs (.nm 5) (.cs (.nm 6) .nl)) (.var 2) (.asg (.nm 4) (.bin .add (.lv 4) (.comp [7, 8] (.nm 8) (.rng1 (.b1 .len (.idx (.lv 6) (.cst (.int 1))))) (.cst (.bl true)) (.tup (.cons (.bin .add (.lv 5) (.tup (.cons (.var 8) .nil))) (.cons (.idx (.idx (.lv 6) (.cst (.int 1))) (.lv 8)) .nil)))))))
      (.asg (.nm 2) (.var 4)))) [q0, .mu ((ro ++ lv).map pn), lvS b lv, a3, a4, a5, a6, a7, a8, a9]) fun f σ => f = .nx ∧ ∃ a2 a4 a5 a6 : Sl, σ = [q0, .mu ((ro ++ lv).map pn), lvS false (lv.flatMap chX), a3, a4, a5, a6, a7, a8, a9] := by
    rw [seq_run (σ1 := [q0, .mu ((ro ++ lv).map pn), lvS b lv, a3, .mu [], a5, a6, a7, a8, a9]) (by
      repeat' walk_at "vc"
      exact ⟨rfl, rfl⟩)]
    refine S_seq (key.imp fun f σ ⟨e1, a2, a5, a6, e2⟩ => ?_)
    subst e1 e2
    repeat' walk_at "vc"
    exact ⟨rfl, .un, _, _, _, rfl⟩
  cases b with
  | true =>
    refine o_lv_mu rfl (o_lv_mu rfl (wo_lv rfl (wd_mu (wo_lv rfl (wd_mu (isO_of e ?_))))))
    exact isA_of rfl (nx_nx fin)
  | false =>
    refine o_lv_mu rfl (o_lv_im rfl (wo_lv rfl (wd_mu (wo_lv rfl (wd_im (isO_of e ?_))))))
    exact isA_of rfl (nx_nx fin)
end
theorem lev_perm : ∀ lv : List PN, (lv ++ (lv.flatMap chX).flatMap nodesX).Perm (lv.flatMap nodesX)
  | [] => List.Perm.refl _
  | x :: lv => by
    have ih := lev_perm lv
    simp only [List.flatMap_cons, List.flatMap_append]
    rw [nodesX_eq x, List.cons_append, List.cons_append]
    refine List.Perm.cons _ ?_
    refine List.Perm.trans ?_ (List.Perm.append_left _ ih)
    rw [← List.append_assoc, ← List.append_assoc]
    exact List.Perm.append_right _ List.perm_append_comm
theorem law_nodes_s (h : prog[ln]? = some ⟨1, 10, false, lawNodesB fi⟩) (hf : prog[fi]? = some ⟨2, 4, false, lawFindB⟩) {g : Int} {n : Nd} (M : Mk n) (h7 : n.hgt ≤ 7) (hs : n.size ≤ 9000) : FrP (callK F sb prog (k + 2) ln [.im (mkt g n)]) fun s _ => s = .mu ((n.nodes []).map pn) := by
  refine frp_fn h rfl ?_
  unfold lawNodesB mkt
  repeat' walk_at "vc"
  refine ⟨rngIn_of (by decide) (by decide), ?_⟩
  repeat' walk_at "vc"
  refine for_inv (fun i σ => ∃ (ro lv : List PN) (b : Bool) (a3 a4 a5 a6 : Sl), σ = [.im (.tup [.int g, n.d]), .mu (ro.map pn), lvS b lv, a3, a4, a5, a6, .un, .un, .un] ∧ (ro ++ lv.flatMap nodesX).Perm (n.nodes []) ∧ ∀ x ∈ lv, x.1.length + x.2.hgt ≤ n.hgt ∧ x.2.hgt + i ≤ n.hgt) ?_ ?_ ?_
  · refine ⟨[], [([], n)], true, _, _, _, _, rfl, by simp [nodesX], fun x hx => ?_⟩
    rw [List.mem_singleton.mp hx]
    simp
  · rintro i d σ hi ⟨ro, lv, b, a3, a4, a5, a6, rfl, hp, hl⟩
    refine ⟨_, rfl, ?_⟩
    have hlen := hp.length_eq
    rw [List.length_append, nodes_len] at hlen
    have hsz := M.sz
    have hfl : lv.length + (lv.flatMap chX).length ≤ (lv.flatMap nodesX).length ∧ ∀ x ∈ lv, x.2.ks.length ≤ (lv.flatMap nodesX).length := by
      clear hp hlen hl
      induction lv with
      | nil => simp
      | cons x lv ih =>
        have e1 : (nodesX x).length = 1 + ((chX x).flatMap nodesX).length := by rw [nodesX_eq, List.length_cons]; omega
        have e2 := wt_ge (chX x)
        have e3 : (chX x).length = x.2.ks.length := chl_len _ _ _
        unfold wt at e2
        simp only [List.flatMap_cons, List.length_append, List.length_cons]
        refine ⟨by omega, fun y hy => ?_⟩
        rcases List.mem_cons.mp hy with rfl | hy
        · omega
        · have := ih.2 y hy
          omega
    have hh := M.hg
    refine (law_step (a3 := .im d) (b := b) (ro := ro) (lv := lv) (fun x hx => ?_) (by omega)).imp fun f σ ⟨e1, a2, a4, a5, a6, e2⟩ => ?_
    · have := hfl.2 x hx
      have := (hl x hx).1
      have := x.2.hgt_pos
      have : x.1.length ≤ 7 := by omega
      have : x.2.ks.length + 1 ≤ x.2.size := by
        have := wt_ch x
        have := wt_ge (chX x)
        have : (chX x).length = x.2.ks.length := chl_len _ _ _
        omega
      have : x.2.size + 7 ≤ 10000 := by
        have h1 : (nodesX x).length ≤ (lv.flatMap nodesX).length := by
          obtain ⟨s, t, rfl⟩ := List.append_of_mem hx
          simp only [List.flatMap_append, List.flatMap_cons, List.length_append]
          omega
        rw [nodesX_len] at h1
        omega
      omega
    · subst e1 e2
      refine ⟨_, _, _, _, _, _, _, rfl, ?_, ?_⟩
      · refine List.Perm.trans ?_ hp
        rw [List.append_assoc]
        refine List.Perm.append_left _ ?_
        exact lev_perm lv
      · intro y hy
        obtain ⟨x, hx, hy⟩ := List.mem_flatMap.mp hy
        have h1 := ch_hgt hy
        have h2 := hl x hx
        obtain ⟨j, _, e, _⟩ := chl_mem hy
        rw [e, List.length_append]
        simp only [List.length_cons, List.length_nil]
        omega
  · rintro σ ⟨ro, lv, b, a3, a4, a5, a6, rfl, hp, hl⟩
    rw [rng_len] at hl
    have : lv = [] := by
      cases lv with
      | nil => rfl
      | cons x lv =>
        exfalso
        have := (hl x (List.mem_cons_self ..)).2
        have := x.2.hgt_pos
        have : ((7 : Int) - 0).toNat = 7 := rfl
        omega
    subst this
    simp only [List.flatMap_nil, List.append_nil] at hp
    have hz : ro.length ≤ 10000 := by rw [hp.length_eq, nodes_len]; exact M.sz
    have hz2 : (n.nodes []).length ≤ 10000 := by rw [nodes_len]; exact M.sz
    repeat' walk_at "vc"
    refine comp_map pn (fun x => pth x.1) ro (fun y hy => ⟨_, rfl, o_cst (tb_t ?_)⟩) ?_
    · unfold pn
      repeat' walk_at "vc"
      exact ⟨rfl, rfl⟩
    · refine ⟨by rw [List.length_map]; exact sz_le hz, ?_⟩
      repeat' walk_at "vc"
      refine isO_of (s := .mu ((n.nodes []).map fun x => pth x.1)) ?_ ?_
      · have a1 := sortOk_pth (ro.map Prod.fst)
        have a2 := allO_pth (ro.map Prod.fst)
        have a3 := sort_paths hp
        rw [List.map_map] at a1 a2
        have hne : ro ≠ [] := fun z => by
          have := hp.length_eq
          rw [z, nodes_len, List.length_nil] at this
          have := n.size_pos
          omega
        rw [if_neg (by simpa using hne)] at a2
        show (match allO D.i? (ro.map fun x : PN => pth x.1) with
          | some ns => some (Sl.mu ((sortI ns).map D.int))
          | none => if sortOk (ro.map fun x : PN => pth x.1) = true then some (Sl.mu (sortD (ro.map fun x : PN => pth x.1))) else none) = _
        rw [show allO D.i? (ro.map fun x : PN => pth x.1) = none from a2, show sortOk (ro.map fun x : PN => pth x.1) = true from a1, a3]
        show some (Sl.mu (n.paths.map pth)) = _
        unfold Nd.paths
        rw [List.map_map]
        rfl
      · refine it_mu (comp_map (fun x : PN => pth x.1) pn (n.nodes []) (fun x hx => ⟨_, rfl, o_cst (tb_t ?_)⟩) ?_)
        · repeat' walk_at "vc"
          refine (find_ok (k := k) hf (find_of hx)).imp fun s _ e => ?_
          subst e
          repeat' walk_at "vc"
          exact ⟨rfl, rfl⟩
        · refine ⟨by rw [List.length_map]; exact sz_le hz2, ?_⟩
          repeat' walk_at "vc"
          rfl
theorem law_ends_s {le : Nat} (hn : prog[ln]? = some ⟨1, 10, false, lawNodesB fi⟩) (hf : prog[fi]? = some ⟨2, 4, false, lawFindB⟩) (h : prog[le]? = some ⟨1, 4, false, lawEndsB ln⟩) {g : Int} {n : Nd} (M : Mk n) (h7 : n.hgt ≤ 7) (hs : n.size ≤ 9000) : FrP (callK F sb prog (k + 3) le [.im (mkt g n)]) fun s _ => s = .mu (n.ends.map pth) := by
  refine frp_fn h rfl ?_
  unfold lawEndsB
  repeat' walk_at "vc"
  refine (law_nodes_s (k := k) hn hf M h7 hs).imp fun s _ e => ?_
  subst e
  repeat' walk_at "vc"
  have hz2 : (n.nodes []).length ≤ 10000 := by rw [nodes_len]; exact M.sz
  refine comp_mapF pn (fun x => pth x.1) leafB (n.nodes []) (fun y hy => ⟨_, rfl, ?_⟩) ?_
  · unfold leafB
    have el : (((y.2.ks.map Nd.d).length : Nat) : Int) = (y.2.ks.length : Int) := by rw [List.length_map]
    by_cases h0 : (y.2.ks.length : Int) = 0
    · have h1 : (((y.2.ks.map Nd.d).length : Nat) : Int) = 0 := by rw [el]; exact h0
      rw [Nd.d_eq y.2]
      repeat' walk_at "vc"
      refine ⟨decide_eq_true h0, ?_⟩
      repeat' walk_at "vc"
      exact ⟨rfl, rfl⟩
    · have h1 : ¬ (((y.2.ks.map Nd.d).length : Nat) : Int) = 0 := by rw [el]; exact h0
      rw [Nd.d_eq y.2]
      repeat' walk_at "vc"
      exact ⟨decide_eq_false h0, rfl⟩
  · refine ⟨by rw [List.length_map]; exact sz_le (Nat.le_trans (List.length_filter_le _ _) hz2), ?_⟩
    repeat' walk_at "vc"
    show Sl.mu _ = Sl.mu _
    unfold Nd.ends leaves
    rw [List.map_map]
    rfl
end
end Rf
/-! Hm3: the drawing of markets. -/
namespace Rf
open PySem
theorem isD_q0 {x : Rat} {Q : D → Prop} (h : Q (.int x.num)) : isD (idxD (dq x) (.int 0)) Q := isD_t0 h
theorem isD_q1 {x : Rat} {Q : D → Prop} (h : Q (.int (x.den : Int))) : isD (idxD (dq x) (.int 1)) Q := isD_t1 h
local macro_rules | `(tactic| walk_at "vc") => `(tactic| first
  | (with_reducible refine' S_seq ?_)
  | ((with_reducible refine' o_lv_im ?e ?h); (case e => rfl))
  | (with_reducible refine' o_cst ?_)
  | ((with_reducible refine' wo_lv ?e ?h); (case e => rfl))
  | (with_reducible refine' wd_im ?_)
  | (with_reducible refine' wd_mu ?_)
  | ((with_reducible refine' o_var_im ?e ?h); (case e => rfl))
  | (with_reducible refine' o_bin ?_)
  | (with_reducible refine' o_cmp ?_)
  | (with_reducible refine' o_idx ?_)
  | ((with_reducible refine' o_lv_mu ?e ?h); (case e => rfl))
  | (with_reducible refine' o_cons ?_)
  | (with_reducible refine' o_nil ?_)
  | (with_reducible refine' mu_of ?_)
  | (with_reducible refine' nx_nx ?_)
  | (with_reducible refine' nx_rt ?_)
  | (with_reducible refine' nx_bk ?_)
  | (with_reducible refine' nx_ct ?_)
  | (with_reducible refine' tb_t ?_)
  | (with_reducible refine' tb_f ?_)
  | ((with_reducible refine' tb_yes ?e ?h); (case e => first | assumption | decide +kernel))
  | ((with_reducible refine' tb_no ?e ?h); (case e => first | assumption | decide +kernel))
  | ((with_reducible refine' tb_dec ?_ ?_) <;> intro hc <;> try (first | contradiction | (exfalso; omega)))
  | ((with_reducible refine' tb_ndec ?_ ?_) <;> intro hc <;> try (first | contradiction | (exfalso; omega)))
  | (with_reducible refine' S_asg ?_)
  | (with_reducible refine' S_cond ?_)
  | (with_reducible refine' S_ret ?_)
  | (with_reducible refine' S_skip ?_)
  | ((with_reducible refine' isA_of ?e ?h); (case e => rfl))
  | ((with_reducible refine' isB'_of ?e ?h); (case e => with_reducible assumption))
  | (with_reducible refine' isB'_eq_ii ?_)
  | (with_reducible refine' isB'_eq_bb ?_)
  | (with_reducible refine' isB'_ne_bb ?_)
  | (with_reducible refine' isB'_ne_ii ?_)
  | (with_reducible refine' isB'_eq_ss ?_)
  | (with_reducible refine' isB'_ne_ss ?_)
  | ((with_reducible refine' isO_mod ?e ?h); (case e => first | omega | assumption))
  | ((with_reducible refine' isO_fdv ?e ?h); (case e => first | decide | assumption))
  | ((with_reducible refine' isO_mul ?e ?h); (case e => first | decide | assumption))
  | ((with_reducible refine' isO_of ?e ?h); (case e => rfl))
  | ((with_reducible refine' hasMu_of ?e ?h); (case e => rfl))
  | (with_reducible refine' isInt_of ?_)
  | ((with_reducible refine' isN_of ?e ?h); (case e => rfl))
  | (with_reducible refine' isD_t0 ?_)
  | (with_reducible refine' isD_q0 ?_)
  | (with_reducible refine' isD_q1 ?_)
  | (with_reducible refine' isD_t1 ?_)
  | (with_reducible refine' isD_t2 ?_)
  | (with_reducible refine' isD_l0 ?_)
  | (with_reducible refine' isD_l1 ?_)
  | ((with_reducible refine' isD_of ?e ?h); (case e => rfl))
  | ((with_reducible refine' isB'_of (k := false) ?e ?h); (case e => decide +kernel))
  | ((with_reducible refine' isB'_of (k := true) ?e ?h); (case e => decide +kernel))
  | ((with_reducible refine' isB'_of ?e ?h); (case e => rfl))
  | (with_reducible refine' o_tup ?_)
  | (with_reducible refine' o_lst ?_)
  | ((with_reducible refine' sz_of ?e ?h); (case e => exact Nat.le_of_ble_eq_true rfl))
  | (with_reducible refine' o_b1 ?_)
  | (with_reducible refine' o_b2 ?_)
  | (with_reducible refine' o_an ?_)
  | (with_reducible refine' o_orr ?_)
  | (with_reducible refine' o_nt ?_)
  | (with_reducible refine' o_tr ?_)
  | (with_reducible refine' o_ite ?_)
  | (with_reducible refine' o_slc ?_)
  | (with_reducible refine' bd_non ?_)
  | (with_reducible refine' bd_int ?_)
  | ((with_reducible refine' o_var_mu ?e ?h); (case e => rfl))
  | (with_reducible refine' o_glo ?_)
  | ((with_reducible refine' S_rtv_im ?e ?h); (case e => rfl))
  | ((with_reducible refine' S_rtv_mu ?e ?h); (case e => rfl))
  | (with_reducible refine' S_rtn ?_)
  | (with_reducible refine' S_brk ?_)
  | (with_reducible refine' S_cnt ?_)
  | (with_reducible refine' S_exp ?_)
  | ((with_reducible refine' S_app ?e ?h); (case e => rfl))
  | ((with_reducible refine' S_aug ?e ?h); (case e => rfl))
  | (with_reducible refine' isI_of ?_)
  | (with_reducible refine' S_par ?_)
  | (with_reducible refine' S_six ?_)
  | (with_reducible refine' S_for ?_)
  | (with_reducible refine' S_whl ?_)
  | (with_reducible refine' o_rng1 ?_)
  | (with_reducible refine' o_rng2 ?_)
  | (with_reducible refine' o_comp ?_)
  | (with_reducible refine' o_call ?_)
  | ((with_reducible refine' o_cio ?e ?h); (case e => rfl))
  | (with_reducible refine' o_neg ?_)
  | (with_reducible refine' o_rep ?_)
  | (with_reducible refine' o_chn ?_)
  | (with_reducible refine' it_mu ?_)
  | (with_reducible refine' it_tp ?_)
  | (with_reducible refine' it_ls ?_)
  | ((with_reducible refine' wo_o ?e ?h); (case e => exact fun _ z => nomatch z)))

def spreadB (t pl mi : Nat) : IS :=
  (.seq (.asg (.nm 2) (.idx (.tup (.cons (.tup (.cons (.cst (.int 0)) (.cons (.cst (.int 1)) .nil))) (.cons (.tup (.cons (.cst (.int 0)) (.cons (.cst (.int 1)) .nil))) (.cons (.tup (.cons (.cst (.int 1)) (.cons (.cst (.int 4)) .nil))) (.cons (.tup (.cons (.cst (.int 1)) (.cons (.cst (.int 2)) .nil))) (.cons (.tup (.cons (.cst (.int 1)) (.cons (.cst (.int 1)) .nil))) .nil)))))) (.cio t 0 (.cons (.cst (.int 5)) .nil))))
  (.seq (.asg (.nm 3) (.call mi (.cons (.var 1) (.cons (.var 2) .nil))))
  (.ret (.tup (.cons (.call pl (.cons (.var 1) (.cons (.var 2) .nil))) (.cons (.ite (.cmp .ge (.idx (.lv 3) (.cst (.int 0))) (.cst (.int 0))) (.var 3) (.tup (.cons (.cst (.int 0)) (.cons (.cst (.int 1)) .nil)))) .nil))))))

def nodeB (t f pl tm sp nd : Nat) : IS :=
  (.seq (.asg (.nm 5) (.ite (.cmp .eq (.lv 2) (.lv 3)) (.cst (.int 0)) (.bin .add (.cst (.int 1)) (.cio t 0 (.cons (.ite (.cmp .eq (.lv 3) (.cst (.int 1))) (.cst (.int 3)) (.cst (.int 2))) .nil)))))
  (.seq (.asg (.nm 7) (.comp [14, 6] (.nm 6) (.rng1 (.var 5)) (.cst (.bl true)) (.cio nd 0 (.cons (.var 1) (.cons (.bin .add (.lv 2) (.cst (.int 1))) (.cons (.var 3) (.cons (.var 4) .nil)))))))
  (.seq (.asg (.nm 8) (.comp [14, 6] (.nm 6) (.rng1 (.var 5)) (.cst (.bl true)) (.bin .add (.cst (.int 1)) (.cio t 0 (.cons (.cst (.int 3)) .nil)))))
  (.seq (.asg (.nm 9) (.lst .nil))
  (.seq (.fr (.nm 10) (.rng1 (.bin .sub (.lv 1) (.cst (.int 1)))) (.seq (.asg (.nm 11) (.call f (.cons (.cio t 0 (.cons (.cst (.int 9)) .nil)) (.cons (.bin .add (.cst (.int 1)) (.cio t 0 (.cons (.cst (.int 2)) .nil))) .nil))))
  (.seq (.cond (.an (.cmp .gt (.lv 5) (.cst (.int 0))) (.nt (.tr (.lv 4)))) (.seq (.asg (.nm 12) (.tup (.cons (.cst (.int 0)) (.cons (.cst (.int 1)) .nil))))
  (.seq (.fr (.nm 6) (.rng1 (.var 5)) (.asg (.nm 12) (.call pl (.cons (.var 12) (.cons (.call tm (.cons (.idx (.idx (.idx (.lv 7) (.lv 6)) (.cst (.int 1))) (.lv 10)) (.cons (.tup (.cons (.idx (.lv 8) (.lv 6)) (.cons (.cst (.int 1)) .nil))) .nil))) .nil)))))
  (.asg (.nm 11) (.call tm (.cons (.var 12) (.cons (.tup (.cons (.cst (.int 1)) (.cons (.b1 .sum (.lv 8)) .nil))) .nil)))))) .skip)
  (.app 9 (.var 11)))))
  (.seq (.asg (.nm 13) (.b1 .tuple (.comp [14, 11] (.nm 11) (.var 9) (.cst (.bl true)) (.cio sp 0 (.cons (.var 11) .nil)))))
  (.ret (.tup (.cons (.tup (.cons (.var 13) (.cons (.b1 .tuple (.comp [14, 15] (.nm 15) (.var 7) (.cst (.bl true)) (.idx (.lv 15) (.cst (.int 0))))) .nil))) (.cons (.var 9) .nil))))))))))

def marketB (t nd : Nat) : IS :=
  (.seq (.asg (.nm 2) (.bin .add (.cst (.int 1)) (.cio t 0 (.cons (.var 1) .nil))))
  (.seq (.cond (.an (.cmp .eq (.lv 2) (.cst (.int 1))) (.cmp .gt (.cio t 0 (.cons (.cst (.int 3)) .nil)) (.cst (.int 0)))) (.asg (.nm 2) (.cst (.int 2))) .skip)
  (.seq (.asg (.nm 3) (.cmp .eq (.cio t 0 (.cons (.cst (.int 5)) .nil)) (.cst (.int 1))))
  (.ret (.tup (.cons (.var 2) (.cons (.idx (.cio nd 0 (.cons (.var 2) (.cons (.cst (.int 0)) (.cons (.cio t 0 (.cons (.cst (.int 3)) .nil)) (.cons (.var 3) .nil))))) (.cst (.int 0))) .nil)))))))

def pq (x y : Rat) : Pq := ⟨x.num, x.den, y.num, y.den⟩
theorem pq_d (x y : Rat) : (pq x y).d = .tup [dq x, dq y] := rfl
/-- a drawn pair of prices -/
def PrP (n : Nat) (p : Pq) : Prop := ∃ x y : Rat, p = pq x y ∧ QB n x ∧ QB n y ∧ 0 ≤ y ∧ y ≤ x
def psok (B : Nat) (g : Int) (ps : List Pq) : Prop := ps.length = (g - 1).toNat ∧ ∀ p ∈ ps, PrP B p
def PB : Nat := 110
def Nd.good (B : Nat) (g : Int) : Nat → Nd → Prop
  | 0, n => psok B g n.ps ∧ n.ks = []
  | h + 1, n => psok B g n.ps ∧ n.ks ≠ [] ∧ n.ks.length ≤ 3 ∧ ∀ k ∈ n.ks, k.good B g h
theorem dq_int (w : Int) : dq (w : Rat) = .tup [.int w, .int 1] := rfl
theorem dq_inv {s : Int} (h : 0 < s) : dq (1 / (s : Rat)) = .tup [.int 1, .int s] := by
  have e := fr_dq (a := 1) (b := s) (by omega)
  have e2 : ((1 : Int) : Rat) = 1 := rfl
  rw [e2] at e
  rw [← e]
  unfold fr frN frD
  rw [if_neg (by omega), if_neg (by omega), show Int.gcd 1 s = 1 from Int.one_gcd]
  simp
theorem qb_int {n : Nat} {w : Int} (h : Bd n w) (h1 : 0 < n) : QB n (w : Rat) := ⟨h, by show Bd n 1; unfold Bd; exact Nat.one_lt_two_pow (by omega)⟩
theorem qb_inv {n : Nat} {s : Int} (h0 : 0 < s) (h : Bd n s) (h1 : 0 < n) : QB n (1 / (s : Rat)) := by
  have := qb_fr (n := n) (a := 1) (b := s) (by omega) (by unfold Bd; exact Nat.one_lt_two_pow (by omega)) h
  exact this
theorem rat_nn_div {a b : Int} (ha : 0 ≤ a) (hb : 0 < b) : (0 : Rat) ≤ (a : Rat) / (b : Rat) := by
  rw [← Rat.divInt_eq_div]
  exact Rat.divInt_nonneg ha (by omega)
def fiveQ (i : Nat) : Rat := [0, 0, 1 / 4, 1 / 2, 1].getD i 0
theorem five_ok : ∀ i : Fin 5, 0 ≤ fiveQ i ∧ (fiveQ i).num.natAbs < 2 ^ 4 ∧ ((fiveQ i).den : Int).natAbs < 2 ^ 4 := by decide +kernel
theorem five_at (i : Nat) (h : i < 5) : ([.tup [.int 0, .int 1], .tup [.int 0, .int 1], .tup [.int 1, .int 4], .tup [.int 1, .int 2], .tup [.int 1, .int 1]] : List D)[i]? = some (dq (fiveQ i)) := by
  rcases i with _ | _ | _ | _ | _ | i
  · rfl
  · rfl
  · have e : dq (1 / 4 : Rat) = .tup [.int 1, .int 4] := dq_of 1 4 _ (by decide +kernel) (by decide +kernel)
    exact congrArg some e.symm
  · have e : dq (1 / 2 : Rat) = .tup [.int 1, .int 2] := dq_of 1 2 _ (by decide +kernel) (by decide +kernel)
    exact congrArg some e.symm
  · rfl
  · omega
/-- the drawing defs stand in the program -/
structure MkH (F : Nat) (sb : Sub) (prog : List FnI) (t f gc pl mi tm sp nd : Nat) : Prop where
  F0 : 2 ^ 4000 ≤ F
  htake : ∀ k, TakeS (callK F sb prog (k + 1) t)
  hgc : prog[gc]? = some ⟨2, 2, false, gcdB⟩
  hf : prog[f]? = some ⟨2, 3, false, fB gc⟩
  hpl : prog[pl]? = some ⟨2, 2, false, plusB f⟩
  hmi : prog[mi]? = some ⟨2, 2, false, minusB f⟩
  htm : prog[tm]? = some ⟨2, 2, false, timesB f⟩
  hsp : prog[sp]? = some ⟨2, 4, true, spreadB t pl mi⟩
  hnd : prog[nd]? = some ⟨5, 16, true, nodeB t f pl tm sp nd⟩
section
variable {F : Nat} {sb : Sub} {prog : List FnI} {t f gc pl mi tm sp nd mk : Nat}
theorem MkH.frs (H : MkH F sb prog t f gc pl mi tm sp nd) (k : Nat) : FrS (callK F sb prog (k + 2) f) := lawf_frs H.F0 H.hf H.hgc
theorem MkH.plus (H : MkH F sb prog t f gc pl mi tm sp nd) {k n m : Nat} {x y : Rat} (hx : QB n x) (hy : QB m y) (h0 : 0 < n) (g0 : 0 < m) (hs : n + m ≤ 3000) : FrP (callK F sb prog (k + 3) pl [.im (dq x), .im (dq y)]) fun s _ => s = .im (dq (x + y)) := plus_q H.hpl (H.frs k) hx hy h0 g0 hs
theorem MkH.minus (H : MkH F sb prog t f gc pl mi tm sp nd) {k n m : Nat} {x y : Rat} (hx : QB n x) (hy : QB m y) (h0 : 0 < n) (g0 : 0 < m) (hs : n + m ≤ 3000) : FrP (callK F sb prog (k + 3) mi [.im (dq x), .im (dq y)]) fun s _ => s = .im (dq (x - y)) := minus_q H.hmi (H.frs k) hx hy h0 g0 hs
theorem MkH.times (H : MkH F sb prog t f gc pl mi tm sp nd) {k n m : Nat} {x y : Rat} (hx : QB n x) (hy : QB m y) (h0 : 0 < n) (g0 : 0 < m) (hs : n + m ≤ 3000) : FrP (callK F sb prog (k + 3) tm [.im (dq x), .im (dq y)]) fun s _ => s = .im (dq (x * y)) := times_q H.htm (H.frs k) hx hy h0 g0 hs
theorem MkH.frac (H : MkH F sb prog t f gc pl mi tm sp nd) {k : Nat} {a b : Int} (hb : b ≠ 0) (h : Bd 4000 b) : FrP (callK F sb prog (k + 2) f [.im (.int a), .im (.int b)]) fun s _ => s = .im (dq ((a : Rat) / (b : Rat))) := frs_q (H.frs k) hb h
theorem MkH.spread (H : MkH F sb prog t f gc pl mi tm sp nd) {k n : Nat} {mid : Rat} (h0 : 0 ≤ mid) (hm : QB n mid) (hn : 0 < n) (hn2 : n ≤ 500) : DrawS (callK F sb prog (k + 4) sp) [dq mid] fun d => ∃ p, d = p.d ∧ PrP (n + 5) p := fun c hc => by
  refine frp_fn H.hsp rfl ?_
  unfold spreadB
  repeat' walk_at "vc"
  refine (H.htake (k + 2)).go hc (by omega) (by omega) fun r cs h1 h2 hc => ?_
  repeat' walk_at "vc"
  obtain ⟨i, rfl⟩ : ∃ i : Nat, r = i := ⟨r.toNat, by omega⟩
  have hi : i < 5 := by omega
  obtain ⟨s0, s1, s2⟩ := five_ok ⟨i, hi⟩
  have sq : QB 4 (fiveQ i) := ⟨s1, s2⟩
  refine isD_atT (by omega) (d := dq (fiveQ i)) (by rw [Int.toNat_natCast]; exact five_at i hi) ?_
  change 0 ≤ fiveQ i at s0
  generalize fiveQ i = s at *
  repeat' walk_at "vc"
  refine (H.minus (k := k) hm sq hn (by decide) (by omega)).imp fun q _ e => ?_
  subst e
  repeat' walk_at "vc"
  refine (H.plus (k := k) hm sq hn (by decide) (by omega)).imp fun q _ e => ?_
  subst e
  have qp := qb_plus hm sq
  have qm := qb_minus hm sq
  repeat' walk_at "vc"
  · have h9 : 0 ≤ mid - s := num_nn.mp ‹_›
    exact ⟨_, _, rfl, rfl, ⟨pq (mid + s) (mid - s), rfl, _, _, rfl, qp.mono (by omega), qm.mono (by omega), h9, by grind⟩, hc⟩
  · exact ⟨_, _, rfl, rfl, ⟨pq (mid + s) 0, rfl, _, _, rfl, qp.mono (by omega), ⟨by show Bd _ 0; unfold Bd; exact Nat.two_pow_pos _, by show Bd _ 1; unfold Bd; exact Nat.one_lt_two_pow (by omega)⟩, by grind, by grind⟩, hc⟩
def BN : Nat → Nat
  | 0 => 5
  | h + 1 => 3 * BN h + 15
/-- a drawn node with its middles -/
def NP (g : Int) (h : Nat) (d : D) : Prop := ∃ (n : Nd) (ms : List Rat), d = .tup [n.d, .lst (ms.map dq)] ∧ ms.length = (g - 1).toNat ∧ (∀ m ∈ ms, 0 ≤ m ∧ QB (BN h) m) ∧ n.good PB g h
/-- a child with its middles -/
def chD (x : Nd × List Rat) : D := .tup [x.1.d, .lst (x.2.map dq)]
def ChP (g : Int) (h : Nat) (x : Nd × List Rat) : Prop := x.2.length = (g - 1).toNat ∧ (∀ m ∈ x.2, 0 ≤ m ∧ QB (BN h) m) ∧ x.1.good PB g h
theorem BN_pos (h : Nat) : 5 ≤ BN h := by
  cases h with
  | zero => exact Nat.le_refl _
  | succ h => rw [BN]; omega
theorem BN_s (h : Nat) : BN (h + 1) = 3 * BN h + 15 := rfl
theorem BN_le {h : Nat} (hh : h ≤ 2) : BN h ≤ 105 := by
  rcases h with _ | _ | _ | h
  · decide
  · decide
  · decide
  · omega
def midB (t f pl tm : Nat) : IS := (.seq (.asg (.nm 11) (.call f (.cons (.cio t 0 (.cons (.cst (.int 9)) .nil)) (.cons (.bin .add (.cst (.int 1)) (.cio t 0 (.cons (.cst (.int 2)) .nil))) .nil))))
  (.seq (.cond (.an (.cmp .gt (.lv 5) (.cst (.int 0))) (.nt (.tr (.lv 4)))) (.seq (.asg (.nm 12) (.tup (.cons (.cst (.int 0)) (.cons (.cst (.int 1)) .nil))))
  (.seq (.fr (.nm 6) (.rng1 (.var 5)) (.asg (.nm 12) (.call pl (.cons (.var 12) (.cons (.call tm (.cons (.idx (.idx (.idx (.lv 7) (.lv 6)) (.cst (.int 1))) (.lv 10)) (.cons (.tup (.cons (.idx (.lv 8) (.lv 6)) (.cons (.cst (.int 1)) .nil))) .nil))) .nil)))))
  (.asg (.nm 11) (.call tm (.cons (.var 12) (.cons (.tup (.cons (.cst (.int 1)) (.cons (.b1 .sum (.lv 8)) .nil))) .nil)))))) .skip)
  (.app 9 (.var 11))))
theorem sum_bd : ∀ (ws : List Int), (∀ w ∈ ws, 1 ≤ w ∧ w ≤ 3) → (ws.length : Int) ≤ ws.sum ∧ ws.sum ≤ 3 * ws.length
  | [], _ => by simp
  | w :: ws, h => by
    have h1 := sum_bd ws fun x hx => h x (List.mem_cons_of_mem _ hx)
    have h2 := h w (List.mem_cons_self ..)
    rw [List.sum_cons, List.length_cons]
    omega
theorem MkH.mid (H : MkH F sb prog t f gc pl mi tm sp nd) {k h m : Nat} {g : Int} {q1 q2 q3 a6 a11 a12 a13 a14 a15 : Sl} {wild : Bool} {cs : List D} {ch : List (Nd × List Rat)} {ws : List Int} {ms : List Rat} {j : Nat} (hc : DS cs) (hh : h ≤ 2)
    (hm : ch.length = m) (hw : ws.length = m) (hm3 : m ≤ 3) (hch : ∀ x ∈ ch, ∃ h', h = h' + 1 ∧ ChP g h' x) (hws : ∀ w ∈ ws, 1 ≤ w ∧ w ≤ 3) (hj : j < (g - 1).toNat) (hg : g ≤ 1000) (hl : ms.length = j) (hms : ∀ x ∈ ms, 0 ≤ x ∧ QB (BN h) x) :
    OkP (evS F sb (callK F sb prog (k + 3)) (midB t f pl tm) [.mu cs, q1, q2, q3, .im (.bl wild), .im (.int (m : Int)), a6, .mu (ch.map chD), .mu (ws.map D.int), .mu (ms.map dq), .im (.int (0 + (j : Int))), a11, a12, a13, a14, a15]) fun fl σ => fl = .nx ∧
      ∃ (cs : List D) (ms : List Rat) (a6 a11 a12 : Sl), σ = [.mu cs, q1, q2, q3, .im (.bl wild), .im (.int (m : Int)), a6, .mu (ch.map chD), .mu (ws.map D.int), .mu (ms.map dq), .im (.int (0 + (j : Int))), a11, a12, a13, a14, a15] ∧ DS cs ∧ ms.length = j + 1 ∧ ∀ x ∈ ms, 0 ≤ x ∧ QB (BN h) x := by
  have bh := BN_le hh
  have b0 := BN_pos h
  have fin : ∀ (cs : List D) (mid : Rat) (a6 a12 : Sl), DS cs → 0 ≤ mid → QB (BN h) mid → (ms.map dq).length < sizeLine ∧ Fl.nx = Fl.nx ∧
      ∃ (cs' : List D) (ms' : List Rat) (b6 b11 b12 : Sl), [.mu cs, q1, q2, q3, .im (.bl wild), .im (.int (m : Int)), a6, .mu (ch.map chD), .mu (ws.map D.int), .mu (ms.map dq ++ [dq mid]), .im (.int (0 + (j : Int))), .im (dq mid), a12, a13, a14, a15] = [.mu cs', q1, q2, q3, .im (.bl wild), .im (.int (m : Int)), b6, .mu (ch.map chD), .mu (ws.map D.int), .mu (ms'.map dq), .im (.int (0 + (j : Int))), b11, b12, a13, a14, a15] ∧ DS cs' ∧ ms'.length = j + 1 ∧ ∀ x ∈ ms', 0 ≤ x ∧ QB (BN h) x := fun cs mid a6 a12 hc h1 h2 => by
    refine ⟨by rw [List.length_map]; exact sz_lt (m := 1000) (by omega), rfl, cs, ms ++ [mid], a6, _, a12, by rw [List.map_append]; rfl, hc, by simp [hl], fun x hx => ?_⟩
    rcases List.mem_append.mp hx with hx | hx
    · exact hms x hx
    · rw [List.mem_singleton.mp hx]
      exact ⟨h1, h2⟩
  unfold midB
  refine S_seq ?_
  repeat' walk_at "vc"
  refine (H.htake (k + 2)).go hc (by omega) (by omega) fun r cs h1 h2 hc => ?_
  repeat' walk_at "vc"
  refine (H.htake (k + 2)).go hc (by omega) (by omega) fun r2 cs h3 h4 hc => ?_
  repeat' walk_at "vc"
  have hb : (1 + r2 : Int) ≠ 0 := by omega
  have bb : Bd 4 (1 + r2) := by unfold Bd; omega
  have ba : Bd 4 r := by unfold Bd; omega
  refine (H.frac (k := k + 1) hb (bd_mono bb (by decide))).imp fun s _ e => ?_
  subst e
  have m0 : (0 : Rat) ≤ (r : Rat) / ((1 + r2 : Int) : Rat) := rat_nn_div h1 (by omega)
  have mq : QB 4 ((r : Rat) / ((1 + r2 : Int) : Rat)) := qb_fr hb ba bb
  generalize (r : Rat) / ((1 + r2 : Int) : Rat) = mid at *
  walk_at "vc"
  walk_at "vc"
  refine S_seq ?_
  by_cases hm0 : 0 < (m : Int)
  · cases wild with
    | true =>
      repeat' walk_at "vc"
      exact fin cs mid _ _ hc m0 (mq.mono (by omega))
    | false =>
      obtain ⟨x0, hx0⟩ : ∃ x, x ∈ ch := by
        cases ch with
        | nil => simp at hm; omega
        | cons x ch => exact ⟨x, List.mem_cons_self ..⟩
      obtain ⟨h', rfl, _⟩ := hch x0 hx0
      rw [BN_s] at *
      have b1 := BN_pos h'
      refine S_cond ?_
      repeat' walk_at "vc"
      refine ⟨rngIn_of (by omega) (by omega), ?_⟩
      repeat' walk_at "vc"
      refine for_inv (fun i σ => ∃ (a6 : Sl) (T : Rat), σ = [.mu cs, q1, q2, q3, .im (.bl false), .im (.int (m : Int)), a6, .mu (ch.map chD), .mu (ws.map D.int), .mu (ms.map dq), .im (.int (0 + (j : Int))), .im (dq mid), .im (dq T), a13, a14, a15] ∧ 0 ≤ T ∧ QB (2 + i * (BN h' + 3)) T) ⟨_, 0, rfl, by decide, by show Bd _ 0; unfold Bd; exact Nat.two_pow_pos _, by show Bd _ 1; unfold Bd; exact Nat.one_lt_two_pow (by omega)⟩ ?_ ?_
      · rintro i d σ hi ⟨a6, T, rfl, hT, hq⟩
        obtain ⟨rfl, hi2⟩ := rng_get hi
        have hi3 : i < m := by omega
        refine ⟨_, rfl, ?_⟩
        have hx : ch[i]? = some (ch[i]'(by omega)) := List.getElem?_eq_getElem (by omega)
        have hw2 : ws[i]? = some (ws[i]'(by omega)) := List.getElem?_eq_getElem (by omega)
        have xm := List.mem_of_getElem? hx
        have wm := List.mem_of_getElem? hw2
        generalize (ch[i]'(by omega)) = x at *
        generalize (ws[i]'(by omega)) = w at *
        obtain ⟨h2, e2, x1, x2, x3⟩ := hch x xm
        obtain rfl : h' = h2 := by omega
        have hy : x.2[j]? = some (x.2[j]'(by omega)) := List.getElem?_eq_getElem (by omega)
        have ym := List.mem_of_getElem? hy
        generalize (x.2[j]'(by omega)) = y at *
        obtain ⟨y1, y2⟩ := x2 y ym
        have hwb := hws w wm
        have wq : QB 2 (w : Rat) := qb_int (by unfold Bd; omega) (by decide)
        have bi : i * (BN h' + 3) ≤ 2 * (BN h' + 3) := Nat.mul_le_mul_right _ (by omega)
        repeat' walk_at "vc"
        refine isD_at (by omega) (d := chD x) (by rw [show ((0 : Int) + (i : Int)).toNat = i by omega, List.getElem?_map, hx]; rfl) ?_
        unfold chD
        repeat' walk_at "vc"
        refine isD_at (by omega) (d := dq y) (by rw [show ((0 : Int) + (j : Int)).toNat = j by omega, List.getElem?_map, hy]; rfl) ?_
        repeat' walk_at "vc"
        refine isD_at (by omega) (d := .int w) (by rw [show ((0 : Int) + (i : Int)).toNat = i by omega, List.getElem?_map, hw2]; rfl) ?_
        repeat' walk_at "vc"
        refine (show FrP (callK F sb prog (k + 3) tm [.im (dq y), .im (dq (w : Rat))]) _ from H.times (k := k) y2 wq (by omega) (by decide) (by omega)).imp fun s _ e => ?_
        subst e
        repeat' walk_at "vc"
        refine (H.plus (k := k) hq (qb_times y2 wq) (by omega) (by omega) (by omega)).imp fun s _ e => ?_
        subst e
        repeat' walk_at "vc"
        refine ⟨_, _, rfl, ?_, (qb_plus hq (qb_times y2 wq)).mono (by rw [Nat.add_mul, Nat.one_mul]; omega)⟩
        have w0 : (0 : Rat) ≤ (w : Rat) := Rat.intCast_nonneg.mpr (by omega)
        have := Rat.mul_nonneg y1 w0
        grind
      · rintro σ ⟨a6, T, rfl, hT, hq⟩
        rw [rng_len, show ((m : Int) - 0).toNat = m by omega] at hq
        repeat' walk_at "vc"
        refine isO_sum ws (fun x => x) ?_
        rw [List.map_id']
        have hs := sum_bd ws hws
        have s0 : 0 < ws.sum := by omega
        have sq : QB 4 (1 / (ws.sum : Rat)) := qb_inv s0 (by unfold Bd; omega) (by decide)
        repeat' walk_at "vc"
        rw [← dq_inv s0]
        have bm : m * (BN h' + 3) ≤ 3 * (BN h' + 3) := Nat.mul_le_mul_right _ (by omega)
        refine (show FrP (callK F sb prog (k + 3) tm [.im (dq T), .im (dq (1 / (ws.sum : Rat)))]) _ from H.times (k := k) hq sq (by omega) (by decide) (by omega)).imp fun s _ e => ?_
        subst e
        repeat' walk_at "vc"
        refine fin cs _ _ _ hc ?_ ((qb_times hq sq).mono (by omega))
        have s1 : (0 : Rat) ≤ 1 / (ws.sum : Rat) := rat_nn_div (a := 1) (by decide) s0
        exact Rat.mul_nonneg hT s1
  · repeat' walk_at "vc"
    exact fin cs mid _ _ hc m0 (mq.mono (by omega))
theorem good_mk {g : Int} {h : Nat} {ps : List Pq} {ks : List Nd} (hp : psok PB g ps) (hk : (h = 0 ∧ ks = []) ∨ ∃ h', h = h' + 1 ∧ ks ≠ [] ∧ ks.length ≤ 3 ∧ ∀ k ∈ ks, k.good PB g h') : (Nd.mk ps ks).good PB g h := by
  rcases hk with ⟨rfl, rfl⟩ | ⟨h', rfl, a, b, c⟩
  · exact ⟨hp, rfl⟩
  · exact ⟨hp, a, b, c⟩
theorem nodeB_eq : nodeB t f pl tm sp nd = (.seq (.asg (.nm 5) (.ite (.cmp .eq (.lv 2) (.lv 3)) (.cst (.int 0)) (.bin .add (.cst (.int 1)) (.cio t 0 (.cons (.ite (.cmp .eq (.lv 3) (.cst (.int 1))) (.cst (.int 3)) (.cst (.int 2))) .nil)))))
  (.seq (.asg (.nm 7) (.comp [14, 6] (.nm 6) (.rng1 (.var 5)) (.cst (.bl true)) (.cio nd 0 (.cons (.var 1) (.cons (.bin .add (.lv 2) (.cst (.int 1))) (.cons (.var 3) (.cons (.var 4) .nil)))))))
  (.seq (.asg (.nm 8) (.comp [14, 6] (.nm 6) (.rng1 (.var 5)) (.cst (.bl true)) (.bin .add (.cst (.int 1)) (.cio t 0 (.cons (.cst (.int 3)) .nil)))))
  (.seq (.asg (.nm 9) (.lst .nil))
  (.seq (.fr (.nm 10) (.rng1 (.bin .sub (.lv 1) (.cst (.int 1)))) (midB t f pl tm))
  (.seq (.asg (.nm 13) (.b1 .tuple (.comp [14, 11] (.nm 11) (.var 9) (.cst (.bl true)) (.cio sp 0 (.cons (.var 11) .nil)))))
  (.ret (.tup (.cons (.tup (.cons (.var 13) (.cons (.b1 .tuple (.comp [14, 15] (.nm 15) (.var 7) (.cst (.bl true)) (.idx (.lv 15) (.cst (.int 0))))) .nil))) (.cons (.var 9) .nil)))))))))) := rfl
theorem MkH.rest (H : MkH F sb prog t f gc pl mi tm sp nd) {k h m : Nat} {g : Int} {q2 q3 : Sl} {wild : Bool} {cs : List D} {ch : List (Nd × List Rat)} (hc : DS cs) (hh : h ≤ 2) (hg1 : 1 ≤ g) (hg2 : g ≤ 1000)
    (hm : ch.length = m) (hm3 : m ≤ 3) (hm0 : h = 0 → m = 0) (hm1 : 0 < h → 0 < m) (hch : ∀ x ∈ ch, ∃ h', h = h' + 1 ∧ ChP g h' x) :
    OkP (evS F sb (callK F sb prog (k + 4)) (.seq (.asg (.nm 8) (.comp [14, 6] (.nm 6) (.rng1 (.var 5)) (.cst (.bl true)) (.bin .add (.cst (.int 1)) (.cio t 0 (.cons (.cst (.int 3)) .nil)))))
  (.seq (.asg (.nm 9) (.lst .nil))
  (.seq (.fr (.nm 10) (.rng1 (.bin .sub (.lv 1) (.cst (.int 1)))) (midB t f pl tm))
  (.seq (.asg (.nm 13) (.b1 .tuple (.comp [14, 11] (.nm 11) (.var 9) (.cst (.bl true)) (.cio sp 0 (.cons (.var 11) .nil)))))
  (.ret (.tup (.cons (.tup (.cons (.var 13) (.cons (.b1 .tuple (.comp [14, 15] (.nm 15) (.var 7) (.cst (.bl true)) (.idx (.lv 15) (.cst (.int 0))))) .nil))) (.cons (.var 9) .nil))))))))
      [.mu cs, .im (.int g), q2, q3, .im (.bl wild), .im (.int (m : Int)), .un, .mu (ch.map chD), .un, .un, .un, .un, .un, .un, .un, .un]) (endP true fun s io => ∃ d cs, s = .im d ∧ io = .mu cs ∧ NP g h d ∧ DS cs) := by
  repeat' walk_at "vc"
  refine ⟨rngIn_of (by omega) (by omega), ?_⟩
  repeat' walk_at "vc"
  refine comp_inv (fun i acc σ => ∃ (cs : List D) (ws : List Int), acc = ws.map D.int ∧ ws.length = i ∧ (∀ w ∈ ws, 1 ≤ w ∧ w ≤ 3) ∧ DS cs ∧ σ = [.mu cs, .im (.int g), q2, q3, .im (.bl wild), .im (.int (m : Int)), .un, .mu (ch.map chD), .un, .un, .un, .un, .un, .un, .un, .un]) ⟨cs, [], rfl, rfl, (fun _ z => nomatch z), hc, rfl⟩ ?_ ?_
  · rintro i d acc σ hi ⟨cs, ws, rfl, hl, hw, hc, rfl⟩
    refine ⟨_, rfl, o_cst (tb_t ?_)⟩
    repeat' walk_at "vc"
    refine (H.htake (k + 3)).go hc (by omega) (by omega) fun r cs h1 h2 hc => ?_
    repeat' walk_at "vc"
    refine ⟨cs, ws ++ [1 + r], by rw [List.map_append]; rfl, by simp [hl], fun w hw2 => ?_, hc, rfl⟩
    rcases List.mem_append.mp hw2 with hw2 | hw2
    · exact hw w hw2
    · rw [List.mem_singleton.mp hw2]
      omega
  rintro acc σ ⟨cs, ws, rfl, hl, hw, hc, rfl⟩
  rw [rng_len, show ((m : Int) - 0).toNat = m by omega] at hl
  refine ⟨by rw [List.length_map]; exact sz_le (m := 3) (by omega), ?_⟩
  repeat' walk_at "vc"
  refine ⟨rngIn_of (by omega) (by omega), ?_⟩
  repeat' walk_at "vc"
  refine for_inv (fun i σ => ∃ (cs : List D) (ms : List Rat) (a6 a10 a11 a12 : Sl), σ = [.mu cs, .im (.int g), q2, q3, .im (.bl wild), .im (.int (m : Int)), a6, .mu (ch.map chD), .mu (ws.map D.int), .mu (ms.map dq), a10, a11, a12, .un, .un, .un] ∧ DS cs ∧ ms.length = i ∧ ∀ x ∈ ms, 0 ≤ x ∧ QB (BN h) x) ⟨cs, [], _, _, _, _, rfl, hc, rfl, fun _ z => nomatch z⟩ ?_ ?_
  · rintro i d σ hi ⟨cs, ms, a6, a10, a11, a12, rfl, hc, hml, hms⟩
    obtain ⟨rfl, hi2⟩ := rng_get hi
    refine ⟨_, rfl, ?_⟩
    refine (H.mid (k := k + 1) (a14 := .un) (a15 := .un) (a13 := .un) (a6 := a6) (a11 := a11) (a12 := a12) (q1 := .im (.int g)) (q2 := q2) (q3 := q3) (wild := wild) hc hh hm hl hm3 hch hw (by omega) hg2 hml hms).imp fun fl σ ⟨e1, cs, ms, a6, a11, a12, e2, hc, h1, h2⟩ => ?_
    subst e1 e2
    exact ⟨cs, ms, _, _, _, _, rfl, hc, h1, h2⟩
  · rintro σ ⟨cs, ms, a6, a10, a11, a12, rfl, hc, hml, hms⟩
    rw [rng_len] at hml
    have b0 := BN_pos h
    have bh := BN_le hh
    repeat' walk_at "vc"
    refine comp_inv (fun i acc σ => ∃ (cs : List D) (ps : List Pq), acc = ps.map Pq.d ∧ ps.length = i ∧ (∀ p ∈ ps, PrP PB p) ∧ DS cs ∧ σ = [.mu cs, .im (.int g), q2, q3, .im (.bl wild), .im (.int (m : Int)), a6, .mu (ch.map chD), .mu (ws.map D.int), .im (.lst (ms.map dq)), a10, a11, a12, .un, .un, .un]) ⟨cs, [], rfl, rfl, (fun _ z => nomatch z), hc, rfl⟩ ?_ ?_
    · rintro i d acc σ hi ⟨cs, ps, rfl, hpl, hps, hc, rfl⟩
      rw [List.getElem?_map] at hi
      obtain ⟨x, hx, rfl⟩ := Option.map_eq_some_iff.mp hi
      obtain ⟨x1, x2⟩ := hms x (List.mem_of_getElem? hx)
      refine ⟨_, rfl, o_cst (tb_t ?_)⟩
      repeat' walk_at "vc"
      refine (H.spread (k := k) x1 x2 (by omega) (by omega)).go hc fun d cs ⟨p, e, p1⟩ hc => ?_
      subst e
      repeat' walk_at "vc"
      refine ⟨cs, ps ++ [p], by rw [List.map_append]; rfl, by simp [hpl], fun w hw2 => ?_, hc, rfl⟩
      rcases List.mem_append.mp hw2 with hw2 | hw2
      · exact hps w hw2
      · rw [List.mem_singleton.mp hw2]
        obtain ⟨x, y, e, c1, c2, c3⟩ := p1
        exact ⟨x, y, e, c1.mono (by unfold PB; omega), c2.mono (by unfold PB; omega), c3⟩
    · rintro acc σ ⟨cs, ps, rfl, hpl, hps, hc, rfl⟩
      rw [List.length_map] at hpl
      refine ⟨by rw [List.length_map]; exact sz_le (m := 1000) (by omega), ?_⟩
      repeat' walk_at "vc"
      refine comp_map chD (fun x => x.1.d) ch (fun x hx => ⟨_, rfl, o_cst (tb_t ?_)⟩) ?_
      · unfold chD
        repeat' walk_at "vc"
        exact ⟨rfl, rfl⟩
      · refine ⟨by rw [List.length_map]; exact sz_le (m := 3) (by omega), ?_⟩
        repeat' walk_at "vc"
        refine ⟨_, cs, rfl, rfl, ⟨.mk ps (ch.map Prod.fst), ms, ?_, by omega, hms, good_mk ⟨by omega, hps⟩ ?_⟩, hc⟩
        · rw [Nd.d_eq]
          simp only [Nd.ps, Nd.ks, List.map_map]
          rfl
        · rcases Nat.eq_zero_or_pos h with h0 | h0
          · left
            have := hm0 h0
            refine ⟨h0, ?_⟩
            have : ch = [] := List.eq_nil_of_length_eq_zero (by omega)
            rw [this]
            rfl
          · right
            have := hm1 h0
            refine ⟨h - 1, by omega, ?_, by rw [List.length_map]; omega, fun k hk => ?_⟩
            · intro z
              have := congrArg List.length z
              rw [List.length_map, List.length_nil] at this
              omega
            · obtain ⟨x, hx, rfl⟩ := List.mem_map.mp hk
              obtain ⟨h', e, _, _, hg⟩ := hch x hx
              rw [show h - 1 = h' by omega]
              exact hg
theorem MkH.node (H : MkH F sb prog t f gc pl mi tm sp nd) {g last : Int} {wild : Bool} (hg1 : 1 ≤ g) (hg2 : g ≤ 1000) (hl : 0 ≤ last) (hl2 : last ≤ 2) : ∀ (h k : Nat) (time : Int), h + 8 ≤ k → 0 ≤ time → last - time = h → DrawS (callK F sb prog k nd) [.int g, .int time, .int last, .bl wild] (NP g h) := by
  intro h
  induction h with
  | zero =>
    intro k time hk ht hlt c hc
    obtain ⟨k, rfl⟩ : ∃ j, k = j + 5 := ⟨k - 5, by omega⟩
    refine frp_fn H.hnd rfl ?_
    rw [nodeB_eq]
    have e : time = last := by omega
    rw [seq_run (σ1 := [.mu c, .im (.int g), .im (.int time), .im (.int last), .im (.bl wild), .im (.int ((0 : Nat) : Int)), .un, .un, .un, .un, .un, .un, .un, .un, .un, .un]) (by
      repeat' walk_at "vc"
      exact ⟨rfl, rfl⟩)]
    rw [seq_run (σ1 := [.mu c, .im (.int g), .im (.int time), .im (.int last), .im (.bl wild), .im (.int ((0 : Nat) : Int)), .un, .mu (([] : List (Nd × List Rat)).map chD), .un, .un, .un, .un, .un, .un, .un, .un]) (by
      repeat' walk_at "vc"
      refine ⟨by decide, ?_⟩
      repeat' walk_at "vc"
      refine ⟨[], _, rfl, by decide, ?_⟩
      repeat' walk_at "vc"
      exact ⟨rfl, rfl⟩)]
    exact H.rest (h := 0) (m := 0) (ch := []) hc (by decide) hg1 hg2 rfl (by decide) (fun _ => rfl) (fun z => absurd z (by decide)) fun _ z => nomatch z
  | succ h ih =>
    intro k time hk ht hlt c hc
    obtain ⟨k, rfl⟩ : ∃ j, k = j + 5 := ⟨k - 5, by omega⟩
    refine frp_fn H.hnd rfl ?_
    rw [nodeB_eq]
    have e : ¬ time = last := by omega
    refine S_seq (OkP.imp (P := fun fl σ => fl = .nx ∧ ∃ (cs : List D) (m : Nat), σ = [.mu cs, .im (.int g), .im (.int time), .im (.int last), .im (.bl wild), .im (.int (m : Int)), .un, .un, .un, .un, .un, .un, .un, .un, .un, .un] ∧ DS cs ∧ 1 ≤ m ∧ m ≤ 3) ?_ ?_)
    · repeat' walk_at "vc"
      · refine (H.htake (k + 3)).go hc (by omega) (by omega) fun r cs h1 h2 hc => ?_
        repeat' walk_at "vc"
        exact ⟨rfl, cs, (1 + r).toNat, by rw [Int.toNat_of_nonneg (by omega)]; rfl, hc, by omega, by omega⟩
      · refine (H.htake (k + 3)).go hc (by omega) (by omega) fun r cs h1 h2 hc => ?_
        repeat' walk_at "vc"
        exact ⟨rfl, cs, (1 + r).toNat, by rw [Int.toNat_of_nonneg (by omega)]; rfl, hc, by omega, by omega⟩
    · rintro fl σ ⟨rfl, cs, m, rfl, hc, hm1, hm2⟩
      refine nx_nx (S_seq (OkP.imp (P := fun fl σ => fl = .nx ∧ ∃ (cs : List D) (ch : List (Nd × List Rat)), σ = [.mu cs, .im (.int g), .im (.int time), .im (.int last), .im (.bl wild), .im (.int (m : Int)), .un, .mu (ch.map chD), .un, .un, .un, .un, .un, .un, .un, .un] ∧ DS cs ∧ ch.length = m ∧ ∀ x ∈ ch, ChP g h x) ?_ ?_))
      · repeat' walk_at "vc"
        refine ⟨rngIn_of (by omega) (by omega), ?_⟩
        repeat' walk_at "vc"
        refine comp_inv (fun i acc σ => ∃ (cs : List D) (ch : List (Nd × List Rat)), acc = ch.map chD ∧ ch.length = i ∧ (∀ x ∈ ch, ChP g h x) ∧ DS cs ∧ σ = [.mu cs, .im (.int g), .im (.int time), .im (.int last), .im (.bl wild), .im (.int (m : Int)), .un, .un, .un, .un, .un, .un, .un, .un, .un, .un]) ⟨cs, [], rfl, rfl, (fun _ z => nomatch z), hc, rfl⟩ ?_ ?_
        · rintro i d acc σ hi ⟨cs, ch, rfl, hcl, hch, hc, rfl⟩
          refine ⟨_, rfl, o_cst (tb_t ?_)⟩
          repeat' walk_at "vc"
          refine (ih (k + 4) (time + 1) (by omega) (by omega) (by omega)).go hc fun d cs ⟨n, ms, e, n1, n2, n3⟩ hc => ?_
          subst e
          repeat' walk_at "vc"
          refine ⟨cs, ch ++ [(n, ms)], by rw [List.map_append]; rfl, by simp [hcl], fun w hw2 => ?_, hc, rfl⟩
          rcases List.mem_append.mp hw2 with hw2 | hw2
          · exact hch w hw2
          · rw [List.mem_singleton.mp hw2]
            exact ⟨n1, n2, n3⟩
        · rintro acc σ ⟨cs, ch, rfl, hcl, hch, hc, rfl⟩
          rw [rng_len] at hcl
          refine ⟨by rw [List.length_map]; exact sz_le (m := 3) (by omega), ?_⟩
          repeat' walk_at "vc"
          exact ⟨rfl, cs, ch, rfl, hc, by omega, hch⟩
      · rintro fl σ ⟨rfl, cs, ch, rfl, hc, hcl, hch⟩
        exact nx_nx (H.rest (h := h + 1) (m := m) (ch := ch) hc (by omega) hg1 hg2 hcl hm2 (fun z => nomatch z) (fun _ => by omega) fun x hx => ⟨h, rfl, hch x hx⟩)
/-- a drawn market -/
def MP (d : D) : Prop := ∃ (g : Int) (n : Nd) (h : Nat), d = mkt g n ∧ 1 ≤ g ∧ g ≤ 4 ∧ h ≤ 2 ∧ n.good PB g h
theorem MkH.market (H : MkH F sb prog t f gc pl mi tm sp nd) (h : prog[mk]? = some ⟨2, 4, true, marketB t nd⟩) {k : Nat} (hk : 12 ≤ k) {most : Int} (hm : 1 ≤ most) (hm2 : most ≤ 4) : DrawS (callK F sb prog k mk) [.int most] MP := fun c hc => by
  obtain ⟨k, rfl⟩ : ∃ j, k = j + 2 := ⟨k - 2, by omega⟩
  refine frp_fn h rfl ?_
  unfold marketB
  repeat' walk_at "vc"
  refine (H.htake k).go hc (by omega) (by omega) fun r cs h1 h2 hc => ?_
  walk_at "vc"
  walk_at "vc"
  walk_at "vc"
  walk_at "vc"
  walk_at "vc"
  walk_at "vc"
  refine S_seq (OkP.imp (P := fun fl σ => fl = .nx ∧ ∃ (cs : List D) (g : Int), σ = [.mu cs, .im (.int most), .im (.int g), .un] ∧ DS cs ∧ 1 ≤ g ∧ g ≤ 4) ?_ ?_)
  · repeat' walk_at "vc"
    · refine (H.htake k).go hc (by omega) (by omega) fun r2 cs h3 h4 hc => ?_
      repeat' walk_at "vc"
      · exact ⟨rfl, cs, _, rfl, hc, by omega, by omega⟩
      · exact ⟨rfl, cs, _, rfl, hc, by omega, by omega⟩
    · exact ⟨rfl, cs, _, rfl, hc, by omega, by omega⟩
  · rintro fl σ ⟨rfl, cs, g, rfl, hc, hg1, hg2⟩
    repeat' walk_at "vc"
    refine (H.htake k).go hc (by omega) (by omega) fun r2 cs h3 h4 hc => ?_
    repeat' walk_at "vc"
    refine (H.htake k).go hc (by omega) (by omega) fun la cs h5 h6 hc => ?_
    repeat' walk_at "vc"
    obtain ⟨l, rfl⟩ : ∃ l : Nat, la = l := ⟨la.toNat, by omega⟩
    refine (H.node (last := (l : Int)) (wild := decide (r2 = 1)) hg1 (by omega) (by omega) (by omega) l (k + 1) 0 (by omega) (by omega) (by omega)).go hc fun d cs ⟨n, ms, e, n1, n2, n3⟩ hc => ?_
    subst e
    repeat' walk_at "vc"
    exact ⟨_, cs, rfl, rfl, ⟨g, n, l, rfl, hg1, hg2, by omega, n3⟩, hc⟩
end
end Rf
/-! L6: reversed lists, enumerate, loops by what is left. -/
namespace Rf
open PySem
section
variable {sb : Sub} {cf : Nat → List Sl → FR} {a : IE} {σ : Sls} {P : Sl → Sls → Prop}
theorem o_rev (h : OkP (evE sb cf a σ) fun x σ1 => wO a σ1 x fun p => isO (revD p) fun s => P s σ1) : OkP (evE sb cf (.rev a) σ) P := by
  obtain ⟨x, σ1, e, h⟩ := h
  simp only [evE, e, R.bind]
  refine okp_wo (h.imp fun p ⟨s, e, h⟩ => ?_)
  rw [e]
  exact ⟨_, _, rfl, h⟩
theorem o_enm (h : OkP (evE sb cf a σ) fun x σ1 => isIt x fun ds => P (.mu (enmL 0 ds)) σ1) : OkP (evE sb cf (.enm a) σ) P := by
  obtain ⟨x, σ1, e, h⟩ := h
  simp only [evE, e, R.bind]
  refine okp_wd (wD.imp h fun p ⟨s, e, h⟩ => ?_)
  rw [e]
  exact ⟨_, _, rfl, h⟩
theorem o_inx {i : Nat} {e : IE} {d0 : List D} (e0 : σ[i]? = some (.mu d0)) (h : OkP (evE sb cf e σ) fun y σ1 => wD y fun q => hasMu σ1[i]? fun ds => isO (inxD ds q) fun s => P s σ1) : OkP (evE sb cf (.inx i e) σ) P := by
  obtain ⟨y, σ1, e1, h⟩ := h
  simp only [evE, e0, e1, R.bind]
  refine okp_wd (wD.imp h fun q ⟨ds, e2, s, e3, h⟩ => ?_)
  rw [e2]
  dsimp only
  rw [e3]
  exact ⟨_, _, rfl, h⟩
theorem o_popat {i : Nat} {e : IE} {d0 : List D} (e0 : σ[i]? = some (.mu d0)) (h : OkP (evE sb cf e σ) fun y σ1 => wD y fun q => hasMu σ1[i]? fun ds => isInt q fun k => rngIn k = true ∧ isN (L2.ixN ds.length k) fun n => ∃ x, ds[n]? = some x ∧ P (.im x) (σ1.set i (.mu (ds.eraseIdx n)))) : OkP (evE sb cf (.popat i e) σ) P := by
  obtain ⟨y, σ1, e1, h⟩ := h
  simp only [evE, e0, e1, R.bind]
  refine okp_wd (wD.imp h fun q ⟨ds, e2, k, e3, hk, n, e4, x, e5, h⟩ => ?_)
  subst e3
  rw [e2]
  dsimp only
  rw [if_pos hk, e4]
  dsimp only
  rw [e5]
  exact ⟨_, _, rfl, h⟩
theorem S_ext {W : Nat} {P : Fl → Sls → Prop} {i : Nat} {e : IE} {d0 : List D} (e0 : σ[i]? = some (.mu d0)) (h : OkP (evE sb cf e σ) fun y σ1 => isMu y fun es => hasMu σ1[i]? fun ds => ds.length + es.length ≤ sizeLine ∧ P .nx (σ1.set i (.mu (ds ++ es)))) : OkP (evS W sb cf (.ext i e) σ) P := by
  obtain ⟨y, σ1, e1, es, e2, ds, e3, hz, h⟩ := h
  subst e2
  simp only [evS, e0, e1, R.bind, e3]
  rw [if_pos hz]
  exact ⟨_, _, rfl, h⟩
/-- a list, own or not -/
def LS (s : Sl) (L : List D) : Prop := s = .mu L ∨ s = .im (.lst L)
theorem o_var_LS {i : Nat} {t : Sl} {L : List D} (e : σ[i]? = some t) (ht : LS t L) (h : P (.im (.lst L)) (σ.set i (.im (.lst L)))) : OkP (evE sb cf (.var i) σ) P := by
  rcases ht with rfl | rfl
  · exact o_var_mu e h
  · refine o_var_im e ?_
    have : σ.set i (.im (.lst L)) = σ := by
      apply List.ext_getElem?
      intro j
      by_cases hij : i = j
      · subst hij
        rw [List.getElem?_set_self (List.getElem?_eq_some_iff.mp e).1, e]
      · rw [List.getElem?_set_ne hij]
    rw [this] at h
    exact h
theorem ls_it {s : Sl} {L : List D} {Q : List D → Prop} (hs : LS s L) (h : Q L) : isIt s Q := by
  rcases hs with rfl | rfl
  · exact it_mu h
  · exact it_ls h
end
theorem isB'_gt_pth {a b : Pth} {Q : Bool → Prop} (h : Q (pLt b a)) : isB' (copD .gt (pth a) (pth b)) Q := by
  refine ⟨_, ?_, h⟩
  show (if ordOk (pth a) (pth b) = true then some ((pth b).lt (pth a)) else none) = _
  have hd := deep_pth a
  rw [if_pos (by
    unfold ordOk
    rw [Bool.and_eq_true]
    exact ⟨alike_pth a b, decide_eq_true (.inl (by omega))⟩), lt_pth]
def maxP : Pth → List Pth → Pth
  | m, [] => m
  | m, x :: xs => maxP (if pLt m x = true then x else m) xs
def minP : Pth → List Pth → Pth
  | m, [] => m
  | m, x :: xs => minP (if pLt x m = true then x else m) xs
theorem minOk_pth (xs : List Pth) : minOk (xs.map pth) = true := by
  have h := sortOk_pth xs
  unfold sortOk at h
  unfold minOk
  rw [Bool.and_eq_true] at h ⊢
  refine ⟨h.1, ?_⟩
  rw [List.all_eq_true]
  intro a ha
  obtain ⟨p, _, rfl⟩ := List.mem_map.mp ha
  rfl
theorem maxT_pth : ∀ (xs : List Pth) (m : Pth), maxT (pth m) (xs.map pth) = pth (maxP m xs)
  | [], _ => rfl
  | x :: xs, m => by
    rw [List.map_cons]
    unfold maxT maxP
    rw [lt_pth]
    by_cases h : pLt m x = true
    · rw [if_pos h, if_pos h, maxT_pth xs]
    · rw [if_neg h, if_neg h, maxT_pth xs]
theorem minT_pth : ∀ (xs : List Pth) (m : Pth), minT (pth m) (xs.map pth) = pth (minP m xs)
  | [], _ => rfl
  | x :: xs, m => by
    rw [List.map_cons]
    unfold minT minP
    rw [lt_pth]
    by_cases h : pLt x m = true
    · rw [if_pos h, if_pos h, minT_pth xs]
    · rw [if_neg h, if_neg h, minT_pth xs]
theorem isO_maxP {x : Pth} {xs : List Pth} {Q : Sl → Prop} (h : Q (.im (pth (maxP x xs)))) : isO (b1D .max (.lst ((x :: xs).map pth))) Q := by
  refine ⟨_, ?_, h⟩
  show (match allO D.i? ((x :: xs).map pth) with
    | some (n :: ns) => some (Sl.im (.int (maxI n ns)))
    | _ => maxX ((x :: xs).map pth)) = _
  rw [allO_pth, if_neg (by simp)]
  show (if minOk ((x :: xs).map pth) = true then some (Sl.im (maxT (pth x) (xs.map pth))) else none) = _
  rw [if_pos (minOk_pth _), maxT_pth]
theorem isO_minP {x : Pth} {xs : List Pth} {Q : Sl → Prop} (h : Q (.im (pth (minP x xs)))) : isO (b1D .min (.lst ((x :: xs).map pth))) Q := by
  refine ⟨_, ?_, h⟩
  show (match allO D.i? ((x :: xs).map pth) with
    | some (n :: ns) => some (Sl.im (.int (minI n ns)))
    | _ => minX ((x :: xs).map pth)) = _
  rw [allO_pth, if_neg (by simp)]
  show (if minOk ((x :: xs).map pth) = true then some (Sl.im (minT (pth x) (xs.map pth))) else none) = _
  rw [if_pos (minOk_pth _), minT_pth]
theorem isO_sortI {xs : List Int} {Q : Sl → Prop} (h : Q (.mu ((sortI xs).map D.int))) : isO (b1D .sorted (.lst (xs.map D.int))) Q := by
  refine ⟨_, ?_, h⟩
  show (match allO D.i? (xs.map D.int) with
    | some ns => some (Sl.mu ((sortI ns).map D.int))
    | none => if sortOk (xs.map D.int) = true then some (.mu (sortD (xs.map D.int))) else none) = _
  have e : allO D.i? (xs.map D.int) = some xs := by
    have := allO_ints' xs id
    simpa using this
  rw [e]
theorem isO_sortIT {xs : List Int} {Q : Sl → Prop} (h : Q (.mu ((sortI xs).map D.int))) : isO (b1D .sorted (.tup (xs.map D.int))) Q := by
  refine ⟨_, ?_, h⟩
  show (match allO D.i? (xs.map D.int) with
    | some ns => some (Sl.mu ((sortI ns).map D.int))
    | none => none) = _
  have e : allO D.i? (xs.map D.int) = some xs := by
    have := allO_ints' xs id
    simpa using this
  rw [e]
/-- a loop, by the items still to come -/
theorem for_rest {t : Tg} {body : Sls → R Fl} {P : Fl → Sls → Prop} {α : Type} (inj : α → D) (I : List α → Sls → Prop)
    (step : ∀ x r σ, I (x :: r) σ → ∃ σ1, asgT t (inj x) σ = some σ1 ∧ OkP (body σ1) fun f σ2 => match f with
      | .nx => I r σ2
      | .ct => I r σ2
      | .bk => P .nx σ2
      | .rt s => P (.rt s) σ2) (fin : ∀ σ, I [] σ → P .nx σ) : ∀ {xs : List α} {σ : Sls}, I xs σ → OkP (forF t body (xs.map inj) σ) P := by
  intro xs
  induction xs with
  | nil => exact fun h => ⟨_, _, rfl, fin _ h⟩
  | cons x xs ih =>
    intro σ h
    obtain ⟨σ1, e1, f, σ2, e2, h⟩ := step x xs σ h
    rw [List.map_cons]
    unfold forF
    rw [e1]
    dsimp only
    rw [e2]
    cases f with
    | nx => exact ih h
    | ct => exact ih h
    | bk => exact ⟨_, _, rfl, h⟩
    | rt s => exact ⟨_, _, rfl, h⟩
theorem enmL_map {α : Type} (f : α → D) : ∀ (n : Nat) (xs : List α), enmL n (xs.map f) = (xs.zipIdx n).map fun p => D.tup [.int (p.2 : Int), f p.1]
  | _, [] => rfl
  | n, x :: xs => by rw [List.map_cons, enmL, enmL_map f (n + 1) xs]; rfl
theorem isD_last {x : D} {xs : List D} {Q : D → Prop} (h : Q x) : isD (idxD (.tup (xs ++ [x])) (.int (-1))) Q := by
  refine ⟨x, ?_, h⟩
  show L2.atI (xs ++ [x]) (-1) = some x
  unfold L2.atI L2.ixN
  have e : (xs ++ [x]).length = xs.length + 1 := by simp
  rw [e]
  have e1 : ¬ ((0 : Int) ≤ -1) := by decide
  have e2 : -((xs.length + 1 : Nat) : Int) ≤ -1 := by omega
  have e3 : ((-1 : Int) + ((xs.length + 1 : Nat) : Int)).toNat = xs.length := by omega
  simp [e1, e2, e3]
  rw [if_pos (by omega)]
  have e4 : (-1 + ((xs.length : Int) + 1)).toNat = xs.length := by omega
  simp [e4]
theorem cut_init (xs : List D) : cutD xs none (some (-1)) = xs.dropLast := by
  unfold cutD
  rw [HT.sIx_none]
  have e : HT.sIx xs.length xs.length (some (-1)) = xs.length - 1 := by
    show (if (-1 : Int) < 0 then ((-1 : Int) + (xs.length : Int)).toNat else min (-1 : Int).toNat xs.length) = _
    rw [if_pos (by decide)]
    omega
  rw [e, List.drop_zero, Nat.sub_zero, List.dropLast_eq_take]
theorem pls_map {α : Type} {f : α → D} {xs : List α} (h : ∀ x ∈ xs, (f x).pl = true) : D.pls (xs.map f) = true := by
  induction xs with
  | nil => rfl
  | cons x xs ih =>
    rw [List.map_cons]
    show (D.pl (f x) && D.pls (xs.map f)) = true
    rw [h x (.head _), ih fun y hy => h y (.tail _ hy)]
    rfl
theorem deepL_map {α : Type} {f : α → D} {xs : List α} {n : Nat} (h : ∀ x ∈ xs, (f x).deep ≤ n) : deepL (xs.map f) ≤ n := by
  induction xs with
  | nil => exact Nat.zero_le _
  | cons x xs ih =>
    rw [List.map_cons]
    show max (f x).deep (deepL (xs.map f)) ≤ n
    exact Nat.max_le.mpr ⟨h x (.head _), ih fun y hy => h y (.tail _ hy)⟩
/-- equality of plain data -/
theorem isB'_eq_pl {x y : D} {Q : Bool → Prop} (hx : x.pl = true) (hy : y.pl = true) (hd : y.deep ≤ 200) (h1 : x = y → Q true) (h2 : x ≠ y → Q false) : isB' (copD .eq x y) Q := by
  refine isB'_eq_r hd ?_
  cases e : x.eqv y with
  | true => exact h1 ((eqv_pl hx hy).mp e)
  | false => exact h2 fun z => by rw [(eqv_pl hx hy).mpr z] at e; cases e
theorem isB'_ne_pl {x y : D} {Q : Bool → Prop} (hx : x.pl = true) (hy : y.pl = true) (hd : y.deep ≤ 200) (h1 : x = y → Q false) (h2 : x ≠ y → Q true) : isB' (copD .ne x y) Q := by
  refine isB'_ne_r hd ?_
  cases e : x.eqv y with
  | true => exact h1 ((eqv_pl hx hy).mp e)
  | false => exact h2 fun z => by rw [(eqv_pl hx hy).mpr z] at e; cases e
theorem pth_inj : ∀ {a b : Pth}, pth a = pth b → a = b := by
  intro a b h
  unfold pth at h
  injection h with h
  induction a generalizing b with
  | nil => cases b with
    | nil => rfl
    | cons y b => simp at h
  | cons x a ih => cases b with
    | nil => simp at h
    | cons y b =>
      rw [List.map_cons, List.map_cons] at h
      injection h with h1 h2
      injection h1 with h1
      rw [h1, ih h2]
/-- the first place of a path -/
theorem isO_inxP {α : Type} {f : α → Pth} {xs : List α} {m : Pth} {b : α} {Q : Sl → Prop} (hb : xs.find? (fun x => decide (f x = m)) = some b) (h : ∀ i : Nat, xs[i]? = some b → Q (.im (.int (i : Int)))) : isO (inxD (xs.map fun x => pth (f x)) (pth m)) Q := by
  have key : ∀ (xs : List α) (n : Nat), xs.find? (fun x => decide (f x = m)) = some b → ∃ i, inxL (pth m) n (xs.map fun x => pth (f x)) = some (n + i) ∧ xs[i]? = some b := by
    intro xs
    induction xs with
    | nil => exact fun n h => nomatch h
    | cons x xs ih =>
      intro n h
      rw [List.map_cons]
      unfold inxL
      have pl : ∀ p : Pth, (pth p).pl = true := fun p => by
        unfold pth
        exact pls_map fun x _ => rfl
      by_cases hx : f x = m
      · rw [List.find?_cons_of_pos (by simpa using hx)] at h
        cases h
        rw [if_pos ((eqv_pl (pl _) (pl _)).mpr (by rw [hx]))]
        exact ⟨0, rfl, rfl⟩
      · rw [List.find?_cons_of_neg (by simpa using hx)] at h
        have hne : pth (f x) ≠ pth m := fun z => hx (by
          exact pth_inj z)
        rw [if_neg fun z => hne ((eqv_pl (pl _) (pl _)).mp z)]
        obtain ⟨i, h1, h2⟩ := ih (n + 1) h
        exact ⟨i + 1, by rw [h1]; congr 1; omega, h2⟩
  obtain ⟨i, h1, h2⟩ := key xs 0 hb
  refine ⟨.im (.int (i : Int)), ?_, h i h2⟩
  unfold inxD
  rw [h1, if_pos]
  · rw [Nat.zero_add]; rfl
  · have d1 := deep_pth m
    refine ⟨?_, by omega⟩
    rw [deep_lst]
    have := deepL_map (f := fun x => pth (f x)) (xs := xs) (n := 1) fun x _ => deep_pth (f x)
    omega
end Rf
namespace K64
open PySem Rf
theorem isB'_ne_dq {x y : Rat} {Q : Bool → Prop} (h1 : x = y → Q false) (h2 : x ≠ y → Q true) : isB' (copD .ne (dq x) (dq y)) Q :=
  isB'_ne_pl (dq_pl x) (dq_pl y) (by rw [dq_deep]; decide) (fun e => h1 (dq_inj e)) (fun e => h2 fun z => e (by rw [z]))
theorem isB'_ne_dq0 {x : Rat} {Q : Bool → Prop} (h1 : x = 0 → Q false) (h2 : x ≠ 0 → Q true) : isB' (copD .ne (dq x) (.tup [.int 0, .int 1])) Q := isB'_ne_dq (y := 0) h1 h2
theorem isB'_eq_ni {j : Int} {Q : Bool → Prop} (h : Q false) : isB' (copD .eq .non (.int j)) Q := ⟨_, rfl, h⟩
local macro_rules | `(tactic| walk_at "vc") => `(tactic| first
  | (with_reducible refine' S_seq ?_)
  | ((with_reducible refine' o_lv_im ?e ?h); (case e => rfl))
  | (with_reducible refine' o_cst ?_)
  | ((with_reducible refine' wo_lv ?e ?h); (case e => rfl))
  | (with_reducible refine' wd_im ?_)
  | (with_reducible refine' wd_mu ?_)
  | ((with_reducible refine' o_var_im ?e ?h); (case e => rfl))
  | (with_reducible refine' o_bin ?_)
  | (with_reducible refine' o_cmp ?_)
  | (with_reducible refine' o_idx ?_)
  | ((with_reducible refine' o_lv_mu ?e ?h); (case e => rfl))
  | (with_reducible refine' o_cons ?_)
  | (with_reducible refine' o_nil ?_)
  | (with_reducible refine' mu_of ?_)
  | (with_reducible refine' nx_nx ?_)
  | (with_reducible refine' nx_rt ?_)
  | (with_reducible refine' nx_bk ?_)
  | (with_reducible refine' nx_ct ?_)
  | (with_reducible refine' tb_t ?_)
  | (with_reducible refine' tb_f ?_)
  | ((with_reducible refine' tb_yes ?e ?h); (case e => first | assumption | decide +kernel))
  | ((with_reducible refine' tb_no ?e ?h); (case e => first | assumption | decide +kernel))
  | ((with_reducible refine' tb_dec ?_ ?_) <;> intro hc <;> try (first | contradiction | (exfalso; omega)))
  | ((with_reducible refine' tb_ndec ?_ ?_) <;> intro hc <;> try (first | contradiction | (exfalso; omega)))
  | (with_reducible refine' S_asg ?_)
  | (with_reducible refine' S_cond ?_)
  | (with_reducible refine' S_ret ?_)
  | (with_reducible refine' S_skip ?_)
  | ((with_reducible refine' isA_of ?e ?h); (case e => rfl))
  | ((with_reducible refine' isB'_of ?e ?h); (case e => with_reducible assumption))
  | ((with_reducible refine' isB'_ne_dq0 ?_ ?_) <;> intro hc <;> try contradiction)
  | ((with_reducible refine' isB'_ne_dq ?_ ?_) <;> intro hc <;> try contradiction)
  | (with_reducible refine' isB'_eq_ni ?_)
  | (with_reducible refine' isB'_gt_pth ?_)
  | (with_reducible refine' isB'_eq_ii ?_)
  | (with_reducible refine' isB'_eq_bb ?_)
  | (with_reducible refine' isB'_ne_bb ?_)
  | (with_reducible refine' isB'_ne_ii ?_)
  | (with_reducible refine' isB'_eq_ss ?_)
  | (with_reducible refine' isB'_ne_ss ?_)
  | ((with_reducible refine' isO_mod ?e ?h); (case e => first | omega | assumption))
  | ((with_reducible refine' isO_fdv ?e ?h); (case e => first | decide | assumption))
  | ((with_reducible refine' isO_mul ?e ?h); (case e => first | decide | assumption))
  | ((with_reducible refine' isO_of ?e ?h); (case e => rfl))
  | ((with_reducible refine' hasMu_of ?e ?h); (case e => rfl))
  | (with_reducible refine' isInt_of ?_)
  | ((with_reducible refine' isN_of ?e ?h); (case e => rfl))
  | (with_reducible refine' isD_t0 ?_)
  | (with_reducible refine' isD_q0 ?_)
  | (with_reducible refine' isD_q1 ?_)
  | (with_reducible refine' isD_t1 ?_)
  | (with_reducible refine' isD_t2 ?_)
  | (with_reducible refine' isD_l0 ?_)
  | (with_reducible refine' isD_l1 ?_)
  | ((with_reducible refine' isD_of ?e ?h); (case e => rfl))
  | ((with_reducible refine' isB'_of (k := false) ?e ?h); (case e => decide +kernel))
  | ((with_reducible refine' isB'_of (k := true) ?e ?h); (case e => decide +kernel))
  | ((with_reducible refine' isB'_of ?e ?h); (case e => rfl))
  | (with_reducible refine' o_tup ?_)
  | (with_reducible refine' o_lst ?_)
  | ((with_reducible refine' sz_of ?e ?h); (case e => exact Nat.le_of_ble_eq_true rfl))
  | (with_reducible refine' o_b1 ?_)
  | (with_reducible refine' o_b2 ?_)
  | (with_reducible refine' o_an ?_)
  | (with_reducible refine' o_orr ?_)
  | (with_reducible refine' o_nt ?_)
  | ((with_reducible refine' o_isx_t ?e ?b ?h); (case e => rfl); (case b => rfl))
  | ((with_reducible refine' o_isx_f ?e ?b ?h); (case e => rfl); (case b => rfl))
  | (with_reducible refine' o_tr ?_)
  | (with_reducible refine' o_ite ?_)
  | (with_reducible refine' o_slc ?_)
  | (with_reducible refine' bd_non ?_)
  | (with_reducible refine' bd_int ?_)
  | ((with_reducible refine' o_var_mu ?e ?h); (case e => rfl))
  | (with_reducible refine' o_glo ?_)
  | ((with_reducible refine' S_rtv_im ?e ?h); (case e => rfl))
  | ((with_reducible refine' S_rtv_mu ?e ?h); (case e => rfl))
  | (with_reducible refine' S_rtn ?_)
  | (with_reducible refine' S_brk ?_)
  | (with_reducible refine' S_cnt ?_)
  | (with_reducible refine' S_exp ?_)
  | ((with_reducible refine' S_app ?e ?h); (case e => rfl))
  | ((with_reducible refine' S_aug ?e ?h); (case e => rfl))
  | (with_reducible refine' isI_of ?_)
  | (with_reducible refine' S_par ?_)
  | (with_reducible refine' S_six ?_)
  | (with_reducible refine' S_for ?_)
  | (with_reducible refine' S_whl ?_)
  | ((with_reducible refine' o_inx ?e ?h); (case e => rfl))
  | ((with_reducible refine' o_popat ?e ?h); (case e => rfl))
  | ((with_reducible refine' S_ext ?e ?h); (case e => rfl))
  | (with_reducible refine' o_rev ?_)
  | (with_reducible refine' o_enm ?_)
  | (with_reducible refine' o_rng1 ?_)
  | (with_reducible refine' o_rng2 ?_)
  | (with_reducible refine' o_comp ?_)
  | (with_reducible refine' o_call ?_)
  | ((with_reducible refine' o_cio ?e ?h); (case e => rfl))
  | (with_reducible refine' o_neg ?_)
  | (with_reducible refine' o_rep ?_)
  | (with_reducible refine' o_chn ?_)
  | (with_reducible refine' it_mu ?_)
  | (with_reducible refine' it_tp ?_)
  | (with_reducible refine' it_ls ?_)
  | ((with_reducible refine' wo_o ?e ?h); (case e => exact fun _ z => nomatch z)))

abbrev C (k fi : Nat) := callK FU (sbOf sbt) prog k fi
theorem take_s (k : Nat) : TakeS (C (k + 1) 17) := take_fn rfl
theorem isD_nat {xs : List D} {j : Nat} {d : D} {Q : D → Prop} (e : xs[j]? = some d) (h : Q d) : isD (idxD (.tup xs) (.int (j : Int))) Q := ⟨d, at_nat e, h⟩
theorem isD_natL {xs : List D} {j : Nat} {d : D} {Q : D → Prop} (e : xs[j]? = some d) (h : Q d) : isD (idxD (.lst xs) (.int (j : Int))) Q := ⟨d, at_nat e, h⟩
abbrev nD (o : Nat) : D := .int (o : Int)
abbrev rD (r : List Int) : D := .tup (r.map D.int)
abbrev tabD (rs : List (List Int)) : D := .tup (rs.map rD)
abbrev cD (ch : List Nat) : D := .tup (ch.map nD)
abbrev rtsD (R : List (List Nat)) : D := .tup (R.map cD)
abbrev hD (hs : List (List (List Nat))) : D := .tup (hs.map rtsD)
abbrev tD (rs : List (List Int)) (hs : List (List (List Nat))) : D := .tup [tabD rs, hD hs]
/-- roads and routes, right -/
structure Tr (rs : List (List Int)) (hs : List (List (List Nat))) : Prop where
  h1 : 1 ≤ hs.length
  h3 : hs.length ≤ 3
  m1 : 1 ≤ rs.length
  m4 : rs.length ≤ 4
  rl : ∀ r ∈ rs, r.length = hs.length
  rn : ∀ r ∈ rs, ∀ c ∈ r, 0 ≤ c ∧ c ≤ 8
  R1 : ∀ R ∈ hs, 1 ≤ R.length ∧ R.length ≤ 3
  up : ∀ R ∈ hs, ∀ t ∈ R, t.Pairwise (· < ·) ∧ ∀ j ∈ t, j < rs.length
/-- chosen routes -/
structure Chs (hs : List (List (List Nat))) (ch : List Nat) : Prop where
  len : ch.length = hs.length
  lt : ∀ k, k < hs.length → ch.getD k 0 < (hs.getD k []).length
/-- the route of hand k -/
def rt (hs : List (List (List Nat))) (ch : List Nat) (k : Nat) : List Nat := (hs.getD k []).getD (ch.getD k 0) []
/-- how many of the first i hands take road j -/
def ldi (hs : List (List (List Nat))) (ch : List Nat) (i j : Nat) : Nat := ((List.range i).filter fun k => (rt hs ch k).contains j).length
def ld (hs : List (List (List Nat))) (ch : List Nat) (j : Nat) : Nat := ldi hs ch hs.length j
def roadC (rs : List (List Int)) (j i : Nat) : Int := (rs.getD j []).getD i 0
/-- what hand k pays -/
def cs (rs : List (List Int)) (hs : List (List (List Nat))) (ch : List Nat) (k : Nat) : Int := ((rt hs ch k).map fun j => roadC rs j (ld hs ch j - 1)).sum
def ht (rs : List (List Int)) (hs : List (List (List Nat))) (ch : List Nat) : Int := ((List.range rs.length).map fun j => ((rs.getD j []).take (ld hs ch j)).sum).sum
theorem getD_some {α : Type} {xs : List α} {k : Nat} {d : α} (h : k < xs.length) : xs[k]? = some (xs.getD k d) := by
  rw [List.getD_eq_getElem?_getD, List.getElem?_eq_getElem h]; rfl
theorem getD_mem {α : Type} {xs : List α} {k : Nat} {d : α} (h : k < xs.length) : xs.getD k d ∈ xs := List.mem_of_getElem? (getD_some h)
theorem map_get {α : Type} {xs : List α} {k : Nat} {d : α} (f : α → D) (h : k < xs.length) : (xs.map f)[k]? = some (f (xs.getD k d)) := by
  rw [List.getElem?_map, getD_some (d := d) h]; rfl
theorem rng_nD (n : Nat) : rngL 0 (n : Int) = (List.range n).map nD := by unfold rngL; simp
theorem len0 {α : Type} {f : α → D} {xs : List α} : (xs.map f).length = xs.length := List.length_map _
section
variable {rs : List (List Int)} {hs : List (List (List Nat))} {ch : List Nat}
theorem rt_mem (c : Chs hs ch) {k : Nat} (hk : k < hs.length) : rt hs ch k ∈ hs.getD k [] := getD_mem (c.lt k hk)
theorem rt_up (t : Tr rs hs) (c : Chs hs ch) {k : Nat} (hk : k < hs.length) : (rt hs ch k).Pairwise (· < ·) ∧ ∀ j ∈ rt hs ch k, j < rs.length := t.up _ (getD_mem hk) _ (rt_mem c hk)
theorem ldi_le (i j : Nat) : ldi hs ch i j ≤ i := by
  unfold ldi
  exact Nat.le_trans (List.length_filter_le _ _) (by rw [List.length_range]; exact Nat.le_refl _)
theorem ldi_succ (i j : Nat) : ldi hs ch (i + 1) j = ldi hs ch i j + (if (rt hs ch i).contains j = true then 1 else 0) := by
  unfold ldi
  rw [List.range_succ, List.filter_append, List.length_append, List.filter_cons, List.filter_nil]
  split <;> rfl
theorem road_get (t : Tr rs hs) {j i : Nat} (hj : j < rs.length) (hi : i < hs.length) : (rs.map rD)[j]? = some (rD (rs.getD j [])) ∧ ((rs.getD j []).map D.int)[i]? = some (.int (roadC rs j i)) := by
  refine ⟨map_get rD hj, ?_⟩
  have hl := t.rl _ (getD_mem (d := []) hj)
  exact map_get D.int (by omega)
/-! the least of some ints, as a tuple too -/
theorem lt_int (a b : Int) : (D.int a).lt (.int b) = decide (a < b) := PySem.W.dataLt_int a b
theorem minOk_ints (xs : List Int) : minOk (xs.map D.int) = true := by
  unfold minOk alikeL
  simp only [Bool.and_eq_true, List.all_eq_true, List.mem_map, decide_eq_true_eq]
  refine ⟨⟨?_, ?_⟩, ?_⟩
  · rintro _ ⟨a, _, rfl⟩ _ ⟨b, _, rfl⟩
    rfl
  · rintro _ ⟨a, _, rfl⟩
    rw [deep_int]; decide
  · rintro _ ⟨a, _, rfl⟩
    rfl
theorem minT_ints : ∀ (xs : List Int) (m : Int), minT (.int m) (xs.map D.int) = .int (minI m xs)
  | [], _ => rfl
  | x :: xs, m => by
    rw [List.map_cons]
    unfold minT minI
    rw [lt_int]
    by_cases h : x < m
    · rw [if_pos (by simpa using h), if_pos h, minT_ints]
    · rw [if_neg (by simpa using h), if_neg h, minT_ints]
theorem isO_minT {x : Int} {xs : List Int} {Q : Sl → Prop} (h : Q (.im (.int (minI x xs)))) : isO (b1D .min (.tup ((x :: xs).map D.int))) Q := by
  refine ⟨_, ?_, h⟩
  show (if minOk ((x :: xs).map D.int) = true then some (Sl.im (minT (.int x) (xs.map D.int))) else none) = _
  rw [if_pos (minOk_ints _), minT_ints]
theorem isO_sumT {xs : List Int} {Q : Sl → Prop} (h : Q (.im (.int xs.sum))) : isO (b1D .sum (.tup (xs.map D.int))) Q := by
  refine ⟨_, ?_, h⟩
  show (allO D.i? (xs.map D.int)).map (fun ns => Sl.im (.int ns.sum)) = _
  have e : allO D.i? (xs.map D.int) = some xs := by
    have := allO_ints' xs id
    simpa using this
  rw [e]
  rfl
theorem minI_ge {b : Int} : ∀ (xs : List Int) (m : Int), b ≤ m → (∀ x ∈ xs, b ≤ x) → b ≤ minI m xs
  | [], _, h, _ => h
  | x :: xs, m, h, hx => by
    unfold minI
    refine minI_ge xs _ ?_ fun y hy => hx y (.tail _ hy)
    split
    · exact hx x (.head _)
    · exact h
/-! ### the checks -/
theorem check_s (k : Nat) (t : Tr rs hs) : FrP (C (k + 1) 0 [.im (tD rs hs)]) fun s _ => s = .im .non := by
  have h1 := t.h1
  have h3 := t.h3
  have m1 := t.m1
  have m4 := t.m4
  have hlr : (rs.map rD).length = rs.length := len0
  have hlh : (hs.map rtsD).length = hs.length := len0
  refine frp_fn rfl rfl ?_
  unfold b0
  repeat' walk_at "vc"
  all_goals try (exfalso; omega)
  refine for_rest rD (fun l σ => ∃ z3, σ = [.im (tD rs hs), .im (tabD rs), .im (hD hs), z3, .un, .un, .un, .un, .un, .un] ∧ ∀ r ∈ l, r ∈ rs) ?_ ?_ ⟨_, rfl, fun r h => h⟩
  · rintro r l σ ⟨z3, rfl, hm⟩
    have hr := hm r (.head _)
    have hl := t.rl r hr
    have hrl : (r.map D.int).length = r.length := len0
    have hnx : ∀ r ∈ l, r ∈ rs := fun r h => hm r (.tail _ h)
    refine ⟨_, rfl, ?_⟩
    repeat' walk_at "vc"
    all_goals try (exfalso; omega)
    cases r with
    | nil => simp at hl; omega
    | cons x xs =>
      refine isO_minT ?_
      have hm : 0 ≤ minI x xs := minI_ge xs x (t.rn _ hr x (.head _)).1 fun y hy => (t.rn _ hr y (.tail _ hy)).1
      repeat' walk_at "vc"
      exact ⟨_, rfl, hnx⟩
  rintro σ ⟨z3, rfl, _⟩
  repeat' walk_at "vc"
  refine for_rest rtsD (fun l σ => ∃ z4 z5 z6, σ = [.im (tD rs hs), .im (tabD rs), .im (hD hs), z3, z4, z5, z6, .un, .un, .un] ∧ ∀ R ∈ l, R ∈ hs) ?_ ?_ ⟨_, _, _, rfl, fun r h => h⟩
  · rintro R l σ ⟨z4, z5, z6, rfl, hm⟩
    have hR := hm R (.head _)
    have hRl : (R.map cD).length = R.length := len0
    obtain ⟨g1, g2⟩ := t.R1 R hR
    refine ⟨_, rfl, ?_⟩
    repeat' walk_at "vc"
    all_goals try (exfalso; omega)
    refine for_rest cD (fun l2 σ => ∃ z5 z6, σ = [.im (tD rs hs), .im (tabD rs), .im (hD hs), z3, .im (rtsD R), z5, z6, .un, .un, .un] ∧ ∀ x ∈ l2, x ∈ R) ?_ ?_ ⟨_, _, rfl, fun r h => h⟩
    · rintro x l2 σ ⟨z5, z6, rfl, hm2⟩
      obtain ⟨u1, u2⟩ := t.up R hR x (hm2 x (.head _))
      have hxl : (x.map nD).length = x.length := len0
      have hx4 : x.length ≤ 1000 := by
        have : ∀ (l : List Nat) (b m : Nat), l.Pairwise (· < ·) → (∀ j ∈ l, b ≤ j ∧ j < m) → l.length ≤ m - b := by
          intro l
          induction l with
          | nil => intro b m _ _; exact Nat.zero_le _
          | cons a l ih =>
            intro b m hp hq
            obtain ⟨p1, p2⟩ := List.pairwise_cons.mp hp
            have := ih (a + 1) m p2 fun j hj => ⟨p1 j hj, (hq j (.tail _ hj)).2⟩
            have := hq a (.head _)
            rw [List.length_cons]
            omega
        have := this x 0 rs.length u1 fun j hj => ⟨Nat.zero_le _, u2 j hj⟩
        omega
      refine ⟨_, rfl, ?_⟩
      repeat' walk_at "vc"
      refine ⟨rngIn_of (by omega) (by omega), ?_⟩
      repeat' walk_at "vc"
      rw [show rngL 0 (((x.map nD).length : Int) - 1) = (List.range (x.length - 1)).map nD from by
        rw [hxl]
        unfold rngL
        rw [show ((x.length : Int) - 1 - 0).toNat = x.length - 1 by omega]
        simp]
      refine comp_map nD (fun _ => .bl true) (List.range (x.length - 1)) (fun i hi => ⟨_, rfl, o_cst (tb_t ?_)⟩) ?_
      · have hi := List.mem_range.mp hi
        have e1 : (x.map nD)[i]? = some (nD (x.getD i 0)) := map_get nD (by omega)
        have e2 : (x.map nD)[i + 1]? = some (nD (x.getD (i + 1) 0)) := map_get nD (by omega)
        have hlt : x.getD i 0 < x.getD (i + 1) 0 := by
          have := List.pairwise_iff_getElem.mp u1 i (i + 1) (by omega) (by omega) (by omega)
          rw [List.getD_eq_getElem?_getD, List.getD_eq_getElem?_getD, List.getElem?_eq_getElem (by omega), List.getElem?_eq_getElem (by omega)]
          exact this
        repeat' walk_at "vc"
        refine isD_nat e1 ?_
        repeat' walk_at "vc"
        rw [show (i : Int) + 1 = ((i + 1 : Nat) : Int) from by omega]
        refine isD_nat e2 ?_
        repeat' walk_at "vc"
        refine ⟨?_, rfl⟩
        congr 1
        exact decide_eq_true (by omega)
      · refine ⟨by rw [List.length_map, List.length_range]; exact sz_le (m := 1000) (by omega), ?_⟩
        repeat' walk_at "vc"
        refine isO_all (List.range (x.length - 1)) (fun _ => true) ?_
        rw [show (List.range (x.length - 1)).all (fun _ => true) = true from List.all_eq_true.mpr fun _ _ => rfl]
        repeat' walk_at "vc"
        refine comp_map nD (fun o => .bl (decide (o < rs.length))) x (fun o ho => ⟨_, rfl, o_cst (tb_t ?_)⟩) ?_
        · have := u2 o ho
          repeat' walk_at "vc"
          · refine ⟨?_, rfl⟩
            congr 1
            rw [decide_eq_decide]
            omega
          all_goals (exfalso; omega)
        · refine ⟨by rw [List.length_map]; exact sz_le (m := 1000) (by omega), ?_⟩
          repeat' walk_at "vc"
          refine isO_all x (fun o => decide (o < rs.length)) ?_
          rw [show x.all (fun o => decide (o < rs.length)) = true from List.all_eq_true.mpr fun o ho => decide_eq_true (u2 o ho)]
          repeat' walk_at "vc"
          exact ⟨_, _, rfl, fun y hy => hm2 y (.tail _ hy)⟩
    · rintro σ ⟨z5, z6, rfl, _⟩
      exact ⟨_, _, _, rfl, fun y hy => hm y (.tail _ hy)⟩
  · rintro σ ⟨z4, z5, z6, rfl, _⟩
    rfl
theorem zip_map {α β : Type} (f : α → D) (g : β → D) (a0 : α) (b0 : β) : ∀ {xs : List α} {ys : List β}, xs.length = ys.length → zipL (xs.map f) (ys.map g) = (List.range xs.length).map fun k => .tup [f (xs.getD k a0), g (ys.getD k b0)]
  | [], [], _ => rfl
  | [], _ :: _, h => by simp at h
  | _ :: _, [], h => by simp at h
  | x :: xs, y :: ys, h => by
    rw [List.map_cons, List.map_cons, List.length_cons, List.range_succ_eq_map, List.map_cons, List.map_map]
    show D.tup [f x, g y] :: zipL (xs.map f) (ys.map g) = _
    rw [zip_map f g a0 b0 (by simpa using h)]
    rfl
theorem o_zip {sb : Sub} {cf : Nat → List Sl → FR} {a b : IE} {σ : Sls} {P : Sl → Sls → Prop} (h : OkP (evE sb cf a σ) fun x σ1 => Rf.wD x fun p => OkP (evE sb cf b σ1) fun y σ2 => Rf.wD y fun q => ∃ xs ys, ((p = .tup xs ∧ q = .tup ys) ∨ (p = .tup xs ∧ q = .lst ys) ∨ (p = .lst xs ∧ q = .lst ys)) ∧ P (.mu (zipL xs ys)) σ2) : OkP (evE sb cf (.zip a b) σ) P := by
  obtain ⟨x, σ1, e, h⟩ := h
  simp only [evE, e, R.bind]
  refine okp_wd (wD.imp h fun p ⟨y, σ2, e2, h2⟩ => ?_)
  simp only [e2, R.bind]
  refine okp_wd (wD.imp h2 fun q ⟨xs, ys, hh, h3⟩ => ?_)
  rcases hh with ⟨rfl, rfl⟩ | ⟨rfl, rfl⟩ | ⟨rfl, rfl⟩ <;> exact ⟨_, _, rfl, h3⟩
theorem check_ch_s (k : Nat) (t : Tr rs hs) (c : Chs hs ch) : FrP (C (k + 2) 1 [.im (tD rs hs), .im (cD ch)]) fun s _ => s = .im .non := by
  have h1 := t.h1
  have h3 := t.h3
  have hlc : (ch.map nD).length = ch.length := len0
  have hlh : (hs.map rtsD).length = hs.length := len0
  have hcl := c.len
  refine frp_fn rfl rfl ?_
  unfold b1
  repeat' walk_at "vc"
  refine (check_s k t).imp fun s _ e => ?_
  repeat' walk_at "vc"
  refine o_zip ?_
  repeat' walk_at "vc"
  refine ⟨_, _, .inl ⟨rfl, rfl⟩, ?_⟩
  repeat' walk_at "vc"
  rw [zip_map nD rtsD 0 [] hcl]
  refine comp_map (fun k => .tup [nD (ch.getD k 0), rtsD (hs.getD k [])]) (fun _ => .bl true) (List.range ch.length) (fun i hi => ⟨_, rfl, o_cst (tb_t ?_)⟩) ?_
  · have hi := List.mem_range.mp hi
    have hlt := c.lt i (by omega)
    have hll : ((hs.getD i []).map cD).length = (hs.getD i []).length := len0
    repeat' walk_at "vc"
    · refine ⟨?_, rfl⟩
      congr 1
      exact decide_eq_true (by omega)
    all_goals (exfalso; omega)
  · refine ⟨by rw [List.length_map, List.length_range]; exact sz_le (m := 1000) (by omega), ?_⟩
    repeat' walk_at "vc"
    refine isO_all (List.range ch.length) (fun _ => true) ?_
    rw [show (List.range ch.length).all (fun _ => true) = true from List.all_eq_true.mpr fun _ _ => rfl]
    repeat' walk_at "vc"
    rfl
end
end K64
namespace K64
open PySem Rf
local macro_rules | `(tactic| walk_at "vc") => `(tactic| first
  | (with_reducible refine' S_seq ?_)
  | ((with_reducible refine' o_lv_im ?e ?h); (case e => rfl))
  | (with_reducible refine' o_cst ?_)
  | ((with_reducible refine' wo_lv ?e ?h); (case e => rfl))
  | (with_reducible refine' wd_im ?_)
  | (with_reducible refine' wd_mu ?_)
  | ((with_reducible refine' o_var_im ?e ?h); (case e => rfl))
  | (with_reducible refine' o_bin ?_)
  | (with_reducible refine' o_cmp ?_)
  | (with_reducible refine' o_idx ?_)
  | ((with_reducible refine' o_lv_mu ?e ?h); (case e => rfl))
  | (with_reducible refine' o_cons ?_)
  | (with_reducible refine' o_nil ?_)
  | (with_reducible refine' mu_of ?_)
  | (with_reducible refine' nx_nx ?_)
  | (with_reducible refine' nx_rt ?_)
  | (with_reducible refine' nx_bk ?_)
  | (with_reducible refine' nx_ct ?_)
  | (with_reducible refine' tb_t ?_)
  | (with_reducible refine' tb_f ?_)
  | ((with_reducible refine' tb_yes ?e ?h); (case e => first | assumption | decide +kernel))
  | ((with_reducible refine' tb_no ?e ?h); (case e => first | assumption | decide +kernel))
  | ((with_reducible refine' tb_dec ?_ ?_) <;> intro hc <;> try (first | contradiction | (exfalso; omega)))
  | ((with_reducible refine' tb_ndec ?_ ?_) <;> intro hc <;> try (first | contradiction | (exfalso; omega)))
  | (with_reducible refine' S_asg ?_)
  | (with_reducible refine' S_cond ?_)
  | (with_reducible refine' S_ret ?_)
  | (with_reducible refine' S_skip ?_)
  | ((with_reducible refine' isA_of ?e ?h); (case e => rfl))
  | ((with_reducible refine' isB'_of ?e ?h); (case e => with_reducible assumption))
  | ((with_reducible refine' isB'_ne_dq0 ?_ ?_) <;> intro hc <;> try contradiction)
  | ((with_reducible refine' isB'_ne_dq ?_ ?_) <;> intro hc <;> try contradiction)
  | (with_reducible refine' isB'_eq_ni ?_)
  | (with_reducible refine' isB'_gt_pth ?_)
  | (with_reducible refine' isB'_eq_ii ?_)
  | (with_reducible refine' isB'_eq_bb ?_)
  | (with_reducible refine' isB'_ne_bb ?_)
  | (with_reducible refine' isB'_ne_ii ?_)
  | (with_reducible refine' isB'_eq_ss ?_)
  | (with_reducible refine' isB'_ne_ss ?_)
  | ((with_reducible refine' isO_mod ?e ?h); (case e => first | omega | assumption))
  | ((with_reducible refine' isO_fdv ?e ?h); (case e => first | decide | assumption))
  | ((with_reducible refine' isO_mul ?e ?h); (case e => first | decide | assumption))
  | ((with_reducible refine' isO_of ?e ?h); (case e => rfl))
  | ((with_reducible refine' hasMu_of ?e ?h); (case e => rfl))
  | (with_reducible refine' isInt_of ?_)
  | ((with_reducible refine' isN_of ?e ?h); (case e => rfl))
  | (with_reducible refine' isD_t0 ?_)
  | (with_reducible refine' isD_q0 ?_)
  | (with_reducible refine' isD_q1 ?_)
  | (with_reducible refine' isD_t1 ?_)
  | (with_reducible refine' isD_t2 ?_)
  | (with_reducible refine' isD_l0 ?_)
  | (with_reducible refine' isD_l1 ?_)
  | ((with_reducible refine' isD_of ?e ?h); (case e => rfl))
  | ((with_reducible refine' isB'_of (k := false) ?e ?h); (case e => decide +kernel))
  | ((with_reducible refine' isB'_of (k := true) ?e ?h); (case e => decide +kernel))
  | ((with_reducible refine' isB'_of ?e ?h); (case e => rfl))
  | (with_reducible refine' o_tup ?_)
  | (with_reducible refine' o_lst ?_)
  | ((with_reducible refine' sz_of ?e ?h); (case e => exact Nat.le_of_ble_eq_true rfl))
  | (with_reducible refine' o_b1 ?_)
  | (with_reducible refine' o_b2 ?_)
  | (with_reducible refine' o_an ?_)
  | (with_reducible refine' o_orr ?_)
  | (with_reducible refine' o_nt ?_)
  | ((with_reducible refine' o_isx_t ?e ?b ?h); (case e => rfl); (case b => rfl))
  | ((with_reducible refine' o_isx_f ?e ?b ?h); (case e => rfl); (case b => rfl))
  | (with_reducible refine' o_tr ?_)
  | (with_reducible refine' o_ite ?_)
  | (with_reducible refine' o_slc ?_)
  | (with_reducible refine' bd_non ?_)
  | (with_reducible refine' bd_int ?_)
  | ((with_reducible refine' o_var_mu ?e ?h); (case e => rfl))
  | (with_reducible refine' o_glo ?_)
  | ((with_reducible refine' S_rtv_im ?e ?h); (case e => rfl))
  | ((with_reducible refine' S_rtv_mu ?e ?h); (case e => rfl))
  | (with_reducible refine' S_rtn ?_)
  | (with_reducible refine' S_brk ?_)
  | (with_reducible refine' S_cnt ?_)
  | (with_reducible refine' S_exp ?_)
  | ((with_reducible refine' S_app ?e ?h); (case e => rfl))
  | ((with_reducible refine' S_aug ?e ?h); (case e => rfl))
  | (with_reducible refine' isI_of ?_)
  | (with_reducible refine' S_par ?_)
  | (with_reducible refine' S_six ?_)
  | (with_reducible refine' S_for ?_)
  | (with_reducible refine' S_whl ?_)
  | ((with_reducible refine' o_inx ?e ?h); (case e => rfl))
  | ((with_reducible refine' o_popat ?e ?h); (case e => rfl))
  | ((with_reducible refine' S_ext ?e ?h); (case e => rfl))
  | (with_reducible refine' o_rev ?_)
  | (with_reducible refine' o_enm ?_)
  | (with_reducible refine' o_rng1 ?_)
  | (with_reducible refine' o_rng2 ?_)
  | (with_reducible refine' o_comp ?_)
  | (with_reducible refine' o_call ?_)
  | ((with_reducible refine' o_cio ?e ?h); (case e => rfl))
  | (with_reducible refine' o_neg ?_)
  | (with_reducible refine' o_rep ?_)
  | (with_reducible refine' o_chn ?_)
  | (with_reducible refine' it_mu ?_)
  | (with_reducible refine' it_tp ?_)
  | (with_reducible refine' it_ls ?_)
  | ((with_reducible refine' wo_o ?e ?h); (case e => exact fun _ z => nomatch z)))

theorem S_ags {sb : Sub} {cf : Nat → List Sl → FR} {σ : Sls} {W : Nat} {P : Fl → Sls → Prop} {i : Nat} {ix e : IE} {o : BOp} {d0 : List D} (e0 : σ[i]? = some (.mu d0))
    (h : OkP (evE sb cf ix σ) fun z σ1 => wO ix σ1 z fun p => hasMu σ1[i]? fun ds => isInt p fun k => isN (L2.ixN ds.length k) fun n => ∃ x, ds[n]? = some (.int x) ∧ OkP (evE sb cf e σ1) fun y σ2 => wD y fun q => ∃ d ds2, bopD o (.int x) q = some (.im (.int d)) ∧ σ2[i]? = some (.mu ds2) ∧ ds2.length = ds.length ∧ P .nx (σ2.set i (.mu (ds2.set n (.int d))))) :
    OkP (evS W sb cf (.ags i ix o e) σ) P := by
  obtain ⟨z, σ1, e1, h⟩ := h
  simp only [evS, e0, e1, R.bind]
  refine okp_wo (h.imp fun p ⟨ds, e2, k, e3, n, e4, x, e5, y, σ2, e6, h2⟩ => ?_)
  subst e3
  simp only [e2, e4, e5, e6, R.bind]
  refine okp_wd (wD.imp h2 fun q ⟨d, ds2, g1, g2, g3, g4⟩ => ?_)
  rw [g1, g2]
  dsimp only
  rw [if_pos g3]
  exact ⟨_, _, rfl, g4⟩
theorem ixN_nat {m i : Nat} (h : i < m) : L2.ixN m (i : Int) = some i := by
  unfold L2.ixN
  rw [if_pos (by omega), if_pos (by omega)]
  simp
theorem map_set {f : Nat → D} {x : Nat} {v : D} (m : Nat) : ((List.range m).map f).set x v = (List.range m).map fun k => if k = x then v else f k := by
  apply List.ext_getElem?
  intro i
  rw [List.getElem?_map]
  by_cases hi : i < m
  · rw [List.getElem?_range hi]
    by_cases e : x = i
    · subst e
      rw [List.getElem?_set_self (by rw [List.length_map, List.length_range]; exact hi)]
      simp
    · rw [List.getElem?_set_ne e, List.getElem?_map, List.getElem?_range hi]
      simp [Ne.symm e]
  · rw [List.getElem?_eq_none (by rw [List.length_set, List.length_map, List.length_range]; omega), List.getElem?_eq_none (by rw [List.length_range]; omega)]
    rfl
theorem rng_get' {m j : Nat} (f : Nat → D) (h : j < m) : ((List.range m).map f)[j]? = some (f j) := by rw [List.getElem?_map, List.getElem?_range h]; rfl
theorem any_n (j : Nat) : ∀ l : List Nat, ((l.map nD).any fun y => y.eqv (nD j)) = l.contains j
  | [] => rfl
  | a :: l => by
    rw [List.map_cons, List.any_cons, List.contains_cons, any_n j l]
    congr 1
    show (nD a).eqv (nD j) = _
    rw [eqv_ii, Bool.eq_iff_iff, decide_eq_true_iff, beq_iff_eq]
    omega
theorem isB'_in_n {j : Nat} {l : List Nat} {Q : Bool → Prop} (h : Q (l.contains j)) : isB' (copD .isin (nD j) (cD l)) Q := by
  refine ⟨_, ?_, h⟩
  show (if (l.map nD).all (eqOk (nD j)) = true then some ((l.map nD).any fun y => y.eqv (nD j)) else none) = _
  have e1 : (l.map nD).all (eqOk (nD j)) = true := by
    rw [List.all_eq_true]
    intro y _
    exact eqOk_l (show (D.int (j : Int)).deep ≤ 200 from Nat.zero_le _)
  rw [if_pos e1, any_n]
theorem cut_take {xs : List D} (n : Nat) : cutD xs none (some (n : Int)) = xs.take n := by
  unfold cutD
  rw [HT.sIx_none, HT.sIx_nat, List.drop_zero, Nat.sub_zero]
  by_cases h : n ≤ xs.length
  · rw [Nat.min_eq_left h]
  · rw [Nat.min_eq_right (by omega), List.take_length, List.take_of_length_le (by omega)]
theorem cut_drop {xs : List D} (n : Nat) : cutD xs (some (n : Int)) none = xs.drop n := by
  unfold cutD
  rw [HT.sIx_none, HT.sIx_nat]
  by_cases h : n ≤ xs.length
  · rw [Nat.min_eq_left h, List.take_of_length_le (by rw [List.length_drop]; exact Nat.le_refl _)]
  · rw [Nat.min_eq_right (by omega), List.drop_length, List.drop_eq_nil_of_le (by omega), List.take_nil]
section
variable {rs : List (List Int)} {hs : List (List (List Nat))} {ch : List Nat}
theorem ld_pos {i j k : Nat} (hk : k < i) (hj : j ∈ rt hs ch k) : 1 ≤ ldi hs ch i j := by
  unfold ldi
  refine List.length_pos_iff.mpr fun z => ?_
  have := (List.mem_filter (p := fun k => (rt hs ch k).contains j)).mpr ⟨List.mem_range.mpr hk, by simpa using hj⟩
  rw [z] at this
  cases this
theorem loads_s (k : Nat) (t : Tr rs hs) (c : Chs hs ch) : FrP (C (k + 1) 2 [.im (tD rs hs), .im (cD ch)]) fun s _ => s = .mu ((List.range rs.length).map fun j => .int (ld hs ch j : Int)) := by
  have h1 := t.h1
  have h3 := t.h3
  have m4 := t.m4
  have hlr : (rs.map rD).length = rs.length := len0
  refine frp_fn rfl rfl ?_
  unfold b2
  repeat' walk_at "vc"
  refine ⟨_, _, rfl, rfl, by omega, by simp; exact sz_le (m := 1000) (by omega), ?_⟩
  repeat' walk_at "vc"
  refine o_zip ?_
  repeat' walk_at "vc"
  refine ⟨_, _, .inl ⟨rfl, rfl⟩, ?_⟩
  repeat' walk_at "vc"
  rw [zip_map nD rtsD 0 [] c.len, hlr]
  have einit : (List.replicate ((rs.length : Int)).toNat [D.int 0]).flatten = (List.range rs.length).map fun j => .int (ldi hs ch 0 j : Int) := by
    rw [Int.toNat_natCast]
    have : ∀ m : Nat, (List.replicate m [D.int 0]).flatten = (List.range m).map fun j => .int (ldi hs ch 0 j : Int) := by
      intro m
      induction m with
      | zero => rfl
      | succ m ih => rw [List.replicate_succ', List.flatten_append, ih, List.range_succ, List.map_append]; rfl
    exact this _
  rw [einit]
  refine for_inv (fun i σ => ∃ z3 z4 z5, σ = [.im (tD rs hs), .im (cD ch), .mu ((List.range rs.length).map fun j => .int (ldi hs ch i j : Int)), z3, z4, z5]) ⟨_, _, _, rfl⟩ ?_ ?_
  · rintro i d σ hd ⟨z3, z4, z5, rfl⟩
    rw [List.getElem?_map] at hd
    obtain ⟨i', hi', rfl⟩ := Option.map_eq_some_iff.mp hd
    obtain ⟨hin, e⟩ := List.getElem?_eq_some_iff.mp hi'
    rw [List.getElem_range] at e
    rw [List.length_range, c.len] at hin
    subst e
    have hlt := c.lt i hin
    obtain ⟨u1, u2⟩ := rt_up t c hin
    refine ⟨_, rfl, ?_⟩
    repeat' walk_at "vc"
    refine isD_nat (d := cD (rt hs ch i)) (map_get cD hlt) ?_
    repeat' walk_at "vc"
    refine for_rest nD (fun l σ => ∃ (p : List Nat) (z5 : Sl), rt hs ch i = p ++ l ∧ σ = [.im (tD rs hs), .im (cD ch), .mu ((List.range rs.length).map fun j => .int ((ldi hs ch i j : Int) + if p.contains j = true then 1 else 0)), .im (nD (ch.getD i 0)), .im (rtsD (hs.getD i [])), z5]) ?_ ?_ ⟨[], _, rfl, by simp; rfl⟩
    · rintro x l σ ⟨p, z5, hp, rfl⟩
      have hxm : x ∈ rt hs ch i := by rw [hp]; simp
      have hxr := u2 x hxm
      have hxp : p.contains x = false := by
        rw [Bool.eq_false_iff]
        intro z
        have z : x ∈ p := by simpa using z
        rw [hp] at u1
        have := (List.pairwise_append.mp u1).2.2 x z x (.head _)
        omega
      refine ⟨_, rfl, ?_⟩
      refine S_ags rfl ?_
      repeat' walk_at "vc"
      rw [List.length_map, List.length_range]
      refine isN_of (ixN_nat hxr) ⟨_, rng_get' _ hxr, ?_⟩
      repeat' walk_at "vc"
      refine ⟨_, _, rfl, rfl, by rw [List.length_map, List.length_range], p ++ [x], .im (nD x), by rw [List.append_assoc]; exact hp, ?_⟩
      rw [map_set]
      have key : ((List.range rs.length).map fun k => if k = x then D.int (((ldi hs ch i x : Int) + if p.contains x = true then 1 else 0) + 1) else D.int ((ldi hs ch i k : Int) + if p.contains k = true then 1 else 0)) = (List.range rs.length).map fun j => D.int ((ldi hs ch i j : Int) + if (p ++ [x]).contains j = true then 1 else 0) := by
        apply List.map_congr_left
        intro j _
        by_cases e : j = x
        · subst e
          rw [if_pos rfl, hxp, if_neg (by decide), if_pos (by simp)]
          congr 1
        · rw [if_neg e]
          have : (p ++ [x]).contains j = p.contains j := by
            simp [e]
          rw [this]
      rw [key]
      rfl
    · rintro σ ⟨p, z5, hp, rfl⟩
      rw [List.append_nil] at hp
      have key : ((List.range rs.length).map fun j => D.int ((ldi hs ch i j : Int) + if p.contains j = true then 1 else 0)) = (List.range rs.length).map fun j => D.int (ldi hs ch (i + 1) j : Int) := by
        apply List.map_congr_left
        intro j _
        rw [← hp, ldi_succ]
        congr 1
        split <;> rfl
      rw [key]
      exact ⟨_, _, _, rfl⟩
  · rintro σ ⟨z3, z4, z5, rfl⟩
    rw [List.length_map, List.length_range, c.len]
    repeat' walk_at "vc"
    rfl
theorem cost_s (k : Nat) (t : Tr rs hs) (c : Chs hs ch) {i : Nat} (hi : i < hs.length) : FrP (C (k + 2) 3 [.im (tD rs hs), .im (cD ch), .im (nD i)]) fun s _ => s = .im (.int (cs rs hs ch i)) := by
  have h1 := t.h1
  have h3 := t.h3
  have m4 := t.m4
  have hcl := c.len
  refine frp_fn rfl rfl ?_
  unfold b3
  obtain ⟨u1, u2⟩ := rt_up t c hi
  have hrl : (rt hs ch i).length ≤ 1000 := by
    have : ∀ (l : List Nat) (b m : Nat), l.Pairwise (· < ·) → (∀ j ∈ l, b ≤ j ∧ j < m) → l.length ≤ m - b := by
      intro l
      induction l with
      | nil => intro b m _ _; exact Nat.zero_le _
      | cons a l ih =>
        intro b m hp hq
        obtain ⟨p1, p2⟩ := List.pairwise_cons.mp hp
        have := ih (a + 1) m p2 fun j hj => ⟨p1 j hj, (hq j (.tail _ hj)).2⟩
        have := hq a (.head _)
        rw [List.length_cons]
        omega
    have := this _ 0 rs.length u1 fun j hj => ⟨Nat.zero_le _, u2 j hj⟩
    omega
  repeat' walk_at "vc"
  refine (loads_s k t c).imp fun s _ e => ?_
  subst e
  repeat' walk_at "vc"
  refine isD_nat (d := rtsD (hs.getD i [])) (map_get rtsD hi) ?_
  repeat' walk_at "vc"
  refine isD_nat (d := nD (ch.getD i 0)) (map_get nD (by omega)) ?_
  repeat' walk_at "vc"
  refine isD_nat (d := cD (rt hs ch i)) (map_get cD (c.lt i hi)) ?_
  repeat' walk_at "vc"
  refine comp_map nD (fun j => .int (roadC rs j (ld hs ch j - 1))) (rt hs ch i) (fun j hj => ⟨_, rfl, o_cst (tb_t ?_)⟩) ?_
  · have hjr := u2 j hj
    have hp : 1 ≤ ld hs ch j := ld_pos hi hj
    have hle : ld hs ch j ≤ hs.length := ldi_le _ _
    obtain ⟨r1, r2⟩ := road_get t hjr (show ld hs ch j - 1 < hs.length by omega)
    repeat' walk_at "vc"
    refine isD_nat r1 ?_
    repeat' walk_at "vc"
    refine isD_natL (rng_get' _ hjr) ?_
    repeat' walk_at "vc"
    rw [show ((ld hs ch j : Nat) : Int) - 1 = ((ld hs ch j - 1 : Nat) : Int) by omega]
    refine isD_nat r2 ?_
    exact ⟨rfl, rfl⟩
  · refine ⟨by rw [List.length_map]; exact sz_le (m := 1000) hrl, ?_⟩
    repeat' walk_at "vc"
    refine isO_sum (rt hs ch i) (fun j => roadC rs j (ld hs ch j - 1)) ?_
    rfl
theorem costs_s (k : Nat) (t : Tr rs hs) (c : Chs hs ch) : FrP (C (k + 3) 4 [.im (tD rs hs), .im (cD ch)]) fun s _ => s = .im (.tup ((List.range hs.length).map fun i => .int (cs rs hs ch i))) := by
  have h3 := t.h3
  have hcl := c.len
  have hlc : (ch.map nD).length = ch.length := len0
  refine frp_fn rfl rfl ?_
  unfold b4
  repeat' walk_at "vc"
  refine (check_ch_s k t c).imp fun s _ e => ?_
  repeat' walk_at "vc"
  refine ⟨rngIn_of (by omega) (by omega), ?_⟩
  repeat' walk_at "vc"
  rw [hlc, hcl, rng_nD]
  refine comp_map nD (fun i => .int (cs rs hs ch i)) (List.range hs.length) (fun i hi => ⟨_, rfl, o_cst (tb_t ?_)⟩) ?_
  · repeat' walk_at "vc"
    refine (cost_s k t c (List.mem_range.mp hi)).imp fun s _ e => ?_
    subst e
    exact ⟨rfl, rfl⟩
  · refine ⟨by rw [List.length_map, List.length_range]; exact sz_le (m := 1000) (by omega), ?_⟩
    repeat' walk_at "vc"
    rfl
theorem height_s (k : Nat) (t : Tr rs hs) (c : Chs hs ch) : FrP (C (k + 2) 5 [.im (tD rs hs), .im (cD ch)]) fun s _ => s = .im (.int (ht rs hs ch)) := by
  have m4 := t.m4
  refine frp_fn rfl rfl ?_
  unfold b5
  repeat' walk_at "vc"
  refine (loads_s k t c).imp fun s _ e => ?_
  subst e
  repeat' walk_at "vc"
  refine o_zip ?_
  repeat' walk_at "vc"
  refine ⟨_, _, .inr (.inl ⟨rfl, rfl⟩), ?_⟩
  repeat' walk_at "vc"
  have ez : zipL (rs.map rD) ((List.range rs.length).map fun j => D.int (ld hs ch j : Int)) = (List.range rs.length).map fun j => .tup [rD (rs.getD j []), .int (ld hs ch j : Int)] := by
    have := zip_map (xs := rs) (ys := List.range rs.length) rD (fun j : Nat => D.int (ld hs ch j : Int)) [] 0 (by rw [List.length_range])
    rw [this]
    apply List.map_congr_left
    intro j hj
    have hj := List.mem_range.mp hj
    rw [show (List.range rs.length).getD j 0 = j from by rw [List.getD_eq_getElem?_getD, List.getElem?_range hj]; rfl]
  rw [ez]
  refine comp_map (fun j : Nat => .tup [rD (rs.getD j []), .int (ld hs ch j : Int)]) (fun j => .int ((rs.getD j []).take (ld hs ch j)).sum) (List.range rs.length) (fun j hj => ⟨_, rfl, o_cst (tb_t ?_)⟩) ?_
  · repeat' walk_at "vc"
    rw [cut_take, ← List.map_take]
    refine isO_sumT ?_
    exact ⟨rfl, rfl⟩
  · refine ⟨by rw [List.length_map, List.length_range]; exact sz_le (m := 1000) (by omega), ?_⟩
    repeat' walk_at "vc"
    refine isO_sum (List.range rs.length) (fun j => ((rs.getD j []).take (ld hs ch j)).sum) ?_
    rfl
theorem height_c (k : Nat) (t : Tr rs hs) (c : Chs hs ch) : FrP (C (k + 3) 6 [.im (tD rs hs), .im (cD ch)]) fun s _ => s = .im (.int (ht rs hs ch)) := by
  refine frp_fn rfl rfl ?_
  unfold b6
  repeat' walk_at "vc"
  refine (check_ch_s k t c).imp fun s _ e => ?_
  repeat' walk_at "vc"
  refine (height_s k t c).imp fun s _ e => ?_
  exact e
theorem set_cut {i x : Nat} (h : i < ch.length) : (ch.take i ++ [x]) ++ ch.drop (i + 1) = ch.set i x := by
  rw [List.set_eq_take_append_cons_drop, if_pos h, List.append_assoc]
  rfl
theorem with_s (k : Nat) {i x : Nat} (h : i < ch.length) (hl : ch.length ≤ 1000) : FrP (C (k + 1) 7 [.im (cD ch), .im (nD i), .im (nD x)]) fun s _ => s = .im (cD (ch.set i x)) := by
  refine frp_fn rfl rfl ?_
  unfold b7
  repeat' walk_at "vc"
  rw [cut_take]
  refine isO_tup (by rw [List.length_take, List.length_map]; exact sz_le (m := 2000) (by show _ + 1 ≤ _; omega)) ?_
  repeat' walk_at "vc"
  rw [show (i : Int) + 1 = ((i + 1 : Nat) : Int) by omega, cut_drop]
  refine isO_tup (by rw [List.length_append, List.length_take, List.length_map, List.length_drop, List.length_map]; exact sz_le (m := 3000) (by show _ + 1 + _ ≤ _; omega)) ?_
  show _ = Sl.im (.tup ((ch.set i x).map nD))
  rw [← set_cut h, List.map_append, List.map_append, List.map_take, List.map_drop]
  rfl
theorem lwith_s (k : Nat) {i x : Nat} (h : i < ch.length) (hl : ch.length ≤ 1000) : FrP (C (k + 1) 21 [.im (cD ch), .im (nD i), .im (nD x)]) fun s _ => s = .im (cD (ch.set i x)) := by
  refine frp_fn rfl rfl ?_
  unfold b21
  repeat' walk_at "vc"
  rw [cut_take]
  refine isO_tup (by rw [List.length_take, List.length_map]; exact sz_le (m := 2000) (by show _ + 1 ≤ _; omega)) ?_
  repeat' walk_at "vc"
  rw [show (i : Int) + 1 = ((i + 1 : Nat) : Int) by omega, cut_drop]
  refine isO_tup (by rw [List.length_append, List.length_take, List.length_map, List.length_drop, List.length_map]; exact sz_le (m := 3000) (by show _ + 1 + _ ≤ _; omega)) ?_
  show _ = Sl.im (.tup ((ch.set i x).map nD))
  rw [← set_cut h, List.map_append, List.map_append, List.map_take, List.map_drop]
  rfl
end
end K64
namespace K64
open PySem Rf
local macro_rules | `(tactic| walk_at "vc") => `(tactic| first
  | (with_reducible refine' S_seq ?_)
  | ((with_reducible refine' o_lv_im ?e ?h); (case e => rfl))
  | (with_reducible refine' o_cst ?_)
  | ((with_reducible refine' wo_lv ?e ?h); (case e => rfl))
  | (with_reducible refine' wd_im ?_)
  | (with_reducible refine' wd_mu ?_)
  | ((with_reducible refine' o_var_im ?e ?h); (case e => rfl))
  | (with_reducible refine' o_bin ?_)
  | (with_reducible refine' o_cmp ?_)
  | (with_reducible refine' o_idx ?_)
  | ((with_reducible refine' o_lv_mu ?e ?h); (case e => rfl))
  | (with_reducible refine' o_cons ?_)
  | (with_reducible refine' o_nil ?_)
  | (with_reducible refine' mu_of ?_)
  | (with_reducible refine' nx_nx ?_)
  | (with_reducible refine' nx_rt ?_)
  | (with_reducible refine' nx_bk ?_)
  | (with_reducible refine' nx_ct ?_)
  | (with_reducible refine' tb_t ?_)
  | (with_reducible refine' tb_f ?_)
  | ((with_reducible refine' tb_yes ?e ?h); (case e => first | assumption | decide +kernel))
  | ((with_reducible refine' tb_no ?e ?h); (case e => first | assumption | decide +kernel))
  | ((with_reducible refine' tb_dec ?_ ?_) <;> intro hc <;> try (first | contradiction | (exfalso; omega)))
  | ((with_reducible refine' tb_ndec ?_ ?_) <;> intro hc <;> try (first | contradiction | (exfalso; omega)))
  | (with_reducible refine' S_asg ?_)
  | (with_reducible refine' S_cond ?_)
  | (with_reducible refine' S_ret ?_)
  | (with_reducible refine' S_skip ?_)
  | ((with_reducible refine' isA_of ?e ?h); (case e => rfl))
  | ((with_reducible refine' isB'_of ?e ?h); (case e => with_reducible assumption))
  | ((with_reducible refine' isB'_ne_dq0 ?_ ?_) <;> intro hc <;> try contradiction)
  | ((with_reducible refine' isB'_ne_dq ?_ ?_) <;> intro hc <;> try contradiction)
  | (with_reducible refine' isB'_eq_ni ?_)
  | (with_reducible refine' isB'_gt_pth ?_)
  | (with_reducible refine' isB'_eq_ii ?_)
  | (with_reducible refine' isB'_eq_bb ?_)
  | (with_reducible refine' isB'_ne_bb ?_)
  | (with_reducible refine' isB'_ne_ii ?_)
  | (with_reducible refine' isB'_eq_ss ?_)
  | (with_reducible refine' isB'_ne_ss ?_)
  | ((with_reducible refine' isO_mod ?e ?h); (case e => first | omega | assumption))
  | ((with_reducible refine' isO_fdv ?e ?h); (case e => first | decide | assumption))
  | ((with_reducible refine' isO_mul ?e ?h); (case e => first | decide | assumption))
  | ((with_reducible refine' isO_of ?e ?h); (case e => rfl))
  | ((with_reducible refine' hasMu_of ?e ?h); (case e => rfl))
  | (with_reducible refine' isInt_of ?_)
  | ((with_reducible refine' isN_of ?e ?h); (case e => rfl))
  | (with_reducible refine' isD_t0 ?_)
  | (with_reducible refine' isD_q0 ?_)
  | (with_reducible refine' isD_q1 ?_)
  | (with_reducible refine' isD_t1 ?_)
  | (with_reducible refine' isD_t2 ?_)
  | (with_reducible refine' isD_l0 ?_)
  | (with_reducible refine' isD_l1 ?_)
  | ((with_reducible refine' isD_of ?e ?h); (case e => rfl))
  | ((with_reducible refine' isB'_of (k := false) ?e ?h); (case e => decide +kernel))
  | ((with_reducible refine' isB'_of (k := true) ?e ?h); (case e => decide +kernel))
  | ((with_reducible refine' isB'_of ?e ?h); (case e => rfl))
  | (with_reducible refine' o_tup ?_)
  | (with_reducible refine' o_lst ?_)
  | ((with_reducible refine' sz_of ?e ?h); (case e => exact Nat.le_of_ble_eq_true rfl))
  | (with_reducible refine' o_b1 ?_)
  | (with_reducible refine' o_b2 ?_)
  | (with_reducible refine' o_an ?_)
  | (with_reducible refine' o_orr ?_)
  | (with_reducible refine' o_nt ?_)
  | ((with_reducible refine' o_isx_t ?e ?b ?h); (case e => rfl); (case b => rfl))
  | ((with_reducible refine' o_isx_f ?e ?b ?h); (case e => rfl); (case b => rfl))
  | (with_reducible refine' o_tr ?_)
  | (with_reducible refine' o_ite ?_)
  | (with_reducible refine' o_slc ?_)
  | (with_reducible refine' bd_non ?_)
  | (with_reducible refine' bd_int ?_)
  | ((with_reducible refine' o_var_mu ?e ?h); (case e => rfl))
  | (with_reducible refine' o_glo ?_)
  | ((with_reducible refine' S_rtv_im ?e ?h); (case e => rfl))
  | ((with_reducible refine' S_rtv_mu ?e ?h); (case e => rfl))
  | (with_reducible refine' S_rtn ?_)
  | (with_reducible refine' S_brk ?_)
  | (with_reducible refine' S_cnt ?_)
  | (with_reducible refine' S_exp ?_)
  | ((with_reducible refine' S_app ?e ?h); (case e => rfl))
  | ((with_reducible refine' S_aug ?e ?h); (case e => rfl))
  | (with_reducible refine' isI_of ?_)
  | (with_reducible refine' S_par ?_)
  | (with_reducible refine' S_six ?_)
  | (with_reducible refine' S_for ?_)
  | (with_reducible refine' S_whl ?_)
  | ((with_reducible refine' o_inx ?e ?h); (case e => rfl))
  | ((with_reducible refine' o_popat ?e ?h); (case e => rfl))
  | ((with_reducible refine' S_ext ?e ?h); (case e => rfl))
  | (with_reducible refine' o_rev ?_)
  | (with_reducible refine' o_enm ?_)
  | (with_reducible refine' o_rng1 ?_)
  | (with_reducible refine' o_rng2 ?_)
  | (with_reducible refine' o_comp ?_)
  | (with_reducible refine' o_call ?_)
  | ((with_reducible refine' o_cio ?e ?h); (case e => rfl))
  | (with_reducible refine' o_neg ?_)
  | (with_reducible refine' o_rep ?_)
  | (with_reducible refine' o_chn ?_)
  | (with_reducible refine' it_mu ?_)
  | (with_reducible refine' it_tp ?_)
  | (with_reducible refine' it_ls ?_)
  | ((with_reducible refine' wo_o ?e ?h); (case e => exact fun _ z => nomatch z)))

variable {rs : List (List Int)} {hs : List (List (List Nat))} {ch : List Nat}
theorem asc_len {m : Nat} : ∀ {l : List Nat} {b : Nat}, l.Pairwise (· < ·) → (∀ j ∈ l, b ≤ j ∧ j < m) → l.length ≤ m - b
  | [], _, _, _ => Nat.zero_le _
  | a :: l, b, hp, hq => by
    obtain ⟨p1, p2⟩ := List.pairwise_cons.mp hp
    have := asc_len (l := l) (b := a + 1) p2 fun j hj => ⟨p1 j hj, (hq j (.tail _ hj)).2⟩
    have := hq a (.head _)
    rw [List.length_cons]
    omega
theorem rt_len (t : Tr rs hs) (c : Chs hs ch) {i : Nat} (hi : i < hs.length) : (rt hs ch i).length ≤ 4 := by
  obtain ⟨u1, u2⟩ := rt_up t c hi
  have := asc_len u1 fun j hj => ⟨Nat.zero_le _, u2 j hj⟩
  have := t.m4
  omega
/-- the loads, in the law's own way -/
theorem lload (t : Tr rs hs) (c : Chs hs ch) {cf : Nat → List Sl → FR} {σ : Sls} {P : Sl → Sls → Prop} {j : Nat} (e1 : σ[1]? = some (.im (cD ch))) (e3 : σ[3]? = some (.im (hD hs))) (e5 : 5 < σ.length) (e7 : 7 < σ.length) (e6 : σ[6]? = some (.im (nD j)))
    (hP : P (.im (.int (ld hs ch j : Int))) σ) : OkP (evE (sbOf sbt) cf (.b1 .len (.comp [5, 7] (.nm 7) (.rng1 (.b1 .len (.lv 3))) (.cmp .isin (.lv 6) (.idx (.idx (.lv 3) (.lv 7)) (.idx (.lv 1) (.lv 7)))) (.var 7))) σ) P := by
  have h3 := t.h3
  have hlh : (hs.map rtsD).length = hs.length := len0
  have hcl := c.len
  refine o_b1 (o_comp (o_rng1 (o_b1 (o_lv_im e3 (wo_lv e3 (wd_im (isO_of rfl (wd_im (isInt_of ⟨rngIn_of (by omega) (by omega), ?_⟩)))))))))
  rw [hlh, rng_nD]
  refine it_mu ?_
  have hw : ∀ i : Nat, i ≠ 5 → i ≠ 7 → (wipeD σ [5, 7])[i]? = σ[i]? := fun i h5 h7 => by
    show ((σ.set 7 .un).set 5 .un)[i]? = _
    rw [List.getElem?_set_ne (Ne.symm h5), List.getElem?_set_ne (Ne.symm h7)]
  refine comp_mapF nD nD (fun k => (rt hs ch k).contains j) (List.range hs.length) (fun k hk => ⟨_, rfl, ?_⟩) ?_
  · have hk := List.mem_range.mp hk
    have s1 : ((wipeD σ [5, 7]).set 7 (.im (nD k)))[1]? = some (.im (cD ch)) := by rw [List.getElem?_set_ne (by decide), hw 1 (by decide) (by decide)]; exact e1
    have s3 : ((wipeD σ [5, 7]).set 7 (.im (nD k)))[3]? = some (.im (hD hs)) := by rw [List.getElem?_set_ne (by decide), hw 3 (by decide) (by decide)]; exact e3
    have s6 : ((wipeD σ [5, 7]).set 7 (.im (nD k)))[6]? = some (.im (nD j)) := by rw [List.getElem?_set_ne (by decide), hw 6 (by decide) (by decide)]; exact e6
    have s7 : ((wipeD σ [5, 7]).set 7 (.im (nD k)))[7]? = some (.im (nD k)) := List.getElem?_set_self (by show 7 < ((σ.set 7 .un).set 5 .un).length; rw [List.length_set, List.length_set]; exact e7)
    have back : backD σ ((wipeD σ [5, 7]).set 7 (.im (nD k))) [5, 7] = σ := by
      apply List.ext_getElem?
      intro i
      by_cases i5 : i = 5
      · subst i5
        rw [backD_in (by show σ.length = (((σ.set 7 .un).set 5 .un).set 7 _).length; simp) (by decide)]
      · by_cases i7 : i = 7
        · subst i7
          rw [backD_in (by show σ.length = (((σ.set 7 .un).set 5 .un).set 7 _).length; simp) (by decide)]
        · rw [backD_out (by simp [i5, i7]), List.getElem?_set_ne (Ne.symm i7), hw i i5 i7]
    refine o_cmp (o_lv_im s6 (o_idx (o_idx (o_lv_im s3 (o_lv_im s7 (wo_lv s3 (wd_im (wo_lv s7 (wd_im ?_))))))) ))
    refine isD_nat (d := rtsD (hs.getD k [])) (map_get rtsD hk) ?_
    refine o_idx (o_lv_im s1 (o_lv_im s7 (wo_lv s1 (wd_im (wo_lv s7 (wd_im ?_))))))
    refine isD_nat (d := nD (ch.getD k 0)) (map_get nD (by omega)) ?_
    refine wo_o (fun _ z => nomatch z) (wd_im (wo_o (fun _ z => nomatch z) (wd_im ?_)))
    refine isD_nat (d := cD (rt hs ch k)) (map_get cD (c.lt k hk)) ?_
    refine wo_lv s6 (wd_im (wo_o (fun _ z => nomatch z) (wd_im (isB'_in_n ?_))))
    refine tb_bool (fun hc => ?_) (fun hc => ?_)
    · refine ⟨hc, o_var_im s7 (wd_im ⟨rfl, back⟩)⟩
    · exact ⟨hc, back⟩
  · refine ⟨by rw [List.length_map]; exact sz_le (m := 1000) (Nat.le_trans (List.length_filter_le _ _) (by rw [List.length_range]; omega)), ?_⟩
    refine wo_o (fun _ z => nomatch z) (wd_mu (isO_of rfl ?_))
    rw [List.length_map]
    exact hP
theorem lcosts_s (k : Nat) (t : Tr rs hs) (c : Chs hs ch) : FrP (C (k + 1) 19 [.im (tD rs hs), .im (cD ch)]) fun s _ => s = .im (.tup ((List.range hs.length).map fun i => .int (cs rs hs ch i))) := by
  have h3 := t.h3
  have m4 := t.m4
  have hcl := c.len
  have hlr : (rs.map rD).length = rs.length := len0
  have hlh : (hs.map rtsD).length = hs.length := len0
  refine frp_fn rfl rfl ?_
  unfold b19
  refine S_seq (S_asg (o_var_im rfl (isA_of rfl (nx_nx (S_seq (S_asg (o_comp (o_rng1 (o_b1 (o_lv_im rfl (wo_lv rfl (wd_im (isO_of rfl (wd_im (isInt_of ⟨rngIn_of (by omega) (by omega), ?_⟩)))))))))))))))
  rw [hlr, rng_nD]
  refine it_mu ?_
  refine comp_map nD (fun j => .int (ld hs ch j : Int)) (List.range rs.length) (fun j hj => ⟨_, rfl, o_cst (tb_t ?_)⟩) ?_
  · refine lload t c rfl rfl (by show 5 < 8; decide) (by show 7 < 8; decide) rfl ?_
    exact wd_im ⟨rfl, rfl⟩
  refine ⟨by rw [List.length_map, List.length_range]; exact sz_le (m := 1000) (by omega), ?_⟩
  repeat' walk_at "vc"
  refine ⟨rngIn_of (by omega) (by omega), ?_⟩
  repeat' walk_at "vc"
  rw [hlh, rng_nD]
  refine comp_map nD (fun i => .int (cs rs hs ch i)) (List.range hs.length) (fun i hi => ⟨_, rfl, o_cst (tb_t ?_)⟩) ?_
  · have hi := List.mem_range.mp hi
    obtain ⟨u1, u2⟩ := rt_up t c hi
    have hrl := rt_len t c hi
    repeat' walk_at "vc"
    refine isD_nat (d := rtsD (hs.getD i [])) (map_get rtsD hi) ?_
    repeat' walk_at "vc"
    refine isD_nat (d := nD (ch.getD i 0)) (map_get nD (by omega)) ?_
    repeat' walk_at "vc"
    refine isD_nat (d := cD (rt hs ch i)) (map_get cD (c.lt i hi)) ?_
    repeat' walk_at "vc"
    refine comp_map nD (fun j => .int (roadC rs j (ld hs ch j - 1))) (rt hs ch i) (fun j hj => ⟨_, rfl, o_cst (tb_t ?_)⟩) ?_
    · have hjr := u2 j hj
      have hp : 1 ≤ ld hs ch j := ld_pos hi hj
      have hle : ld hs ch j ≤ hs.length := ldi_le _ _
      obtain ⟨r1, r2⟩ := road_get t hjr (show ld hs ch j - 1 < hs.length by omega)
      repeat' walk_at "vc"
      refine isD_nat r1 ?_
      repeat' walk_at "vc"
      refine isD_natL (rng_get' _ hjr) ?_
      repeat' walk_at "vc"
      rw [show ((ld hs ch j : Nat) : Int) - 1 = ((ld hs ch j - 1 : Nat) : Int) by omega]
      refine isD_nat r2 ?_
      exact ⟨rfl, rfl⟩
    · refine ⟨by rw [List.length_map]; exact sz_le (m := 1000) (by omega), ?_⟩
      repeat' walk_at "vc"
      refine isO_sum (rt hs ch i) (fun j => roadC rs j (ld hs ch j - 1)) ?_
      exact ⟨rfl, rfl⟩
  · refine ⟨by rw [List.length_map, List.length_range]; exact sz_le (m := 1000) (by omega), ?_⟩
    repeat' walk_at "vc"
    rfl
theorem lheight_s (k : Nat) (t : Tr rs hs) (c : Chs hs ch) : FrP (C (k + 1) 20 [.im (tD rs hs), .im (cD ch)]) fun s _ => s = .im (.int (ht rs hs ch)) := by
  have h3 := t.h3
  have m4 := t.m4
  have hcl := c.len
  have hlr : (rs.map rD).length = rs.length := len0
  have hlh : (hs.map rtsD).length = hs.length := len0
  refine frp_fn rfl rfl ?_
  unfold b20
  refine S_seq (S_asg (o_var_im rfl (isA_of rfl (nx_nx (S_seq (S_asg (o_comp (o_rng1 (o_b1 (o_lv_im rfl (wo_lv rfl (wd_im (isO_of rfl (wd_im (isInt_of ⟨rngIn_of (by omega) (by omega), ?_⟩)))))))))))))))
  rw [hlr, rng_nD]
  refine it_mu ?_
  refine comp_map nD (fun j => .int (ld hs ch j : Int)) (List.range rs.length) (fun j hj => ⟨_, rfl, o_cst (tb_t ?_)⟩) ?_
  · refine lload t c rfl rfl (by show 5 < 8; decide) (by show 7 < 8; decide) rfl ?_
    exact wd_im ⟨rfl, rfl⟩
  refine ⟨by rw [List.length_map, List.length_range]; exact sz_le (m := 1000) (by omega), ?_⟩
  repeat' walk_at "vc"
  refine ⟨rngIn_of (by omega) (by omega), ?_⟩
  repeat' walk_at "vc"
  rw [hlr, rng_nD]
  refine comp_map nD (fun j => .int ((rs.getD j []).take (ld hs ch j)).sum) (List.range rs.length) (fun j hj => ⟨_, rfl, o_cst (tb_t ?_)⟩) ?_
  · have hj := List.mem_range.mp hj
    repeat' walk_at "vc"
    refine isD_nat (d := rD (rs.getD j [])) (map_get rD hj) ?_
    repeat' walk_at "vc"
    refine isD_natL (rng_get' _ hj) ?_
    repeat' walk_at "vc"
    rw [cut_take, ← List.map_take]
    refine isO_sumT ?_
    exact ⟨rfl, rfl⟩
  · refine ⟨by rw [List.length_map, List.length_range]; exact sz_le (m := 1000) (by omega), ?_⟩
    repeat' walk_at "vc"
    refine isO_sum (List.range rs.length) (fun j => ((rs.getD j []).take (ld hs ch j)).sum) ?_
    rfl
end K64
namespace K64
open PySem Rf
local macro_rules | `(tactic| walk_at "vc") => `(tactic| first
  | (with_reducible refine' S_seq ?_)
  | ((with_reducible refine' o_lv_im ?e ?h); (case e => rfl))
  | (with_reducible refine' o_cst ?_)
  | ((with_reducible refine' wo_lv ?e ?h); (case e => rfl))
  | (with_reducible refine' wd_im ?_)
  | (with_reducible refine' wd_mu ?_)
  | ((with_reducible refine' o_var_im ?e ?h); (case e => rfl))
  | (with_reducible refine' o_bin ?_)
  | (with_reducible refine' o_cmp ?_)
  | (with_reducible refine' o_idx ?_)
  | ((with_reducible refine' o_lv_mu ?e ?h); (case e => rfl))
  | (with_reducible refine' o_cons ?_)
  | (with_reducible refine' o_nil ?_)
  | (with_reducible refine' mu_of ?_)
  | (with_reducible refine' nx_nx ?_)
  | (with_reducible refine' nx_rt ?_)
  | (with_reducible refine' nx_bk ?_)
  | (with_reducible refine' nx_ct ?_)
  | (with_reducible refine' tb_t ?_)
  | (with_reducible refine' tb_f ?_)
  | ((with_reducible refine' tb_yes ?e ?h); (case e => first | assumption | decide +kernel))
  | ((with_reducible refine' tb_no ?e ?h); (case e => first | assumption | decide +kernel))
  | ((with_reducible refine' tb_dec ?_ ?_) <;> intro hc <;> try (first | contradiction | (exfalso; omega)))
  | ((with_reducible refine' tb_ndec ?_ ?_) <;> intro hc <;> try (first | contradiction | (exfalso; omega)))
  | (with_reducible refine' S_asg ?_)
  | (with_reducible refine' S_cond ?_)
  | (with_reducible refine' S_ret ?_)
  | (with_reducible refine' S_skip ?_)
  | ((with_reducible refine' isA_of ?e ?h); (case e => rfl))
  | ((with_reducible refine' isB'_of ?e ?h); (case e => with_reducible assumption))
  | ((with_reducible refine' isB'_ne_dq0 ?_ ?_) <;> intro hc <;> try contradiction)
  | ((with_reducible refine' isB'_ne_dq ?_ ?_) <;> intro hc <;> try contradiction)
  | (with_reducible refine' isB'_eq_ni ?_)
  | (with_reducible refine' isB'_gt_pth ?_)
  | (with_reducible refine' isB'_eq_ii ?_)
  | (with_reducible refine' isB'_eq_bb ?_)
  | (with_reducible refine' isB'_ne_bb ?_)
  | (with_reducible refine' isB'_ne_ii ?_)
  | (with_reducible refine' isB'_eq_ss ?_)
  | (with_reducible refine' isB'_ne_ss ?_)
  | ((with_reducible refine' isO_mod ?e ?h); (case e => first | omega | assumption))
  | ((with_reducible refine' isO_fdv ?e ?h); (case e => first | decide | assumption))
  | ((with_reducible refine' isO_mul ?e ?h); (case e => first | decide | assumption))
  | ((with_reducible refine' isO_of ?e ?h); (case e => rfl))
  | ((with_reducible refine' hasMu_of ?e ?h); (case e => rfl))
  | (with_reducible refine' isInt_of ?_)
  | ((with_reducible refine' isN_of ?e ?h); (case e => rfl))
  | (with_reducible refine' isD_t0 ?_)
  | (with_reducible refine' isD_q0 ?_)
  | (with_reducible refine' isD_q1 ?_)
  | (with_reducible refine' isD_t1 ?_)
  | (with_reducible refine' isD_t2 ?_)
  | (with_reducible refine' isD_l0 ?_)
  | (with_reducible refine' isD_l1 ?_)
  | ((with_reducible refine' isD_of ?e ?h); (case e => rfl))
  | ((with_reducible refine' isB'_of (k := false) ?e ?h); (case e => decide +kernel))
  | ((with_reducible refine' isB'_of (k := true) ?e ?h); (case e => decide +kernel))
  | ((with_reducible refine' isB'_of ?e ?h); (case e => rfl))
  | (with_reducible refine' o_tup ?_)
  | (with_reducible refine' o_lst ?_)
  | ((with_reducible refine' sz_of ?e ?h); (case e => exact Nat.le_of_ble_eq_true rfl))
  | (with_reducible refine' o_b1 ?_)
  | (with_reducible refine' o_b2 ?_)
  | (with_reducible refine' o_an ?_)
  | (with_reducible refine' o_orr ?_)
  | (with_reducible refine' o_nt ?_)
  | ((with_reducible refine' o_isx_t ?e ?b ?h); (case e => rfl); (case b => rfl))
  | ((with_reducible refine' o_isx_f ?e ?b ?h); (case e => rfl); (case b => rfl))
  | (with_reducible refine' o_tr ?_)
  | (with_reducible refine' o_ite ?_)
  | (with_reducible refine' o_slc ?_)
  | (with_reducible refine' bd_non ?_)
  | (with_reducible refine' bd_int ?_)
  | ((with_reducible refine' o_var_mu ?e ?h); (case e => rfl))
  | (with_reducible refine' o_glo ?_)
  | ((with_reducible refine' S_rtv_im ?e ?h); (case e => rfl))
  | ((with_reducible refine' S_rtv_mu ?e ?h); (case e => rfl))
  | (with_reducible refine' S_rtn ?_)
  | (with_reducible refine' S_brk ?_)
  | (with_reducible refine' S_cnt ?_)
  | (with_reducible refine' S_exp ?_)
  | ((with_reducible refine' S_app ?e ?h); (case e => rfl))
  | ((with_reducible refine' S_aug ?e ?h); (case e => rfl))
  | (with_reducible refine' isI_of ?_)
  | (with_reducible refine' S_par ?_)
  | (with_reducible refine' S_six ?_)
  | (with_reducible refine' S_for ?_)
  | (with_reducible refine' S_whl ?_)
  | ((with_reducible refine' o_inx ?e ?h); (case e => rfl))
  | ((with_reducible refine' o_popat ?e ?h); (case e => rfl))
  | ((with_reducible refine' S_ext ?e ?h); (case e => rfl))
  | (with_reducible refine' o_rev ?_)
  | (with_reducible refine' o_enm ?_)
  | (with_reducible refine' o_rng1 ?_)
  | (with_reducible refine' o_rng2 ?_)
  | (with_reducible refine' o_comp ?_)
  | (with_reducible refine' o_call ?_)
  | ((with_reducible refine' o_cio ?e ?h); (case e => rfl))
  | (with_reducible refine' o_neg ?_)
  | (with_reducible refine' o_rep ?_)
  | (with_reducible refine' o_chn ?_)
  | (with_reducible refine' it_mu ?_)
  | (with_reducible refine' it_tp ?_)
  | (with_reducible refine' it_ls ?_)
  | ((with_reducible refine' wo_o ?e ?h); (case e => exact fun _ z => nomatch z)))

variable {rs : List (List Int)} {hs : List (List (List Nat))} {ch : List Nat}
theorem rng_cons {h : Nat} (h1 : 1 ≤ h) {β : Type} (f : Nat → β) : (List.range h).map f = f 0 :: ((List.range (h - 1)).map (· + 1)).map f := by
  obtain ⟨j, rfl⟩ : ∃ j, h = j + 1 := ⟨h - 1, by omega⟩
  rw [List.range_succ_eq_map, List.map_cons]
  rfl
theorem rng_cons' {h : Nat} (h1 : 1 ≤ h) : List.range h = 0 :: (List.range (h - 1)).map (· + 1) := by
  have := rng_cons h1 id
  simpa using this
/-! ### the first of the least -/
def ai (u : Nat → Int) : Nat → List Nat → Nat
  | b, [] => b
  | b, k :: ks => ai u (if u k < u b then k else b) ks
theorem ai_mem (u : Nat → Int) : ∀ (ks : List Nat) (b : Nat), ai u b ks ∈ b :: ks
  | [], b => .head _
  | k :: ks, b => by
    unfold ai
    have := ai_mem u ks (if u k < u b then k else b)
    rcases List.mem_cons.mp this with e | e
    · rw [e]
      split
      · exact .tail _ (.head _)
      · exact .head _
    · exact .tail _ (.tail _ e)
theorem ai_min (u : Nat → Int) : ∀ (ks : List Nat) (b : Nat), (∀ k ∈ b :: ks, u (ai u b ks) ≤ u k) ∧ minI (u b) (ks.map u) = u (ai u b ks)
  | [], b => ⟨fun k hk => by rw [List.mem_singleton.mp hk]; exact Int.le_refl _, rfl⟩
  | k :: ks, b => by
    rw [List.map_cons]
    unfold ai minI
    by_cases h : u k < u b
    · rw [if_pos h, if_pos h]
      obtain ⟨h1, h2⟩ := ai_min u ks k
      refine ⟨fun j hj => ?_, h2⟩
      rcases List.mem_cons.mp hj with rfl | hj
      · have := h1 k (.head _); omega
      · exact h1 j hj
    · rw [if_neg h, if_neg h]
      obtain ⟨h1, h2⟩ := ai_min u ks b
      refine ⟨fun j hj => ?_, h2⟩
      rcases List.mem_cons.mp hj with rfl | hj
      · exact h1 j (.head _)
      · rcases List.mem_cons.mp hj with rfl | hj
        · have := h1 b (.head _); omega
        · exact h1 j (.tail _ hj)
theorem ai_first (u : Nat → Int) : ∀ (ks : List Nat) (b : Nat), (b :: ks).find? (fun k => decide (u k = u (ai u b ks))) = some (ai u b ks)
  | [], b => by rw [List.find?_cons_of_pos (by simp [ai])]; rfl
  | k :: ks, b => by
    unfold ai
    by_cases h : u k < u b
    · rw [if_pos h]
      have ih := ai_first u ks k
      have hm := (ai_min u ks k).1 k (.head _)
      rw [List.find?_cons_of_neg (by intro z; have := of_decide_eq_true z; omega)]
      exact ih
    · rw [if_neg h]
      have ih := ai_first u ks b
      have hm := (ai_min u ks b).1 b (.head _)
      by_cases e : u b = u (ai u b ks)
      · rw [List.find?_cons_of_pos (by simpa using e)] at ih ⊢
        exact ih
      · rw [List.find?_cons_of_neg (by simpa using e)] at ih ⊢
        rw [List.find?_cons_of_neg (by intro z; have := of_decide_eq_true z; omega)]
        exact ih
theorem ai_pth (u : Nat → Int) : ∀ (ks : List Nat) (b : Nat), (b :: ks).Pairwise (· < ·) → minP [u b, (b : Int)] (ks.map fun k => [u k, (k : Int)]) = [u (ai u b ks), ((ai u b ks : Nat) : Int)]
  | [], b, _ => rfl
  | k :: ks, b, hp => by
    obtain ⟨p1, p2⟩ := List.pairwise_cons.mp hp
    obtain ⟨p3, p4⟩ := List.pairwise_cons.mp p2
    have hbk := p1 k (.head _)
    rw [List.map_cons]
    unfold minP ai
    have e : pLt [u k, (k : Int)] [u b, (b : Int)] = decide (u k < u b) := by
      unfold pLt
      by_cases e : u k = u b
      · rw [if_pos e]
        unfold pLt
        rw [if_neg (by omega)]
        rw [decide_eq_decide]
        omega
      · rw [if_neg e]
    rw [e]
    by_cases h : u k < u b
    · rw [if_pos (decide_eq_true h), if_pos h]
      exact ai_pth u ks k p2
    · rw [if_neg (by simpa using h), if_neg h]
      exact ai_pth u ks b (List.pairwise_cons.mpr ⟨fun y hy => p1 y (.tail _ hy), p4⟩)
/-! ### a better route -/
section
variable (rs : List (List Int)) (hs : List (List (List Nat))) (ch : List Nat)
def alt (i k : Nat) : Int := cs rs hs (ch.set i k) i
def altX (i : Nat) : Nat := ai (alt rs hs ch i) 0 ((List.range ((hs.getD i []).length - 1)).map (· + 1))
def btF (i : Nat) : Bool := decide (alt rs hs ch i (altX rs hs ch i) < cs rs hs ch i)
def btQ : Option (Nat × Nat) := ((List.range hs.length).find? (btF rs hs ch)).map fun i => (i, altX rs hs ch i)
end
def oD : Option (Nat × Nat) → D
  | none => .non
  | some p => .tup [.int (p.1 : Int), .int (p.2 : Int)]
theorem getD_set {i k j : Nat} (hi : i < ch.length) : (ch.set i k).getD j 0 = if j = i then k else ch.getD j 0 := by
  rw [List.getD_eq_getElem?_getD, List.getD_eq_getElem?_getD]
  by_cases e : i = j
  · subst e
    rw [List.getElem?_set_self hi, if_pos rfl]
    rfl
  · rw [List.getElem?_set_ne e, if_neg (Ne.symm e)]
theorem Chs.set (c : Chs hs ch) {i k : Nat} (hi : i < hs.length) (hk : k < (hs.getD i []).length) : Chs hs (ch.set i k) := by
  refine ⟨by rw [List.length_set]; exact c.len, fun j hj => ?_⟩
  rw [getD_set (by rw [c.len]; exact hi)]
  by_cases e : j = i
  · subst e; rw [if_pos rfl]; exact hk
  · rw [if_neg e]; exact c.lt j hj
theorem R_len (t : Tr rs hs) {i : Nat} (hi : i < hs.length) : 1 ≤ (hs.getD i []).length ∧ (hs.getD i []).length ≤ 3 := t.R1 _ (getD_mem hi)
theorem altX_lt (t : Tr rs hs) {i : Nat} (hi : i < hs.length) : altX rs hs ch i < (hs.getD i []).length := by
  have h1 := (R_len t hi).1
  have hm := ai_mem (alt rs hs ch i) ((List.range ((hs.getD i []).length - 1)).map (· + 1)) 0
  rw [← rng_cons' h1] at hm
  exact List.mem_range.mp hm
theorem enm_hs : enmL 0 (hs.map rtsD) = (List.range hs.length).map fun i => .tup [.int (i : Int), rtsD (hs.getD i [])] := by
  apply List.ext_getElem?
  intro i
  rw [List.getElem?_map]
  by_cases h : i < hs.length
  · rw [List.getElem?_range h, enmL_get _ 0 i _ (map_get (d := []) rtsD h), Nat.zero_add]
    rfl
  · rw [List.getElem?_eq_none (by rw [enmL_len, List.length_map]; omega), List.getElem?_eq_none (by rw [List.length_range]; omega)]
    rfl
theorem asc_rng (n : Nat) : (List.range n).Pairwise (· < ·) := List.pairwise_lt_range
theorem betin_s (k : Nat) (t : Tr rs hs) (c : Chs hs ch) : FrP (C (k + 3) 8 [.im (tD rs hs), .im (cD ch)]) fun s _ => s = .im (oD (btQ rs hs ch)) := by
  have h3 := t.h3
  have hcl := c.len
  refine frp_fn rfl rfl ?_
  unfold b8
  repeat' walk_at "vc"
  rw [enm_hs]
  refine for_rest (fun i : Nat => D.tup [.int (i : Int), rtsD (hs.getD i [])]) (fun l σ => ∃ (z2 z3 z4 : Sl), σ = [.im (tD rs hs), .im (cD ch), z2, z3, z4, .un, .un] ∧ (∀ i ∈ l, i < hs.length) ∧ (l.find? (btF rs hs ch)).map (fun i => (i, altX rs hs ch i)) = btQ rs hs ch) ?_ ?_ ⟨_, _, _, rfl, fun i h => List.mem_range.mp h, rfl⟩
  · rintro i l σ ⟨z2, z3, z4, rfl, hm, hf⟩
    have hi := hm i (.head _)
    obtain ⟨g1, g3⟩ := R_len t hi
    have hRl : ((hs.getD i []).map cD).length = (hs.getD i []).length := len0
    refine ⟨_, rfl, ?_⟩
    repeat' walk_at "vc"
    refine ⟨rngIn_of (by omega) (by omega), ?_⟩
    repeat' walk_at "vc"
    rw [hRl, rng_nD]
    refine comp_map nD (fun k => pth [alt rs hs ch i k, (k : Int)]) (List.range (hs.getD i []).length) (fun q hk => ⟨_, rfl, o_cst (tb_t ?_)⟩) ?_
    · have hk := List.mem_range.mp hk
      repeat' walk_at "vc"
      refine (with_s (k + 1) (by omega) (by omega)).imp fun s _ e => ?_
      subst e
      repeat' walk_at "vc"
      refine (cost_s k t (c.set hi hk) hi).imp fun s _ e => ?_
      subst e
      repeat' walk_at "vc"
      exact ⟨rfl, rfl⟩
    refine ⟨by rw [List.length_map, List.length_range]; exact sz_le (m := 1000) (by omega), ?_⟩
    have hup := asc_rng (hs.getD i []).length
    rw [rng_cons' g1] at hup
    have hmin : ∀ Q : Sl → Prop, Q (.im (pth [alt rs hs ch i (altX rs hs ch i), ((altX rs hs ch i : Nat) : Int)])) → isO (b1D .min (.lst ((List.range (hs.getD i []).length).map fun k => pth [alt rs hs ch i k, (k : Int)]))) Q := fun Q hq => by
      rw [rng_cons' g1]
      rw [show ((0 :: (List.range ((hs.getD i []).length - 1)).map (· + 1)).map fun k : Nat => pth [alt rs hs ch i k, (k : Int)]) = ([alt rs hs ch i 0, ((0 : Nat) : Int)] :: ((List.range ((hs.getD i []).length - 1)).map (· + 1)).map fun k : Nat => [alt rs hs ch i k, (k : Int)]).map pth from by simp only [List.map_cons, List.map_map]; rfl]
      refine isO_minP ?_
      rw [ai_pth _ _ _ hup]
      exact hq
    repeat' walk_at "vc"
    refine hmin _ ?_
    repeat' walk_at "vc"
    refine (cost_s k t c hi).imp fun s _ e => ?_
    subst e
    repeat' walk_at "vc"
    · rename_i hc
      refine hmin _ ?_
      repeat' walk_at "vc"
      rw [← hf, List.find?_cons_of_pos (show btF rs hs ch i = true from decide_eq_true hc)]
      rfl
    · rename_i hc
      exact ⟨_, _, _, rfl, fun y hy => hm y (.tail _ hy), by rw [← hf, List.find?_cons_of_neg (show ¬ btF rs hs ch i = true from fun z => hc (of_decide_eq_true z))]⟩
  · rintro σ ⟨z2, z3, z4, rfl, hm, hf⟩
    repeat' walk_at "vc"
    rw [← hf]
    rfl
theorem better_s (k : Nat) (t : Tr rs hs) (c : Chs hs ch) : FrP (C (k + 4) 9 [.im (tD rs hs), .im (cD ch)]) fun s _ => s = .im (oD (btQ rs hs ch)) := by
  refine frp_fn rfl rfl ?_
  unfold b9
  repeat' walk_at "vc"
  refine (check_ch_s (k + 1) t c).imp fun s _ e => ?_
  repeat' walk_at "vc"
  refine (betin_s k t c).imp fun s _ e => ?_
  exact e
/-- the first place of an int -/
theorem isO_inxI {f : Nat → Int} {m : Int} {b n : Nat} {Q : Sl → Prop} (hb : (List.range n).find? (fun x => decide (f x = m)) = some b) (h : Q (.im (.int (b : Int)))) : isO (inxD ((List.range n).map fun x => D.int (f x)) (.int m)) Q := by
  have key : ∀ (xs : List Nat) (o : Nat), xs.find? (fun x => decide (f x = m)) = some b → ∃ i, inxL (.int m) o (xs.map fun x => D.int (f x)) = some (o + i) ∧ xs[i]? = some b := by
    intro xs
    induction xs with
    | nil => exact fun n h => nomatch h
    | cons x xs ih =>
      intro o h
      rw [List.map_cons]
      unfold inxL
      rw [eqv_ii]
      by_cases hx : f x = m
      · rw [List.find?_cons_of_pos (by simpa using hx)] at h
        cases h
        rw [if_pos (decide_eq_true hx)]
        exact ⟨0, rfl, rfl⟩
      · rw [List.find?_cons_of_neg (by simpa using hx)] at h
        rw [if_neg (by simpa using hx)]
        obtain ⟨i, h1, h2⟩ := ih (o + 1) h
        exact ⟨i + 1, by rw [h1]; congr 1; omega, h2⟩
  obtain ⟨i, h1, h2⟩ := key _ 0 hb
  have hib : i = b := by
    obtain ⟨hl, e⟩ := List.getElem?_eq_some_iff.mp h2
    rw [List.getElem_range] at e
    exact e
  subst hib
  refine ⟨_, ?_, h⟩
  unfold inxD
  rw [h1, if_pos]
  · rw [Nat.zero_add]; rfl
  · refine ⟨?_, by rw [deep_int]; decide⟩
    rw [deep_lst]
    have := deepL_map (f := fun x => D.int (f x)) (xs := List.range n) (n := 1) fun x _ => by rw [deep_int]; decide
    omega
theorem set_self {i : Nat} (hi : i < ch.length) : ch.set i (ch.getD i 0) = ch := by
  apply List.ext_getElem?
  intro j
  by_cases e : i = j
  · subst e
    rw [List.getElem?_set_self hi, getD_some (d := 0) hi]
  · rw [List.getElem?_set_ne e]
theorem lbetter_s (k : Nat) (t : Tr rs hs) (c : Chs hs ch) : FrP (C (k + 2) 22 [.im (tD rs hs), .im (cD ch)]) fun s _ => s = .im (oD (btQ rs hs ch)) := by
  have h3 := t.h3
  have hcl := c.len
  have hlc : (ch.map nD).length = ch.length := len0
  refine frp_fn rfl rfl ?_
  unfold b22
  repeat' walk_at "vc"
  refine ⟨rngIn_of (by omega) (by omega), ?_⟩
  repeat' walk_at "vc"
  rw [hlc, hcl, rng_nD]
  refine for_rest nD (fun l σ => ∃ (z2 z3 : Sl), σ = [.im (tD rs hs), .im (cD ch), z2, z3, .un, .un] ∧ (∀ i ∈ l, i < hs.length) ∧ (l.find? (btF rs hs ch)).map (fun i => (i, altX rs hs ch i)) = btQ rs hs ch) ?_ ?_ ⟨_, _, rfl, fun i h => List.mem_range.mp h, rfl⟩
  · rintro i l σ ⟨z2, z3, rfl, hm, hf⟩
    have hi := hm i (.head _)
    obtain ⟨g1, g3⟩ := R_len t hi
    have hRl : ((hs.getD i []).map cD).length = (hs.getD i []).length := len0
    refine ⟨_, rfl, ?_⟩
    repeat' walk_at "vc"
    refine isD_nat (d := rtsD (hs.getD i [])) (map_get rtsD hi) ?_
    repeat' walk_at "vc"
    refine ⟨rngIn_of (by omega) (by omega), ?_⟩
    repeat' walk_at "vc"
    rw [hRl, rng_nD]
    refine comp_map nD (fun k => .int (alt rs hs ch i k)) (List.range (hs.getD i []).length) (fun q hk => ⟨_, rfl, o_cst (tb_t ?_)⟩) ?_
    · have hk := List.mem_range.mp hk
      repeat' walk_at "vc"
      refine (lwith_s k (by omega) (by omega)).imp fun s _ e => ?_
      subst e
      repeat' walk_at "vc"
      refine (lcosts_s k t (c.set hi hk)).imp fun s _ e => ?_
      subst e
      repeat' walk_at "vc"
      refine isD_nat (rng_get' _ hi) ?_
      exact ⟨rfl, rfl⟩
    refine ⟨by rw [List.length_map, List.length_range]; exact sz_le (m := 1000) (by omega), ?_⟩
    have hmin : ∀ Q : Sl → Prop, Q (.im (.int (alt rs hs ch i (altX rs hs ch i)))) → isO (b1D .min (.lst ((List.range (hs.getD i []).length).map fun k => D.int (alt rs hs ch i k)))) Q := fun Q hq => by
      rw [rng_cons' g1]
      rw [List.map_cons]
      refine isO_min (alt rs hs ch i 0) _ (alt rs hs ch i) ?_
      rw [(ai_min (alt rs hs ch i) _ 0).2]
      exact hq
    have hfi := ai_first (alt rs hs ch i) ((List.range ((hs.getD i []).length - 1)).map (· + 1)) 0
    rw [← rng_cons' g1] at hfi
    have hself : alt rs hs ch i (ch.getD i 0) = cs rs hs ch i := by unfold alt; rw [set_self (by omega)]
    repeat' walk_at "vc"
    refine hmin _ ?_
    repeat' walk_at "vc"
    refine isD_nat (d := nD (ch.getD i 0)) (map_get nD (by omega)) ?_
    repeat' walk_at "vc"
    refine isD_natL (rng_get' _ (c.lt i hi)) ?_
    rw [hself]
    repeat' walk_at "vc"
    · rename_i hc
      refine hmin _ ?_
      repeat' walk_at "vc"
      refine isO_inxI hfi ?_
      repeat' walk_at "vc"
      rw [← hf, List.find?_cons_of_pos (show btF rs hs ch i = true from decide_eq_true hc)]
      rfl
    · rename_i hc
      exact ⟨_, _, rfl, fun y hy => hm y (.tail _ hy), by rw [← hf, List.find?_cons_of_neg (show ¬ btF rs hs ch i = true from fun z => hc (of_decide_eq_true z))]⟩
  · rintro σ ⟨z2, z3, rfl, hm, hf⟩
    repeat' walk_at "vc"
    rw [← hf]
    rfl
end K64
namespace K64
open PySem Rf
variable {rs : List (List Int)} {hs : List (List (List Nat))} {ch : List Nat}
def sumN (n : Nat) (f : Nat → Int) : Int := ((List.range n).map f).sum
theorem sumN_succ (n : Nat) (f : Nat → Int) : sumN (n + 1) f = sumN n f + f n := by
  unfold sumN
  rw [List.range_succ, List.map_append, List.sum_append]
  simp
theorem sumN_congr : ∀ {n : Nat} {f g : Nat → Int}, (∀ k, k < n → f k = g k) → sumN n f = sumN n g
  | 0, _, _, _ => rfl
  | n + 1, f, g, h => by rw [sumN_succ, sumN_succ, sumN_congr fun k hk => h k (by omega), h n (by omega)]
theorem sumN_add : ∀ (n : Nat) (f g : Nat → Int), sumN n (fun k => f k + g k) = sumN n f + sumN n g
  | 0, _, _ => rfl
  | n + 1, f, g => by rw [sumN_succ, sumN_succ, sumN_succ, sumN_add n f g]; omega
theorem sum_filter (u : Nat → Int) (p : Nat → Bool) (l : List Nat) : ((l.filter p).map u).sum = (l.map fun k => if p k = true then u k else 0).sum := by
  induction l with
  | nil => rfl
  | cons a l ih =>
    rw [List.filter_cons, List.map_cons, List.sum_cons]
    by_cases h : p a = true
    · rw [if_pos h, if_pos h, List.map_cons, List.sum_cons, ih]
    · rw [if_neg h, if_neg h, ih]; omega
theorem filt_eq {m : Nat} {l : List Nat} (hp : l.Pairwise (· < ·)) (hm : ∀ j ∈ l, j < m) : (List.range m).filter (fun j => l.contains j) = l := by
  have p1 : ((List.range m).filter (fun j => l.contains j)).Pairwise (· < ·) := List.Pairwise.sublist List.filter_sublist List.pairwise_lt_range
  have n1 : ((List.range m).filter (fun j => l.contains j)).Nodup := p1.imp fun h => Nat.ne_of_lt h
  have n2 : l.Nodup := hp.imp fun h => Nat.ne_of_lt h
  have perm : ((List.range m).filter (fun j => l.contains j)).Perm l := by
    rw [List.perm_ext_iff_of_nodup n1 n2]
    intro j
    rw [List.mem_filter, List.mem_range]
    constructor
    · rintro ⟨_, h⟩
      simpa using h
    · intro h
      exact ⟨hm j h, by simpa using h⟩
  exact perm.eq_of_pairwise (fun a b _ _ h1 h2 => by omega) p1 hp
theorem sum_mem {m : Nat} {l : List Nat} (hp : l.Pairwise (· < ·)) (hm : ∀ j ∈ l, j < m) (f : Nat → Int) : (l.map f).sum = sumN m fun j => if l.contains j = true then f j else 0 := by
  conv => lhs; rw [← filt_eq hp hm]
  rw [sum_filter]
  rfl
/-! ### the height is a potential -/
def Lx (hs : List (List (List Nat))) (ch : List Nat) (i n j : Nat) : Nat := ((List.range n).filter fun k => !(k == i) && (rt hs ch k).contains j).length
theorem Lx_ld {i n j : Nat} : ldi hs ch n j = Lx hs ch i n j + (if i < n ∧ (rt hs ch i).contains j = true then 1 else 0) := by
  induction n with
  | zero => rfl
  | succ n ih =>
    rw [ldi_succ, ih]
    have e : Lx hs ch i (n + 1) j = Lx hs ch i n j + (if (!(n == i) && (rt hs ch n).contains j) = true then 1 else 0) := by
      unfold Lx
      rw [List.range_succ, List.filter_append, List.length_append, List.filter_cons, List.filter_nil]
      split <;> rfl
    rw [e]
    by_cases hi : n = i
    · subst hi
      have e0 : (!(n == n)) = false := by simp
      have f1 : (if n < n ∧ (rt hs ch n).contains j = true then 1 else 0) = 0 := if_neg fun z => absurd z.1 (Nat.lt_irrefl _)
      rw [e0, Bool.false_and, f1]
      by_cases h : (rt hs ch n).contains j = true
      · have f3 : (if n < n + 1 ∧ (rt hs ch n).contains j = true then 1 else 0) = 1 := if_pos ⟨by omega, h⟩
        rw [f3, if_pos h]
        rfl
      · have f3 : (if n < n + 1 ∧ (rt hs ch n).contains j = true then 1 else 0) = 0 := if_neg fun z => h z.2
        rw [f3, if_neg h]
        rfl
    · have e1 : (!(n == i)) = true := by simp [hi]
      rw [e1, Bool.true_and]
      have e2 : (if i < n ∧ (rt hs ch i).contains j = true then 1 else 0) = (if i < n + 1 ∧ (rt hs ch i).contains j = true then 1 else 0) := by
        by_cases h : i < n ∧ (rt hs ch i).contains j = true
        · rw [if_pos h, if_pos ⟨by omega, h.2⟩]
        · rw [if_neg h, if_neg fun z => h ⟨by omega, z.2⟩]
      omega
theorem rt_set {i x k : Nat} (hi : i < ch.length) (h : k ≠ i) : rt hs (ch.set i x) k = rt hs ch k := by
  unfold rt
  rw [getD_set hi, if_neg h]
theorem Lx_set {i x n j : Nat} (hi : i < ch.length) : Lx hs (ch.set i x) i n j = Lx hs ch i n j := by
  unfold Lx
  congr 1
  apply List.filter_congr
  intro k _
  by_cases h : k = i
  · subst h; simp
  · rw [rt_set hi h]
theorem take_sum (row : List Int) (L : Nat) : (row.take (L + 1)).sum = (row.take L).sum + row.getD L 0 := by
  rw [List.take_succ, List.sum_append, List.getD_eq_getElem?_getD]
  congr 1
  cases row[L]? with
  | none => rfl
  | some v => simp
theorem ht_split (t : Tr rs hs) (c : Chs hs ch) {i : Nat} (hi : i < hs.length) : ht rs hs ch = (sumN rs.length fun j => ((rs.getD j []).take (Lx hs ch i hs.length j)).sum) + cs rs hs ch i := by
  obtain ⟨u1, u2⟩ := rt_up t c hi
  unfold cs
  rw [sum_mem u1 u2, ← sumN_add]
  unfold ht
  show sumN rs.length _ = _
  refine sumN_congr fun j hj => ?_
  have e : ld hs ch j = Lx hs ch i hs.length j + (if i < hs.length ∧ (rt hs ch i).contains j = true then 1 else 0) := Lx_ld
  by_cases h : (rt hs ch i).contains j = true
  · rw [if_pos ⟨hi, h⟩] at e
    rw [if_pos h, e, take_sum]
    rfl
  · rw [if_neg fun z => h z.2] at e
    rw [if_neg h, e]
    simp
theorem ht_diff (t : Tr rs hs) (c : Chs hs ch) {i x : Nat} (hi : i < hs.length) (hx : x < (hs.getD i []).length) : ht rs hs (ch.set i x) - ht rs hs ch = cs rs hs (ch.set i x) i - cs rs hs ch i := by
  have hl : i < ch.length := by rw [c.len]; exact hi
  rw [ht_split t c hi, ht_split t (c.set hi hx) hi]
  have e : (sumN rs.length fun j => ((rs.getD j []).take (Lx hs (ch.set i x) i hs.length j)).sum) = sumN rs.length fun j => ((rs.getD j []).take (Lx hs ch i hs.length j)).sum := sumN_congr fun j _ => by rw [Lx_set hl]
  rw [e]
  omega
theorem sum_nn {l : List Int} (h : ∀ c ∈ l, 0 ≤ c ∧ c ≤ 8) : 0 ≤ l.sum ∧ l.sum ≤ 8 * (l.length : Int) := by
  induction l with
  | nil => simp
  | cons a l ih =>
    have := ih fun c hc => h c (.tail _ hc)
    have := h a (.head _)
    rw [List.sum_cons, List.length_cons]
    omega
theorem ht_bd (t : Tr rs hs) : 0 ≤ ht rs hs ch ∧ ht rs hs ch ≤ 24 * (rs.length : Int) := by
  have : ∀ l : List Nat, (∀ j ∈ l, j < rs.length) → 0 ≤ (l.map fun j => ((rs.getD j []).take (ld hs ch j)).sum).sum ∧ (l.map fun j => ((rs.getD j []).take (ld hs ch j)).sum).sum ≤ 24 * (l.length : Int) := by
    intro l
    induction l with
    | nil => intro _; simp
    | cons a l ih =>
      intro h
      obtain ⟨g1, g2⟩ := ih fun j hj => h j (.tail _ hj)
      have hm := getD_mem (d := []) (h a (.head _))
      have hr := t.rl _ hm
      obtain ⟨f1, f2⟩ := sum_nn (l := (rs.getD a []).take (ld hs ch a)) fun c hc => t.rn _ hm c (List.mem_of_mem_take hc)
      have := t.h3
      have hlen : ((rs.getD a []).take (ld hs ch a)).length ≤ 3 := by rw [List.length_take]; omega
      rw [List.map_cons, List.sum_cons, List.length_cons]
      omega
  have := this (List.range rs.length) fun j hj => List.mem_range.mp hj
  rw [List.length_range] at this
  exact this
/-- what a better route tells -/
theorem bt_some {i x : Nat} (t : Tr rs hs) (c : Chs hs ch) (h : btQ rs hs ch = some (i, x)) : i < hs.length ∧ x < (hs.getD i []).length ∧ ht rs hs (ch.set i x) < ht rs hs ch ∧ Chs hs (ch.set i x) := by
  unfold btQ at h
  obtain ⟨i', hf, e⟩ := Option.map_eq_some_iff.mp h
  cases e
  have hi := List.mem_range.mp (List.mem_of_find?_eq_some hf)
  have hb := List.find?_some hf
  have hx := altX_lt (rs := rs) (ch := ch) t hi
  have hd := ht_diff t c hi hx
  have hb : cs rs hs (ch.set i (altX rs hs ch i)) i < cs rs hs ch i := of_decide_eq_true hb
  exact ⟨hi, hx, by omega, c.set hi hx⟩
theorem rest_ex (t : Tr rs hs) : ∀ (m : Nat) (ch : List Nat), Chs hs ch → (ht rs hs ch).toNat ≤ m → ∃ ch', Chs hs ch' ∧ btQ rs hs ch' = none := by
  intro m
  induction m with
  | zero =>
    intro ch c hm
    cases e : btQ rs hs ch with
    | none => exact ⟨ch, c, e⟩
    | some p =>
      obtain ⟨i, x⟩ := p
      obtain ⟨_, _, h3, c'⟩ := bt_some t c e
      have := (ht_bd (ch := ch.set i x) t).1
      omega
  | succ m ih =>
    intro ch c hm
    cases e : btQ rs hs ch with
    | none => exact ⟨ch, c, e⟩
    | some p =>
      obtain ⟨i, x⟩ := p
      obtain ⟨_, _, h3, c'⟩ := bt_some t c e
      have := (ht_bd (ch := ch.set i x) t).1
      exact ih _ c' (by omega)
/-! ### all choices -/
def extC (n : Nat) (row : List Nat) : List (List Nat) := (List.range n).map fun j => row ++ [j]
def allF : List (List Nat) → List (List (List Nat)) → List (List Nat)
  | acc, [] => acc
  | acc, R :: Rs => allF (acc.flatMap (extC R.length)) Rs
def allC (hs : List (List (List Nat))) : List (List Nat) := allF [[]] hs
theorem ext_mem {n : Nat} {row d : List Nat} : d ∈ extC n row ↔ ∃ j, j < n ∧ d = row ++ [j] := by
  unfold extC
  rw [List.mem_map]
  constructor
  · rintro ⟨j, h, rfl⟩; exact ⟨j, List.mem_range.mp h, rfl⟩
  · rintro ⟨j, h, rfl⟩; exact ⟨j, List.mem_range.mpr h, rfl⟩
theorem allF_mem : ∀ {Rs : List (List (List Nat))} {acc : List (List Nat)} {d : List Nat}, d ∈ allF acc Rs ↔ ∃ row ∈ acc, ∃ tl : List Nat, d = row ++ tl ∧ tl.length = Rs.length ∧ ∀ k, k < Rs.length → tl.getD k 0 < (Rs.getD k []).length
  | [], acc, d => by
    show d ∈ acc ↔ _
    constructor
    · exact fun h => ⟨d, h, [], by simp, rfl, fun k hk => absurd hk (Nat.not_lt_zero _)⟩
    · rintro ⟨row, h, tl, rfl, hl, _⟩
      rw [List.length_eq_zero_iff.mp hl, List.append_nil]
      exact h
  | R :: Rs, acc, d => by
    show d ∈ allF (acc.flatMap (extC R.length)) Rs ↔ _
    rw [allF_mem]
    constructor
    · rintro ⟨row, h, tl, rfl, hl, ht⟩
      obtain ⟨r0, h0, hr⟩ := List.mem_flatMap.mp h
      obtain ⟨j, hj, rfl⟩ := ext_mem.mp hr
      refine ⟨r0, h0, j :: tl, by simp, by simp [hl], fun k hk => ?_⟩
      cases k with
      | zero => exact hj
      | succ k => exact ht k (by simpa using hk)
    · rintro ⟨row, h, tl, rfl, hl, ht⟩
      cases tl with
      | nil => simp at hl
      | cons j tl =>
        refine ⟨row ++ [j], List.mem_flatMap.mpr ⟨row, h, ext_mem.mpr ⟨j, ht 0 (by simp), rfl⟩⟩, tl, by simp, by simpa using hl, fun k hk => ht (k + 1) (by simpa using hk)⟩
theorem all_mem {d : List Nat} : d ∈ allC hs ↔ Chs hs d := by
  unfold allC
  rw [allF_mem]
  constructor
  · rintro ⟨row, h, tl, rfl, hl, ht⟩
    cases List.mem_singleton.mp h
    exact ⟨hl, ht⟩
  · rintro ⟨hl, ht⟩
    exact ⟨[], List.mem_singleton.mpr rfl, d, rfl, hl, ht⟩
/-- ints of a choice -/
def zs (d : List Nat) : Pth := d.map fun (x : Nat) => (x : Int)
theorem pLt_ext : ∀ {a b c d : Pth}, a.length = b.length → pLt a b = true → pLt (a ++ c) (b ++ d) = true
  | [], [], _, _, _, h => by simp [pLt] at h
  | [], _ :: _, _, _, h, _ => by simp at h
  | _ :: _, [], _, _, h, _ => by simp at h
  | x :: a, y :: b, c, d, hl, h => by
    show pLt (x :: (a ++ c)) (y :: (b ++ d)) = true
    unfold pLt at h ⊢
    by_cases e : x = y
    · rw [if_pos e] at h ⊢
      exact pLt_ext (by simpa using hl) h
    · rw [if_neg e] at h ⊢
      exact h
theorem zs_app (a b : List Nat) : zs (a ++ b) = zs a ++ zs b := by unfold zs; rw [List.map_append]
theorem ext_up (n : Nat) (row : List Nat) : (extC n row).Pairwise fun a b => pLt (zs a) (zs b) = true := by
  unfold extC
  rw [List.pairwise_map]
  refine List.pairwise_lt_range.imp fun {a b} h => ?_
  rw [zs_app, zs_app, pLt_app]
  show (if (a : Int) = (b : Int) then pLt [] [] else decide ((a : Int) < (b : Int))) = true
  rw [if_neg (by omega), decide_eq_true_iff]
  omega
theorem flat_up (n m : Nat) : ∀ {acc : List (List Nat)}, acc.Pairwise (fun a b => pLt (zs a) (zs b) = true) → (∀ r ∈ acc, r.length = m) → (acc.flatMap (extC n)).Pairwise fun a b => pLt (zs a) (zs b) = true
  | [], _, _ => List.Pairwise.nil
  | r :: acc, hp, hl => by
    obtain ⟨p1, p2⟩ := List.pairwise_cons.mp hp
    rw [List.flatMap_cons, List.pairwise_append]
    refine ⟨ext_up n r, flat_up n m p2 fun x hx => hl x (.tail _ hx), fun a ha b hb => ?_⟩
    obtain ⟨j, _, rfl⟩ := ext_mem.mp ha
    obtain ⟨r', hr', hb⟩ := List.mem_flatMap.mp hb
    obtain ⟨j', _, rfl⟩ := ext_mem.mp hb
    rw [zs_app, zs_app]
    refine pLt_ext ?_ (p1 r' hr')
    unfold zs
    rw [List.length_map, List.length_map, hl r (.head _), hl r' (.tail _ hr')]
theorem allF_up : ∀ {Rs : List (List (List Nat))} {acc : List (List Nat)} (m : Nat), acc.Pairwise (fun a b => pLt (zs a) (zs b) = true) → (∀ r ∈ acc, r.length = m) → (allF acc Rs).Pairwise fun a b => pLt (zs a) (zs b) = true
  | [], acc, _, hp, _ => hp
  | R :: Rs, acc, m, hp, hl => by
    refine allF_up (Rs := Rs) (m + 1) (flat_up R.length m hp hl) fun r hr => ?_
    obtain ⟨r0, h0, hr⟩ := List.mem_flatMap.mp hr
    obtain ⟨j, _, rfl⟩ := ext_mem.mp hr
    rw [List.length_append, hl r0 h0]
    rfl
theorem all_up : (allC hs).Pairwise fun a b => pLt (zs a) (zs b) = true := allF_up 0 (List.pairwise_singleton _ _) fun r hr => by rw [List.mem_singleton.mp hr]; rfl
end K64
namespace K64
open PySem Rf
local macro_rules | `(tactic| walk_at "vc") => `(tactic| first
  | (with_reducible refine' S_seq ?_)
  | ((with_reducible refine' o_lv_im ?e ?h); (case e => rfl))
  | (with_reducible refine' o_cst ?_)
  | ((with_reducible refine' wo_lv ?e ?h); (case e => rfl))
  | (with_reducible refine' wd_im ?_)
  | (with_reducible refine' wd_mu ?_)
  | ((with_reducible refine' o_var_im ?e ?h); (case e => rfl))
  | (with_reducible refine' o_bin ?_)
  | (with_reducible refine' o_cmp ?_)
  | (with_reducible refine' o_idx ?_)
  | ((with_reducible refine' o_lv_mu ?e ?h); (case e => rfl))
  | (with_reducible refine' o_cons ?_)
  | (with_reducible refine' o_nil ?_)
  | (with_reducible refine' mu_of ?_)
  | (with_reducible refine' nx_nx ?_)
  | (with_reducible refine' nx_rt ?_)
  | (with_reducible refine' nx_bk ?_)
  | (with_reducible refine' nx_ct ?_)
  | (with_reducible refine' tb_t ?_)
  | (with_reducible refine' tb_f ?_)
  | ((with_reducible refine' tb_yes ?e ?h); (case e => first | assumption | decide +kernel))
  | ((with_reducible refine' tb_no ?e ?h); (case e => first | assumption | decide +kernel))
  | ((with_reducible refine' tb_dec ?_ ?_) <;> intro hc <;> try (first | contradiction | (exfalso; omega)))
  | ((with_reducible refine' tb_ndec ?_ ?_) <;> intro hc <;> try (first | contradiction | (exfalso; omega)))
  | (with_reducible refine' S_asg ?_)
  | (with_reducible refine' S_cond ?_)
  | (with_reducible refine' S_ret ?_)
  | (with_reducible refine' S_skip ?_)
  | ((with_reducible refine' isA_of ?e ?h); (case e => rfl))
  | ((with_reducible refine' isB'_of ?e ?h); (case e => with_reducible assumption))
  | ((with_reducible refine' isB'_ne_dq0 ?_ ?_) <;> intro hc <;> try contradiction)
  | ((with_reducible refine' isB'_ne_dq ?_ ?_) <;> intro hc <;> try contradiction)
  | (with_reducible refine' isB'_eq_ni ?_)
  | (with_reducible refine' isB'_gt_pth ?_)
  | (with_reducible refine' isB'_eq_ii ?_)
  | (with_reducible refine' isB'_eq_bb ?_)
  | (with_reducible refine' isB'_ne_bb ?_)
  | (with_reducible refine' isB'_ne_ii ?_)
  | (with_reducible refine' isB'_eq_ss ?_)
  | (with_reducible refine' isB'_ne_ss ?_)
  | ((with_reducible refine' isO_mod ?e ?h); (case e => first | omega | assumption))
  | ((with_reducible refine' isO_fdv ?e ?h); (case e => first | decide | assumption))
  | ((with_reducible refine' isO_mul ?e ?h); (case e => first | decide | assumption))
  | ((with_reducible refine' isO_of ?e ?h); (case e => rfl))
  | ((with_reducible refine' hasMu_of ?e ?h); (case e => rfl))
  | (with_reducible refine' isInt_of ?_)
  | ((with_reducible refine' isN_of ?e ?h); (case e => rfl))
  | (with_reducible refine' isD_t0 ?_)
  | (with_reducible refine' isD_q0 ?_)
  | (with_reducible refine' isD_q1 ?_)
  | (with_reducible refine' isD_t1 ?_)
  | (with_reducible refine' isD_t2 ?_)
  | (with_reducible refine' isD_l0 ?_)
  | (with_reducible refine' isD_l1 ?_)
  | ((with_reducible refine' isD_of ?e ?h); (case e => rfl))
  | ((with_reducible refine' isB'_of (k := false) ?e ?h); (case e => decide +kernel))
  | ((with_reducible refine' isB'_of (k := true) ?e ?h); (case e => decide +kernel))
  | ((with_reducible refine' isB'_of ?e ?h); (case e => rfl))
  | (with_reducible refine' o_tup ?_)
  | (with_reducible refine' o_lst ?_)
  | ((with_reducible refine' sz_of ?e ?h); (case e => exact Nat.le_of_ble_eq_true rfl))
  | (with_reducible refine' o_b1 ?_)
  | (with_reducible refine' o_b2 ?_)
  | (with_reducible refine' o_an ?_)
  | (with_reducible refine' o_orr ?_)
  | (with_reducible refine' o_nt ?_)
  | ((with_reducible refine' o_isx_t ?e ?b ?h); (case e => rfl); (case b => rfl))
  | ((with_reducible refine' o_isx_f ?e ?b ?h); (case e => rfl); (case b => rfl))
  | (with_reducible refine' o_tr ?_)
  | (with_reducible refine' o_ite ?_)
  | (with_reducible refine' o_slc ?_)
  | (with_reducible refine' bd_non ?_)
  | (with_reducible refine' bd_int ?_)
  | ((with_reducible refine' o_var_mu ?e ?h); (case e => rfl))
  | (with_reducible refine' o_glo ?_)
  | ((with_reducible refine' S_rtv_im ?e ?h); (case e => rfl))
  | ((with_reducible refine' S_rtv_mu ?e ?h); (case e => rfl))
  | (with_reducible refine' S_rtn ?_)
  | (with_reducible refine' S_brk ?_)
  | (with_reducible refine' S_cnt ?_)
  | (with_reducible refine' S_exp ?_)
  | ((with_reducible refine' S_app ?e ?h); (case e => rfl))
  | ((with_reducible refine' S_aug ?e ?h); (case e => rfl))
  | (with_reducible refine' isI_of ?_)
  | (with_reducible refine' S_par ?_)
  | (with_reducible refine' S_six ?_)
  | (with_reducible refine' S_for ?_)
  | (with_reducible refine' S_whl ?_)
  | ((with_reducible refine' o_inx ?e ?h); (case e => rfl))
  | ((with_reducible refine' o_popat ?e ?h); (case e => rfl))
  | ((with_reducible refine' S_ext ?e ?h); (case e => rfl))
  | (with_reducible refine' o_rev ?_)
  | (with_reducible refine' o_enm ?_)
  | (with_reducible refine' o_rng1 ?_)
  | (with_reducible refine' o_rng2 ?_)
  | (with_reducible refine' o_comp ?_)
  | (with_reducible refine' o_call ?_)
  | ((with_reducible refine' o_cio ?e ?h); (case e => rfl))
  | (with_reducible refine' o_neg ?_)
  | (with_reducible refine' o_rep ?_)
  | (with_reducible refine' o_chn ?_)
  | (with_reducible refine' it_mu ?_)
  | (with_reducible refine' it_tp ?_)
  | (with_reducible refine' it_ls ?_)
  | ((with_reducible refine' wo_o ?e ?h); (case e => exact fun _ z => nomatch z)))

variable {rs : List (List Int)} {hs : List (List (List Nat))} {ch : List Nat}
/-! ### the first of the least, of choices -/
def aL (u : List Nat → Int) : List Nat → List (List Nat) → List Nat
  | b, [] => b
  | b, k :: ks => aL u (if u k < u b then k else b) ks
theorem aL_min (u : List Nat → Int) : ∀ (ks : List (List Nat)) (b : List Nat), (∀ k ∈ b :: ks, u (aL u b ks) ≤ u k) ∧ minI (u b) (ks.map u) = u (aL u b ks)
  | [], b => ⟨fun k hk => by rw [List.mem_singleton.mp hk]; exact Int.le_refl _, rfl⟩
  | k :: ks, b => by
    rw [List.map_cons]
    unfold aL minI
    by_cases h : u k < u b
    · rw [if_pos h, if_pos h]
      obtain ⟨h1, h2⟩ := aL_min u ks k
      refine ⟨fun j hj => ?_, h2⟩
      rcases List.mem_cons.mp hj with rfl | hj
      · have := h1 k (.head _); omega
      · exact h1 j hj
    · rw [if_neg h, if_neg h]
      obtain ⟨h1, h2⟩ := aL_min u ks b
      refine ⟨fun j hj => ?_, h2⟩
      rcases List.mem_cons.mp hj with rfl | hj
      · exact h1 j (.head _)
      · rcases List.mem_cons.mp hj with rfl | hj
        · have := h1 b (.head _); omega
        · exact h1 j (.tail _ hj)
theorem aL_first (u : List Nat → Int) : ∀ (ks : List (List Nat)) (b : List Nat), (b :: ks).find? (fun k => decide (u k = u (aL u b ks))) = some (aL u b ks)
  | [], b => by rw [List.find?_cons_of_pos (by simp [aL])]; rfl
  | k :: ks, b => by
    unfold aL
    by_cases h : u k < u b
    · rw [if_pos h]
      have ih := aL_first u ks k
      have hm := (aL_min u ks k).1 k (.head _)
      rw [List.find?_cons_of_neg (by intro z; have := of_decide_eq_true z; omega)]
      exact ih
    · rw [if_neg h]
      have ih := aL_first u ks b
      have hm := (aL_min u ks b).1 b (.head _)
      by_cases e : u b = u (aL u b ks)
      · rw [List.find?_cons_of_pos (by simpa using e)] at ih ⊢
        exact ih
      · rw [List.find?_cons_of_neg (by simpa using e)] at ih ⊢
        rw [List.find?_cons_of_neg (by intro z; have := of_decide_eq_true z; omega)]
        exact ih
def nd (u : List Nat → Int) (d : List Nat) : D := .tup [.int (u d), cD d]
theorem cD_pth (d : List Nat) : cD d = pth (zs d) := by unfold pth zs; rw [List.map_map]; rfl
theorem nd_py (u : List Nat → Int) (d : List Nat) : (nd u d).py = .tuple [.int (u d), .tuple ((zs d).map PyData.int)] := by
  unfold nd
  rw [cD_pth, D.py, D.pys, D.pys, pth_py]
  rfl
theorem lt_nd (u : List Nat → Int) (a b : List Nat) : (nd u a).lt (nd u b) = if u a = u b then pLt (zs a) (zs b) else decide (u a < u b) := by
  unfold D.lt
  rw [nd_py, nd_py, PySem.W.dataLt_tuple]
  have al : PySem.W.alike (.int (u a)) (.int (u b)) = true := rfl
  by_cases e : u a = u b
  · rw [if_pos e, PySem.W.dataLt_all_yes al (by rw [e]; simp [PyData.eqv])]
    have al2 : PySem.W.alike (.tuple ((zs a).map PyData.int)) (.tuple ((zs b).map PyData.int)) = true := by
      have := alike_pth (zs a) (zs b)
      rw [pth_py, pth_py] at this
      exact this
    have hl : PySem.W.dataLt (.tuple ((zs a).map PyData.int)) (.tuple ((zs b).map PyData.int)) = pLt (zs a) (zs b) := by
      rw [PySem.W.dataLt_tuple, toks_lt]
    cases q : PyData.eqv (.tuple ((zs a).map PyData.int)) (.tuple ((zs b).map PyData.int)) with
    | true =>
      rw [PySem.W.dataLt_all_yes al2 q]
      have e2 : pth (zs a) = pth (zs b) := by
        refine (eqv_pl (by unfold pth; exact pls_map fun x _ => rfl) (by unfold pth; exact pls_map fun x _ => rfl)).mp ?_
        show PyData.eqv (pth (zs a)).py (pth (zs b)).py = true
        rw [pth_py, pth_py]
        exact q
      rw [pth_inj e2, pLt_irr]
      rfl
    | false =>
      rw [PySem.W.dataLt_all_no al2 q, hl]
  · rw [if_neg e, PySem.W.dataLt_all_no al (by simp [PyData.eqv, e]), PySem.W.dataLt_int]
theorem minOk_nd (u : List Nat → Int) (xs : List (List Nat)) : minOk (xs.map (nd u)) = true := by
  unfold minOk alikeL
  simp only [Bool.and_eq_true, List.all_eq_true, List.mem_map, decide_eq_true_eq]
  refine ⟨⟨?_, ?_⟩, ?_⟩
  · rintro _ ⟨a, _, rfl⟩ _ ⟨b, _, rfl⟩
    rw [nd_py, nd_py]
    have := alike_pth (zs a) (zs b)
    rw [pth_py, pth_py] at this
    simp [PySem.W.alike, PySem.W.alikeAll] at this ⊢
    exact this
  · rintro _ ⟨a, _, rfl⟩
    unfold nd
    rw [deep_tup, cD_pth]
    show max 0 (max (pth (zs a)).deep 0) + 1 ≤ 200
    have := deep_pth (zs a)
    omega
  · rintro _ ⟨a, _, rfl⟩
    rfl
theorem minT_nd (u : List Nat → Int) : ∀ (xs : List (List Nat)) (b : List Nat), (b :: xs).Pairwise (fun a b => pLt (zs a) (zs b) = true) → minT (nd u b) (xs.map (nd u)) = nd u (aL u b xs)
  | [], _, _ => rfl
  | x :: xs, b, hp => by
    obtain ⟨p1, p2⟩ := List.pairwise_cons.mp hp
    obtain ⟨p3, p4⟩ := List.pairwise_cons.mp p2
    have hbx := p1 x (.head _)
    rw [List.map_cons]
    unfold minT aL
    have e : (nd u x).lt (nd u b) = decide (u x < u b) := by
      rw [lt_nd]
      by_cases e : u x = u b
      · rw [if_pos e, decide_eq_false (by omega)]
        cases q : pLt (zs x) (zs b) with
        | false => rfl
        | true =>
          exfalso
          have key : ∀ a b : Pth, pLt a b = true → pLt b a = true → False := by
            intro a
            induction a with
            | nil => intro b h1 h2; cases b <;> simp [pLt] at h1 h2
            | cons x a ih =>
              intro b h1 h2
              cases b with
              | nil => simp [pLt] at h1
              | cons y b =>
                unfold pLt at h1 h2
                by_cases e : x = y
                · subst e
                  rw [if_pos rfl] at h1 h2
                  exact ih b h1 h2
                · rw [if_neg e] at h1
                  rw [if_neg (Ne.symm e)] at h2
                  have h1 := of_decide_eq_true h1
                  have h2 := of_decide_eq_true h2
                  omega
          exact key _ _ hbx q
      · rw [if_neg e]
    rw [e]
    by_cases h : u x < u b
    · rw [if_pos (decide_eq_true h), if_pos h]
      exact minT_nd u xs x p2
    · rw [if_neg (by simpa using h), if_neg h]
      exact minT_nd u xs b (List.pairwise_cons.mpr ⟨fun y hy => p1 y (.tail _ hy), p4⟩)
theorem isO_minN {u : List Nat → Int} {b : List Nat} {xs : List (List Nat)} (hp : (b :: xs).Pairwise (fun a b => pLt (zs a) (zs b) = true)) {Q : Sl → Prop} (h : Q (.im (nd u (aL u b xs)))) : isO (b1D .min (.lst ((b :: xs).map (nd u)))) Q := by
  refine ⟨_, ?_, h⟩
  show (match allO D.i? ((b :: xs).map (nd u)) with
    | some (n :: ns) => some (Sl.im (.int (minI n ns)))
    | _ => minX ((b :: xs).map (nd u))) = _
  have e : allO D.i? ((b :: xs).map (nd u)) = none := by simp [allO, nd, D.i?]
  rw [e]
  show (if minOk ((b :: xs).map (nd u)) = true then some (Sl.im (minT (nd u b) (xs.map (nd u)))) else none) = _
  rw [if_pos (minOk_nd u _), minT_nd u _ _ hp]
/-! ### all choices, resting ones -/
theorem allF_len3 {Rs : List (List (List Nat))} (h3 : ∀ R ∈ Rs, R.length ≤ 3) : ∀ {acc : List (List Nat)}, (allF acc Rs).length ≤ acc.length * 3 ^ Rs.length := by
  induction Rs with
  | nil => intro acc; show acc.length ≤ acc.length * 1; omega
  | cons R Rs ih =>
    intro acc
    have h := ih (fun x hx => h3 x (.tail _ hx)) (acc := acc.flatMap (extC R.length))
    have hR := h3 R (.head _)
    have e : (acc.flatMap (extC R.length)).length ≤ acc.length * 3 := by
      clear h ih
      induction acc with
      | nil => simp
      | cons a acc ih =>
        rw [List.flatMap_cons, List.length_append, List.length_cons]
        have : (extC R.length a).length = R.length := by unfold extC; rw [List.length_map, List.length_range]
        omega
    show (allF (acc.flatMap (extC R.length)) Rs).length ≤ _
    rw [List.length_cons, Nat.pow_succ]
    calc (allF (acc.flatMap (extC R.length)) Rs).length ≤ (acc.flatMap (extC R.length)).length * 3 ^ Rs.length := h
      _ ≤ (acc.length * 3) * 3 ^ Rs.length := Nat.mul_le_mul_right _ e
      _ = acc.length * (3 ^ Rs.length * 3) := by rw [Nat.mul_assoc, Nat.mul_comm 3]
theorem all_len (t : Tr rs hs) : (allC hs).length ≤ 27 := by
  have := allF_len3 (Rs := hs) (fun R hR => (t.R1 R hR).2) (acc := [[]])
  have h3 : 3 ^ hs.length ≤ 3 ^ 3 := Nat.pow_le_pow_right (by decide) t.h3
  show (allF [[]] hs).length ≤ 27
  have e : ([[]] : List (List Nat)).length = 1 := rfl
  rw [e, Nat.one_mul] at this
  omega
theorem all_ne (t : Tr rs hs) : allC hs ≠ [] := fun z => by
  have : (List.replicate hs.length 0) ∈ allC hs := all_mem.mpr ⟨List.length_replicate, fun k hk => by
    have := (R_len t hk).1
    rw [List.getD_eq_getElem?_getD, List.getElem?_replicate, if_pos hk]
    show 0 < _
    omega⟩
  rw [z] at this
  cases this
/-- one more hand -/
theorem more_ok {cf : Nat → List Sl → FR} {n : Nat} {row : List Nat} (hr : row.length ≤ 1000) (hn : n ≤ 1000) : ((List.range n).map fun j => cD (row ++ [j])) = (extC n row).map cD := by
  unfold extC
  rw [List.map_map]
  rfl
theorem all_s (k : Nat) (t : Tr rs hs) : FrP (C (k + 1) 11 [.im (tD rs hs)]) fun s _ => LS s ((allC hs).map cD) := by
  have h3 := t.h3
  refine frp_fn rfl rfl ?_
  unfold b11
  repeat' walk_at "vc"
  refine for_rest rtsD (fun l σ => ∃ (s : Sl) (acc : List (List Nat)) (m : Nat) (z2 z3 z4 : Sl), σ = [.im (tD rs hs), s, z2, z3, z4, .un, .un] ∧ LS s (acc.map cD) ∧ allF acc l = allC hs ∧ (∀ R ∈ l, R.length ≤ 3) ∧ acc.length ≤ 3 ^ m ∧ (∀ r ∈ acc, r.length = m) ∧ m + l.length = hs.length) ?_ ?_ ⟨_, [[]], 0, _, _, _, rfl, .inl rfl, rfl, fun R hR => (t.R1 R hR).2, Nat.le_refl _, fun r hr => by rw [List.mem_singleton.mp hr]; rfl, by omega⟩
  · rintro R l σ ⟨s, acc, m, z2, z3, z4, rfl, hs', ha, hR3, hal, hrl, hm⟩
    rw [List.length_cons] at hm
    have hR := hR3 R (.head _)
    have hRl : (R.map cD).length = R.length := len0
    have h27 : 3 ^ m ≤ 27 := by
      calc 3 ^ m ≤ 3 ^ 3 := Nat.pow_le_pow_right (by decide) (by omega)
        _ = 27 := rfl
    refine ⟨_, rfl, ?_⟩
    repeat' walk_at "vc"
    refine o_var_LS rfl hs' ?_
    repeat' walk_at "vc"
    refine for_rest cD (fun l2 σ => ∃ (acc2 : List (List Nat)) (z4 : Sl), σ = [.im (tD rs hs), .im (.lst (acc.map cD)), .im (rtsD R), .mu (acc2.map cD), z4, .un, .un] ∧ (∀ r ∈ l2, r.length = m) ∧ acc2 ++ l2.flatMap (extC R.length) = acc.flatMap (extC R.length) ∧ acc2.length + 3 * l2.length ≤ 81) ?_ ?_ ⟨[], _, rfl, hrl, rfl, by show 0 + 3 * acc.length ≤ 81; omega⟩
    · rintro row l2 σ ⟨acc2, z4, rfl, hm2, ha2, hlen⟩
      rw [List.length_cons] at hlen
      have hrow := hm2 row (.head _)
      have hel : (extC R.length row).length = R.length := by unfold extC; rw [List.length_map, List.length_range]
      refine ⟨_, rfl, ?_⟩
      repeat' walk_at "vc"
      refine ⟨rngIn_of (by omega) (by omega), ?_⟩
      repeat' walk_at "vc"
      rw [hRl, rng_nD]
      refine comp_map nD (fun j => cD (row ++ [j])) (List.range R.length) (fun j hj => ⟨_, rfl, o_cst (tb_t ?_)⟩) ?_
      · repeat' walk_at "vc"
        refine isO_tup (by rw [List.length_map]; exact sz_le (m := 1000) (by show _ + 1 ≤ _; omega)) ?_
        exact ⟨by unfold cD; rw [List.map_append]; rfl, rfl⟩
      · rw [show ((List.range R.length).map fun j => cD (row ++ [j])) = (extC R.length row).map cD from by unfold extC; rw [List.map_map]; rfl]
        refine ⟨by rw [List.length_map]; exact sz_le (m := 1000) (by omega), ?_⟩
        repeat' walk_at "vc"
        refine ⟨by rw [List.length_map, List.length_map]; exact sz_le (m := 1000) (by omega), ?_⟩
        refine ⟨acc2 ++ extC R.length row, _, by rw [List.map_append]; rfl, fun y hy => hm2 y (.tail _ hy), by rw [List.append_assoc]; exact ha2, by rw [List.length_append]; omega⟩
    · rintro σ ⟨acc2, z4, rfl, hm2, ha2, hlen⟩
      have ha2 : acc2 ++ [] = acc.flatMap (extC R.length) := ha2
      rw [List.append_nil] at ha2
      subst ha2
      repeat' walk_at "vc"
      refine ⟨_, _, m + 1, _, _, _, rfl, .inr rfl, ha, fun y hy => hR3 y (.tail _ hy), ?_, fun r hr => ?_, by omega⟩
      · have e : ∀ acc : List (List Nat), (acc.flatMap (extC R.length)).length ≤ acc.length * 3 := by
          intro acc
          induction acc with
          | nil => simp
          | cons a acc ih =>
            rw [List.flatMap_cons, List.length_append, List.length_cons]
            have : (extC R.length a).length = R.length := by unfold extC; rw [List.length_map, List.length_range]
            omega
        have := e acc
        rw [Nat.pow_succ]
        omega
      · obtain ⟨r0, h0, hr⟩ := List.mem_flatMap.mp hr
        obtain ⟨j, _, rfl⟩ := ext_mem.mp hr
        rw [List.length_append, hrl r0 h0]
        rfl
  · rintro σ ⟨s, acc, m, z2, z3, z4, rfl, hs', ha, _⟩
    have ha : acc = allC hs := ha
    subst ha
    rcases hs' with rfl | rfl
    · repeat' walk_at "vc"
      exact .inl rfl
    · repeat' walk_at "vc"
      exact .inr rfl
def isR (rs : List (List Int)) (hs : List (List (List Nat))) (d : List Nat) : Bool := (btQ rs hs d).isNone
def rstL (rs : List (List Int)) (hs : List (List (List Nat))) : List (List Nat) := (allC hs).filter (isR rs hs)
theorem rst_len (t : Tr rs hs) : (rstL rs hs).length ≤ 27 := Nat.le_trans (List.length_filter_le _ _) (all_len t)
theorem rst_mem {d : List Nat} (h : d ∈ rstL rs hs) : Chs hs d := all_mem.mp (List.mem_filter.mp h).1
theorem resting_s (k : Nat) (t : Tr rs hs) : FrP (C (k + 4) 12 [.im (tD rs hs)]) fun s _ => s = .im (.tup ((rstL rs hs).map cD)) := by
  have hr := rst_len t
  refine frp_fn rfl rfl ?_
  unfold b12
  repeat' walk_at "vc"
  refine (check_s (k + 2) t).imp fun s _ e => ?_
  repeat' walk_at "vc"
  refine (all_s (k + 2) t).imp fun s _ hs' => ?_
  refine ls_it hs' ?_
  refine comp_mapF cD cD (isR rs hs) (allC hs) (fun d hd => ⟨_, rfl, ?_⟩) ?_
  · repeat' walk_at "vc"
    refine (betin_s k t (all_mem.mp hd)).imp fun s _ e => ?_
    subst e
    cases e : btQ rs hs d with
    | none =>
      repeat' walk_at "vc"
      refine ⟨by unfold isR; rw [e]; rfl, ?_⟩
      repeat' walk_at "vc"
      exact ⟨rfl, rfl⟩
    | some p =>
      repeat' walk_at "vc"
      exact ⟨by unfold isR; rw [e]; rfl, rfl⟩
  · refine ⟨by rw [List.length_map]; exact sz_le (m := 1000) (Nat.le_trans hr (by decide)), ?_⟩
    repeat' walk_at "vc"
    rfl
def wcQ (rs : List (List Int)) (hs : List (List (List Nat))) (d : List Nat) : Int := ((List.range hs.length).map fun i => cs rs hs d i).sum
theorem whole_s (k : Nat) (t : Tr rs hs) (c : Chs hs ch) : FrP (C (k + 3) 13 [.im (tD rs hs), .im (cD ch)]) fun s _ => s = .im (.int (wcQ rs hs ch)) := by
  have h3 := t.h3
  have hcl := c.len
  have hlc : (ch.map nD).length = ch.length := len0
  refine frp_fn rfl rfl ?_
  unfold b13
  repeat' walk_at "vc"
  refine ⟨rngIn_of (by omega) (by omega), ?_⟩
  repeat' walk_at "vc"
  rw [hlc, hcl, rng_nD]
  refine comp_map nD (fun i => .int (cs rs hs ch i)) (List.range hs.length) (fun i hi => ⟨_, rfl, o_cst (tb_t ?_)⟩) ?_
  · repeat' walk_at "vc"
    refine (cost_s k t c (List.mem_range.mp hi)).imp fun s _ e => ?_
    subst e
    exact ⟨rfl, rfl⟩
  · refine ⟨by rw [List.length_map, List.length_range]; exact sz_le (m := 1000) (by omega), ?_⟩
    repeat' walk_at "vc"
    refine isO_sum (List.range hs.length) (fun i => cs rs hs ch i) ?_
    rfl
theorem best_s (k : Nat) (t : Tr rs hs) {b : List Nat} {xs : List (List Nat)} (ea : allC hs = b :: xs) : FrP (C (k + 4) 14 [.im (tD rs hs)]) fun s _ => s = .im (.tup [cD (aL (wcQ rs hs) b xs), .int (wcQ rs hs (aL (wcQ rs hs) b xs))]) := by
  have hr := all_len t
  refine frp_fn rfl rfl ?_
  unfold b14
  repeat' walk_at "vc"
  refine (check_s (k + 2) t).imp fun s _ e => ?_
  repeat' walk_at "vc"
  refine (all_s (k + 2) t).imp fun s _ hs' => ?_
  refine ls_it hs' ?_
  refine comp_map cD (nd (wcQ rs hs)) (allC hs) (fun d hd => ⟨_, rfl, o_cst (tb_t ?_)⟩) ?_
  · repeat' walk_at "vc"
    refine (whole_s k t (all_mem.mp hd)).imp fun s _ e => ?_
    subst e
    repeat' walk_at "vc"
    exact ⟨rfl, rfl⟩
  · refine ⟨by rw [List.length_map]; exact sz_le (m := 1000) (Nat.le_trans hr (by decide)), ?_⟩
    have hup := all_up (hs := hs)
    rw [ea] at hup ⊢
    have hmin : ∀ Q : Sl → Prop, Q (.im (.tup [.int (wcQ rs hs (aL (wcQ rs hs) b xs)), cD (aL (wcQ rs hs) b xs)])) → isO (b1D .min (.lst ((b :: xs).map (nd (wcQ rs hs))))) Q := fun Q hq => isO_minN hup hq
    repeat' walk_at "vc"
    refine hmin _ ?_
    repeat' walk_at "vc"
    refine hmin _ ?_
    repeat' walk_at "vc"
    rfl
theorem worst_s (k : Nat) (t : Tr rs hs) {b : List Nat} {xs : List (List Nat)} (ea : rstL rs hs = b :: xs) : FrP (C (k + 5) 15 [.im (tD rs hs)]) fun s _ => s = .im (.tup [.int (maxI (wcQ rs hs b) (xs.map (wcQ rs hs))), .int (minI (wcQ rs hs b) (xs.map (wcQ rs hs)))]) := by
  have hr := rst_len t
  refine frp_fn rfl rfl ?_
  unfold b15
  repeat' walk_at "vc"
  refine (resting_s k t).imp fun s _ e => ?_
  subst e
  repeat' walk_at "vc"
  refine comp_map cD (fun d => .int (wcQ rs hs d)) (rstL rs hs) (fun d hd => ⟨_, rfl, o_cst (tb_t ?_)⟩) ?_
  · repeat' walk_at "vc"
    refine (whole_s (k + 1) t (rst_mem hd)).imp fun s _ e => ?_
    subst e
    exact ⟨rfl, rfl⟩
  · refine ⟨by rw [List.length_map]; exact sz_le (m := 1000) (Nat.le_trans hr (by decide)), ?_⟩
    rw [ea, List.map_cons]
    repeat' walk_at "vc"
    refine isO_max (wcQ rs hs b) xs (wcQ rs hs) ?_
    repeat' walk_at "vc"
    refine isO_min (wcQ rs hs b) xs (wcQ rs hs) ?_
    repeat' walk_at "vc"
    rfl
end K64
namespace K64
open PySem Rf
local macro_rules | `(tactic| walk_at "vc") => `(tactic| first
  | (with_reducible refine' S_seq ?_)
  | ((with_reducible refine' o_lv_im ?e ?h); (case e => rfl))
  | (with_reducible refine' o_cst ?_)
  | ((with_reducible refine' wo_lv ?e ?h); (case e => rfl))
  | (with_reducible refine' wd_im ?_)
  | (with_reducible refine' wd_mu ?_)
  | ((with_reducible refine' o_var_im ?e ?h); (case e => rfl))
  | (with_reducible refine' o_bin ?_)
  | (with_reducible refine' o_cmp ?_)
  | (with_reducible refine' o_idx ?_)
  | ((with_reducible refine' o_lv_mu ?e ?h); (case e => rfl))
  | (with_reducible refine' o_cons ?_)
  | (with_reducible refine' o_nil ?_)
  | (with_reducible refine' mu_of ?_)
  | (with_reducible refine' nx_nx ?_)
  | (with_reducible refine' nx_rt ?_)
  | (with_reducible refine' nx_bk ?_)
  | (with_reducible refine' nx_ct ?_)
  | (with_reducible refine' tb_t ?_)
  | (with_reducible refine' tb_f ?_)
  | ((with_reducible refine' tb_yes ?e ?h); (case e => first | assumption | decide +kernel))
  | ((with_reducible refine' tb_no ?e ?h); (case e => first | assumption | decide +kernel))
  | ((with_reducible refine' tb_dec ?_ ?_) <;> intro hc <;> try (first | contradiction | (exfalso; omega)))
  | ((with_reducible refine' tb_ndec ?_ ?_) <;> intro hc <;> try (first | contradiction | (exfalso; omega)))
  | (with_reducible refine' S_asg ?_)
  | (with_reducible refine' S_cond ?_)
  | (with_reducible refine' S_ret ?_)
  | (with_reducible refine' S_skip ?_)
  | ((with_reducible refine' isA_of ?e ?h); (case e => rfl))
  | ((with_reducible refine' isB'_of ?e ?h); (case e => with_reducible assumption))
  | ((with_reducible refine' isB'_ne_dq0 ?_ ?_) <;> intro hc <;> try contradiction)
  | ((with_reducible refine' isB'_ne_dq ?_ ?_) <;> intro hc <;> try contradiction)
  | (with_reducible refine' isB'_eq_ni ?_)
  | (with_reducible refine' isB'_gt_pth ?_)
  | (with_reducible refine' isB'_eq_ii ?_)
  | (with_reducible refine' isB'_eq_bb ?_)
  | (with_reducible refine' isB'_ne_bb ?_)
  | (with_reducible refine' isB'_ne_ii ?_)
  | (with_reducible refine' isB'_eq_ss ?_)
  | (with_reducible refine' isB'_ne_ss ?_)
  | ((with_reducible refine' isO_mod ?e ?h); (case e => first | omega | assumption))
  | ((with_reducible refine' isO_fdv ?e ?h); (case e => first | decide | assumption))
  | ((with_reducible refine' isO_mul ?e ?h); (case e => first | decide | assumption))
  | ((with_reducible refine' isO_of ?e ?h); (case e => rfl))
  | ((with_reducible refine' hasMu_of ?e ?h); (case e => rfl))
  | (with_reducible refine' isInt_of ?_)
  | ((with_reducible refine' isN_of ?e ?h); (case e => rfl))
  | (with_reducible refine' isD_t0 ?_)
  | (with_reducible refine' isD_q0 ?_)
  | (with_reducible refine' isD_q1 ?_)
  | (with_reducible refine' isD_t1 ?_)
  | (with_reducible refine' isD_t2 ?_)
  | (with_reducible refine' isD_l0 ?_)
  | (with_reducible refine' isD_l1 ?_)
  | ((with_reducible refine' isD_of ?e ?h); (case e => rfl))
  | ((with_reducible refine' isB'_of (k := false) ?e ?h); (case e => decide +kernel))
  | ((with_reducible refine' isB'_of (k := true) ?e ?h); (case e => decide +kernel))
  | ((with_reducible refine' isB'_of ?e ?h); (case e => rfl))
  | (with_reducible refine' o_tup ?_)
  | (with_reducible refine' o_lst ?_)
  | ((with_reducible refine' sz_of ?e ?h); (case e => exact Nat.le_of_ble_eq_true rfl))
  | (with_reducible refine' o_b1 ?_)
  | (with_reducible refine' o_b2 ?_)
  | (with_reducible refine' o_an ?_)
  | (with_reducible refine' o_orr ?_)
  | (with_reducible refine' o_nt ?_)
  | ((with_reducible refine' o_isx_t ?e ?b ?h); (case e => rfl); (case b => rfl))
  | ((with_reducible refine' o_isx_f ?e ?b ?h); (case e => rfl); (case b => rfl))
  | (with_reducible refine' o_tr ?_)
  | (with_reducible refine' o_ite ?_)
  | (with_reducible refine' o_slc ?_)
  | (with_reducible refine' bd_non ?_)
  | (with_reducible refine' bd_int ?_)
  | ((with_reducible refine' o_var_mu ?e ?h); (case e => rfl))
  | (with_reducible refine' o_glo ?_)
  | ((with_reducible refine' S_rtv_im ?e ?h); (case e => rfl))
  | ((with_reducible refine' S_rtv_mu ?e ?h); (case e => rfl))
  | (with_reducible refine' S_rtn ?_)
  | (with_reducible refine' S_brk ?_)
  | (with_reducible refine' S_cnt ?_)
  | (with_reducible refine' S_exp ?_)
  | ((with_reducible refine' S_app ?e ?h); (case e => rfl))
  | ((with_reducible refine' S_aug ?e ?h); (case e => rfl))
  | (with_reducible refine' isI_of ?_)
  | (with_reducible refine' S_par ?_)
  | (with_reducible refine' S_six ?_)
  | (with_reducible refine' S_for ?_)
  | (with_reducible refine' S_whl ?_)
  | ((with_reducible refine' o_inx ?e ?h); (case e => rfl))
  | ((with_reducible refine' o_popat ?e ?h); (case e => rfl))
  | ((with_reducible refine' S_ext ?e ?h); (case e => rfl))
  | (with_reducible refine' o_rev ?_)
  | (with_reducible refine' o_enm ?_)
  | (with_reducible refine' o_rng1 ?_)
  | (with_reducible refine' o_rng2 ?_)
  | (with_reducible refine' o_comp ?_)
  | (with_reducible refine' o_call ?_)
  | ((with_reducible refine' o_cio ?e ?h); (case e => rfl))
  | (with_reducible refine' o_neg ?_)
  | (with_reducible refine' o_rep ?_)
  | (with_reducible refine' o_chn ?_)
  | (with_reducible refine' it_mu ?_)
  | (with_reducible refine' it_tp ?_)
  | (with_reducible refine' it_ls ?_)
  | ((with_reducible refine' wo_o ?e ?h); (case e => exact fun _ z => nomatch z)))

variable {rs : List (List Int)} {hs : List (List (List Nat))} {ch : List Nat}
theorem wrong_k : C 60 23 [] = .ok (.im (.bl true)) .un := by kernel_rfl
def pD (p : Nat × Nat) : D := .tup [.int (p.1 : Int), .int (p.2 : Int)]
def setQ (rs : List (List Int)) (hs : List (List (List Nat))) : Nat → List Nat → List Nat × List (Nat × Nat)
  | 0, ch => (ch, [])
  | m + 1, ch => match btQ rs hs ch with
    | none => (ch, [])
    | some p => ((setQ rs hs m (ch.set p.1 p.2)).1, p :: (setQ rs hs m (ch.set p.1 p.2)).2)
theorem set_none {m : Nat} (h : btQ rs hs ch = none) : setQ rs hs (m + 1) ch = (ch, []) := by
  unfold setQ
  rw [h]
theorem set_some {m : Nat} {p : Nat × Nat} (h : btQ rs hs ch = some p) : setQ rs hs (m + 1) ch = ((setQ rs hs m (ch.set p.1 p.2)).1, p :: (setQ rs hs m (ch.set p.1 p.2)).2) := by
  conv => lhs; unfold setQ
  rw [h]
theorem ht_lt (t : Tr rs hs) (ch : List Nat) : (ht rs hs ch).toNat < 100 := by
  have := ht_bd (ch := ch) t
  have := t.m4
  omega
/-- settled choices are at rest -/
theorem set_rest (t : Tr rs hs) : ∀ (m : Nat) (ch : List Nat), Chs hs ch → (ht rs hs ch).toNat < m → (setQ rs hs m ch).1 ∈ rstL rs hs
  | 0, _, _, h => absurd h (Nat.not_lt_zero _)
  | m + 1, ch, c, h => by
    cases e : btQ rs hs ch with
    | none =>
      rw [set_none e]
      exact List.mem_filter.mpr ⟨all_mem.mpr c, by unfold isR; rw [e]; rfl⟩
    | some p =>
      rw [set_some e]
      obtain ⟨_, _, h3, c'⟩ := bt_some t c e
      have := (ht_bd (ch := ch.set p.1 p.2) t).1
      exact set_rest t m _ c' (by omega)
theorem settle_s (k : Nat) (t : Tr rs hs) (c : Chs hs ch) : FrP (C (k + 4) 10 [.im (tD rs hs), .im (cD ch)]) fun s _ => s = .im (.tup [cD (setQ rs hs 100 ch).1, .tup ((setQ rs hs 100 ch).2.map pD)]) := by
  have h3 := t.h3
  refine frp_fn rfl rfl ?_
  unfold b10
  repeat' walk_at "vc"
  refine (check_ch_s (k + 1) t c).imp fun s _ e => ?_
  repeat' walk_at "vc"
  refine (betin_s k t c).imp fun s _ e => ?_
  subst e
  repeat' walk_at "vc"
  refine whl_inv (fun m σ => ∃ (now : List Nat) (rows : List (Nat × Nat)), σ = [.im (tD rs hs), .im (cD ch), .mu (rows.map pD), .im (cD now), .im (oD (btQ rs hs now))] ∧ Chs hs now ∧ (ht rs hs now).toNat < m ∧ rows.length + m ≤ 100 ∧ (setQ rs hs m now).1 = (setQ rs hs 100 ch).1 ∧ rows ++ (setQ rs hs m now).2 = (setQ rs hs 100 ch).2) (m := 100) ⟨ch, [], rfl, c, ht_lt t ch, by decide, rfl, rfl⟩ ?_ (by decide)
  rintro m σ ⟨now, rows, rfl, cn, hm, hr, e1, e2⟩
  obtain ⟨m, rfl⟩ : ∃ j, m = j + 1 := ⟨m - 1, by omega⟩
  have hl : now.length ≤ 3 := by rw [cn.len]; exact h3
  cases e : btQ rs hs now with
  | none =>
    rw [set_none e] at e1 e2
    rw [show oD none = .non from rfl]
    repeat' walk_at "vc"
    rw [← e1, ← e2, List.append_nil]
    rfl
  | some p =>
    obtain ⟨i, x⟩ := p
    rw [set_some e] at e1 e2
    obtain ⟨g1, g2, g3, c'⟩ := bt_some t cn e
    have hb := (ht_bd (ch := now.set i x) t).1
    have hin : i < now.length := by rw [cn.len]; exact g1
    rw [show oD (some (i, x)) = .tup [.int (i : Int), .int (x : Int)] from rfl]
    repeat' walk_at "vc"
    rw [List.length_map]
    refine ⟨sz_lt (m := 1000) (by omega), ?_⟩
    repeat' walk_at "vc"
    refine (with_s (k + 2) hin (by omega)).imp fun s _ e => ?_
    subst e
    repeat' walk_at "vc"
    refine (betin_s k t c').imp fun s _ e => ?_
    subst e
    repeat' walk_at "vc"
    exact ⟨m, by omega, now.set i x, rows ++ [(i, x)], by rw [List.map_append]; rfl, c', by omega, by rw [List.length_append]; show rows.length + 1 + m ≤ 100; omega, e1, by rw [List.append_assoc]; exact e2⟩
theorem isD_lastL {x : D} {xs : List D} {Q : D → Prop} (h : Q x) : isD (idxD (.lst (xs ++ [x])) (.int (-1))) Q := isD_last (xs := xs) h
theorem deep_cD (l : List Nat) : (cD l).deep ≤ 1 := by rw [cD_pth]; exact deep_pth _
theorem deep_cDs (l : List (List Nat)) : (D.tup (l.map cD)).deep ≤ 200 := by
  rw [deep_tup]
  have := deepL_map (f := cD) (xs := l) (n := 1) fun x _ => deep_cD x
  omega
theorem deep_pDs (l : List (Nat × Nat)) : (D.tup (l.map pD)).deep ≤ 2 := by
  rw [deep_tup]
  have := deepL_map (f := pD) (xs := l) (n := 1) fun x _ => by
    show (D.tup [.int _, .int _]).deep ≤ 1
    rw [deep_tup]
    exact Nat.le_refl _
  omega
theorem deep_oD (o : Option (Nat × Nat)) : (oD o).deep ≤ 200 := by
  cases o with
  | none => exact Nat.zero_le _
  | some p =>
    show (D.tup [.int _, .int _]).deep ≤ 200
    rw [deep_tup]
    show max 0 (max 0 0) + 1 ≤ 200
    decide
theorem deep_is (n : Nat) (f : Nat → Int) : (D.tup ((List.range n).map fun i => D.int (f i))).deep ≤ 200 := by
  rw [deep_tup]
  have := deepL_map (f := fun i => D.int (f i)) (xs := List.range n) (n := 1) fun x _ => by rw [deep_int]; decide
  omega
theorem isB'_notin_c {d : List Nat} {l : List (List Nat)} (hm : d ∈ l) {Q : Bool → Prop} (h : Q false) : isB' (copD .notin (cD d) (.lst (l.map cD))) Q := by
  refine ⟨_, ?_, h⟩
  show (if (l.map cD).all (eqOk (cD d)) = true then some (!(l.map cD).any fun y => y.eqv (cD d)) else none) = some false
  have e1 : (l.map cD).all (eqOk (cD d)) = true := by
    rw [List.all_eq_true]
    intro y _
    exact eqOk_l (by have := deep_cD d; omega)
  have e2 : ((l.map cD).any fun y => y.eqv (cD d)) = true := by
    rw [List.any_eq_true]
    exact ⟨cD d, List.mem_map.mpr ⟨d, hm, rfl⟩, eqv_refl _⟩
  rw [if_pos e1, e2]
  rfl
/-- the first place of an int, in a list told by choices -/
theorem isO_inxC {f : List Nat → Int} {xs : List (List Nat)} {m : Int} {b : List Nat} {Q : Sl → Prop} (hl : xs.length ≤ 1000) (hb : xs.find? (fun x => decide (f x = m)) = some b) (h : ∀ i : Nat, xs[i]? = some b → Q (.im (.int (i : Int)))) : isO (inxD (xs.map fun x => D.int (f x)) (.int m)) Q := by
  have key : ∀ (xs : List (List Nat)) (o : Nat), xs.find? (fun x => decide (f x = m)) = some b → ∃ i, inxL (.int m) o (xs.map fun x => D.int (f x)) = some (o + i) ∧ xs[i]? = some b := by
    intro xs
    induction xs with
    | nil => exact fun n h => nomatch h
    | cons x xs ih =>
      intro o h
      rw [List.map_cons]
      unfold inxL
      rw [eqv_ii]
      by_cases hx : f x = m
      · rw [List.find?_cons_of_pos (by simpa using hx)] at h
        cases h
        rw [if_pos (decide_eq_true hx)]
        exact ⟨0, rfl, rfl⟩
      · rw [List.find?_cons_of_neg (by simpa using hx)] at h
        rw [if_neg (by simpa using hx)]
        obtain ⟨i, h1, h2⟩ := ih (o + 1) h
        exact ⟨i + 1, by rw [h1]; congr 1; omega, h2⟩
  obtain ⟨i, h1, h2⟩ := key _ 0 hb
  refine ⟨_, ?_, h i h2⟩
  unfold inxD
  rw [h1, if_pos]
  · rw [Nat.zero_add]; rfl
  · refine ⟨?_, by rw [deep_int]; decide⟩
    rw [deep_lst]
    have := deepL_map (f := fun x => D.int (f x)) (xs := xs) (n := 1) fun x _ => by rw [deep_int]; decide
    omega
def restB : IS :=
  (.seq (.asg (.nm 13) (.comp [20, 12] (.nm 12) (.var 8) (.cmp .isn (.call 22 (.cons (.var 7) (.cons (.var 12) .nil))) (.cst .non)) (.var 12)))
  (.seq (.cond (.orr (.cmp .ne (.call 12 (.cons (.var 7) .nil)) (.b1 .tuple (.lv 13))) (.cmp .eq (.b1 .len (.lv 13)) (.cst (.int 0)))) (.ret (.cst (.bl false))) .skip)
  (.seq (.asg (.nm 14) (.comp [20, 12] (.nm 12) (.var 8) (.cst (.bl true)) (.b1 .sum (.call 19 (.cons (.var 7) (.cons (.var 12) .nil))))))
  (.seq (.cond (.cmp .ne (.call 14 (.cons (.var 7) .nil)) (.tup (.cons (.idx (.lv 8) (.inx 14 (.b1 .min (.lv 14)))) (.cons (.b1 .min (.lv 14)) .nil)))) (.ret (.cst (.bl false))) .skip)
  (.seq (.asg (.nm 15) (.comp [20, 12] (.nm 12) (.var 13) (.cst (.bl true)) (.b1 .sum (.call 19 (.cons (.var 7) (.cons (.var 12) .nil))))))
  (.seq (.cond (.cmp .ne (.call 15 (.cons (.var 7) .nil)) (.tup (.cons (.b1 .max (.lv 15)) (.cons (.b1 .min (.lv 15)) .nil)))) (.ret (.cst (.bl false))) .skip)
  (.seq (.fr (.nm 4) (.rng1 (.cst (.int 4))) (.seq (.asg (.nm 12) (.idx (.lv 8) (.cio 17 1 (.cons (.b1 .len (.lv 8)) .nil))))
  (.seq (.cond (.orr (.cmp .ne (.call 4 (.cons (.var 7) (.cons (.var 12) .nil))) (.call 19 (.cons (.var 7) (.cons (.var 12) .nil)))) (.orr (.cmp .ne (.call 6 (.cons (.var 7) (.cons (.var 12) .nil))) (.call 20 (.cons (.var 7) (.cons (.var 12) .nil)))) (.cmp .ne (.call 9 (.cons (.var 7) (.cons (.var 12) .nil))) (.call 22 (.cons (.var 7) (.cons (.var 12) .nil)))))) (.ret (.cst (.bl false))) .skip)
  (.seq (.asg (.nm 16) (.cio 17 1 (.cons (.var 2) .nil)))
  (.seq (.asg (.nm 17) (.call 21 (.cons (.var 12) (.cons (.var 16) (.cons (.cio 17 1 (.cons (.b1 .len (.idx (.lv 6) (.lv 16))) .nil)) .nil)))))
  (.seq (.cond (.cmp .ne (.bin .sub (.call 20 (.cons (.var 7) (.cons (.var 17) .nil))) (.call 20 (.cons (.var 7) (.cons (.var 12) .nil)))) (.bin .sub (.idx (.call 19 (.cons (.var 7) (.cons (.var 17) .nil))) (.lv 16)) (.idx (.call 19 (.cons (.var 7) (.cons (.var 12) .nil))) (.lv 16)))) (.ret (.cst (.bl false))) .skip)
  (.seq (.asg (.nm 18) (.var 12))
  (.seq (.asg (.nm 19) (.lst .nil))
  (.seq (.whl (.cmp .isnn (.call 22 (.cons (.var 7) (.cons (.var 18) .nil))) (.cst .non)) (.seq (.app 19 (.call 22 (.cons (.var 7) (.cons (.var 18) .nil))))
  (.asg (.nm 18) (.call 21 (.cons (.var 18) (.cons (.idx (.idx (.lv 19) (.neg (.cst (.int 1)))) (.cst (.int 0))) (.cons (.idx (.idx (.lv 19) (.neg (.cst (.int 1)))) (.cst (.int 1))) .nil)))))))
  (.cond (.orr (.cmp .ne (.call 10 (.cons (.var 7) (.cons (.var 12) .nil))) (.tup (.cons (.var 18) (.cons (.b1 .tuple (.lv 19)) .nil)))) (.cmp .notin (.lv 18) (.lv 13))) (.ret (.cst (.bl false))) .skip))))))))))
  (.ret (.call 23 .nil)))))))))
theorem b24_eq : b24 = (.seq (.asg (.nm 1) (.call 16 (.cons (.var 0) .nil)))
  (.seq (.asg (.nm 2) (.bin .add (.cst (.int 1)) (.cio 17 1 (.cons (.cst (.int 3)) .nil))))
  (.seq (.asg (.nm 3) (.bin .add (.cst (.int 1)) (.cio 17 1 (.cons (.cst (.int 4)) .nil))))
  (.seq (.asg (.nm 5) (.b1 .tuple (.comp [20, 21] (.nm 21) (.rng1 (.var 3)) (.cst (.bl true)) (.b1 .tuple (.comp [20, 4] (.nm 4) (.rng1 (.var 2)) (.cst (.bl true)) (.cio 17 1 (.cons (.cst (.int 9)) .nil)))))))
  (.seq (.asg (.nm 6) (.b1 .tuple (.comp [20, 4] (.nm 4) (.rng1 (.var 2)) (.cst (.bl true)) (.b1 .tuple (.comp [20, 21] (.nm 21) (.rng1 (.bin .add (.cst (.int 1)) (.cio 17 1 (.cons (.cst (.int 3)) .nil)))) (.cst (.bl true)) (.b1 .tuple (.comp [20, 22] (.nm 22) (.rng1 (.var 3)) (.cmp .eq (.cio 17 1 (.cons (.cst (.int 2)) .nil)) (.cst (.int 0))) (.var 22))))))))
  (.seq (.asg (.nm 7) (.tup (.cons (.var 5) (.cons (.var 6) .nil))))
  (.seq (.asg (.nm 8) (.lst (.cons (.tup .nil) .nil)))
  (.seq (.fr (.nm 9) (.var 6) (.seq (.asg (.nm 10) (.lst .nil))
  (.seq (.fr (.nm 11) (.var 8) (.asg (.nm 10) (.bin .add (.lv 10) (.comp [20, 23] (.nm 23) (.rng1 (.b1 .len (.lv 9))) (.cst (.bl true)) (.bin .add (.lv 11) (.tup (.cons (.var 23) .nil)))))))
  (.asg (.nm 8) (.var 10)))))
  restB)))))))) := rfl
theorem sumTc {n : Nat} {f : Nat → Int} {Q : Sl → Prop} (h : Q (.im (.int ((List.range n).map f).sum))) : isO (b1D .sum (.tup ((List.range n).map fun i => D.int (f i)))) Q := by
  rw [show ((List.range n).map fun i => D.int (f i)) = ((List.range n).map f).map D.int from by rw [List.map_map]; rfl]
  exact isO_sumT h
theorem tail_s {cs : List D} {ns : List Int} {s8 z4 z9 z10 z11 : Sl} (t : Tr rs hs) (h8 : LS s8 ((allC hs).map cD)) (hc : DS cs) :
    OkP (evS FU (sbOf sbt) (callK FU (sbOf sbt) prog 60) restB [.im (.lst (ns.map D.int)), .mu cs, .im (nD hs.length), .im (nD rs.length), z4, .im (tabD rs), .im (hD hs), .im (tD rs hs), s8, z9, z10, z11, .un, .un, .un, .un, .un, .un, .un, .un, .un, .un, .un, .un]) (endP false fun s _ => s = .im (.bl true)) := by
  have h1 := t.h1
  have h3 := t.h3
  have m4 := t.m4
  have hal := all_len t
  have hrl := rst_len t
  have hane := all_ne t
  obtain ⟨bA, xA, eA⟩ : ∃ b xs, allC hs = b :: xs := by
    cases e : allC hs with
    | nil => exact absurd e hane
    | cons b xs => exact ⟨b, xs, rfl⟩
  have hrne : rstL rs hs ≠ [] := fun z => by
    have hb : bA ∈ allC hs := by rw [eA]; exact .head _
    obtain ⟨d, c, e⟩ := rest_ex t _ bA (all_mem.mp hb) (Nat.le_refl _)
    have : d ∈ rstL rs hs := List.mem_filter.mpr ⟨all_mem.mpr c, by unfold isR; rw [e]; rfl⟩
    rw [z] at this
    cases this
  obtain ⟨bR, xR, eR⟩ : ∃ b xs, rstL rs hs = b :: xs := by
    cases e : rstL rs hs with
    | nil => exact absurd e hrne
    | cons b xs => exact ⟨b, xs, rfl⟩
  unfold restB
  repeat' walk_at "vc"
  refine o_var_LS rfl h8 ?_
  repeat' walk_at "vc"
  refine comp_mapF cD cD (isR rs hs) (allC hs) (fun d hd => ⟨_, rfl, ?_⟩) ?_
  · repeat' walk_at "vc"
    refine (lbetter_s 58 t (all_mem.mp hd)).imp fun s _ e => ?_
    subst e
    cases e : btQ rs hs d with
    | none =>
      repeat' walk_at "vc"
      refine ⟨by unfold isR; rw [e]; rfl, ?_⟩
      repeat' walk_at "vc"
      exact ⟨rfl, rfl⟩
    | some p =>
      repeat' walk_at "vc"
      exact ⟨by unfold isR; rw [e]; rfl, rfl⟩
  refine ⟨by rw [List.length_map]; exact sz_le (m := 1000) (Nat.le_trans hrl (by decide)), ?_⟩
  rw [show (allC hs).filter (isR rs hs) = rstL rs hs from rfl]
  have hrp : (0 : Int) < (((rstL rs hs).map cD).length : Int) := by rw [List.length_map, eR, List.length_cons]; omega
  repeat' walk_at "vc"
  refine (resting_s 56 t).imp fun s _ e => ?_
  subst e
  repeat' walk_at "vc"
  refine isB'_ne_self (deep_cDs _) ?_
  repeat' walk_at "vc"
  refine comp_map cD (fun d => .int (wcQ rs hs d)) (allC hs) (fun d hd => ⟨_, rfl, o_cst (tb_t ?_)⟩) ?_
  · repeat' walk_at "vc"
    refine (lcosts_s 59 t (all_mem.mp hd)).imp fun s _ e => ?_
    subst e
    repeat' walk_at "vc"
    refine sumTc ?_
    exact ⟨rfl, rfl⟩
  refine ⟨by rw [List.length_map]; exact sz_le (m := 1000) (by omega), ?_⟩
  have hmin : ∀ Q : Sl → Prop, Q (.im (.int (wcQ rs hs (aL (wcQ rs hs) bA xA)))) → isO (b1D .min (.lst ((allC hs).map fun d => D.int (wcQ rs hs d)))) Q := fun Q hq => by
    rw [eA, List.map_cons]
    refine isO_min (wcQ rs hs bA) xA (wcQ rs hs) ?_
    rw [(aL_min _ xA bA).2]
    exact hq
  have hfi := aL_first (wcQ rs hs) xA bA
  rw [← eA] at hfi
  repeat' walk_at "vc"
  refine (best_s 56 t eA).imp fun s _ e => ?_
  subst e
  repeat' walk_at "vc"
  refine hmin _ ?_
  repeat' walk_at "vc"
  refine isO_inxC (by omega) hfi fun i hi => ?_
  repeat' walk_at "vc"
  refine isD_natL (d := cD (aL (wcQ rs hs) bA xA)) (by rw [List.getElem?_map, hi]; rfl) ?_
  repeat' walk_at "vc"
  refine hmin _ ?_
  repeat' walk_at "vc"
  refine isB'_ne_self (by
    rw [deep_tup]
    show max (cD _).deep (max 0 0) + 1 ≤ 200
    have := deep_cD (aL (wcQ rs hs) bA xA)
    omega) ?_
  repeat' walk_at "vc"
  refine comp_map cD (fun d => .int (wcQ rs hs d)) (rstL rs hs) (fun d hd => ⟨_, rfl, o_cst (tb_t ?_)⟩) ?_
  · repeat' walk_at "vc"
    refine (lcosts_s 59 t (rst_mem hd)).imp fun s _ e => ?_
    subst e
    repeat' walk_at "vc"
    refine sumTc ?_
    exact ⟨rfl, rfl⟩
  refine ⟨by rw [List.length_map]; exact sz_le (m := 1000) (by omega), ?_⟩
  have rmax : ∀ Q : Sl → Prop, Q (.im (.int (maxI (wcQ rs hs bR) (xR.map (wcQ rs hs))))) → isO (b1D .max (.lst ((rstL rs hs).map fun d => D.int (wcQ rs hs d)))) Q := fun Q hq => by
    rw [eR, List.map_cons]
    exact isO_max (wcQ rs hs bR) xR (wcQ rs hs) hq
  have rmin : ∀ Q : Sl → Prop, Q (.im (.int (minI (wcQ rs hs bR) (xR.map (wcQ rs hs))))) → isO (b1D .min (.lst ((rstL rs hs).map fun d => D.int (wcQ rs hs d)))) Q := fun Q hq => by
    rw [eR, List.map_cons]
    exact isO_min (wcQ rs hs bR) xR (wcQ rs hs) hq
  repeat' walk_at "vc"
  refine (worst_s 55 t eR).imp fun s _ e => ?_
  subst e
  repeat' walk_at "vc"
  refine rmax _ ?_
  repeat' walk_at "vc"
  refine rmin _ ?_
  repeat' walk_at "vc"
  rw [eqv_refl, Bool.not_true]
  repeat' walk_at "vc"
  refine ⟨rngIn_of (by decide) (by decide), ?_⟩
  repeat' walk_at "vc"
  refine for_inv (fun i σ => ∃ (cs : List D) (z4 z12 z16 z17 z18 z19 : Sl), σ = [.im (.lst (ns.map D.int)), .mu cs, .im (nD hs.length), .im (nD rs.length), z4, .im (tabD rs), .im (hD hs), .im (tD rs hs), .im (.lst ((allC hs).map cD)), z9, z10, z11, z12, .im (.lst ((rstL rs hs).map cD)), .mu ((allC hs).map fun d => .int (wcQ rs hs d)), .mu ((rstL rs hs).map fun d => .int (wcQ rs hs d)), z16, z17, z18, z19, .un, .un, .un, .un] ∧ DS cs) ⟨cs, _, _, _, _, _, _, rfl, hc⟩ ?_ ?_
  · rintro i d σ hi ⟨cs, z4, z12, z16, z17, z18, z19, rfl, hc⟩
    obtain ⟨rfl, hi⟩ := rng_get hi
    have hdm : ((allC hs).map cD).length = (allC hs).length := len0
    have hd0 : 0 < (allC hs).length := by rw [eA, List.length_cons]; omega
    refine ⟨_, rfl, ?_⟩
    repeat' walk_at "vc"
    refine (take_s 59).go hc (by omega) (by omega) fun m cs m1 m2 hc => ?_
    obtain ⟨j, hj⟩ : ∃ j : Nat, m = (j : Int) := ⟨m.toNat, by omega⟩
    subst hj
    have hjl : j < (allC hs).length := by omega
    obtain ⟨one, ho⟩ : ∃ one, (allC hs)[j]? = some one := ⟨_, List.getElem?_eq_getElem hjl⟩
    have c := all_mem.mp (List.mem_of_getElem? ho)
    have hcl := c.len
    repeat' walk_at "vc"
    refine isD_natL (d := cD one) (by rw [List.getElem?_map, ho]; rfl) ?_
    repeat' walk_at "vc"
    refine (costs_s 57 t c).imp fun s _ e => ?_
    subst e
    repeat' walk_at "vc"
    refine (lcosts_s 59 t c).imp fun s _ e => ?_
    subst e
    repeat' walk_at "vc"
    refine isB'_ne_self (deep_is _ _) ?_
    repeat' walk_at "vc"
    refine (height_c 57 t c).imp fun s _ e => ?_
    subst e
    repeat' walk_at "vc"
    refine (lheight_s 59 t c).imp fun s _ e => ?_
    subst e
    repeat' walk_at "vc"
    refine (better_s 56 t c).imp fun s _ e => ?_
    subst e
    repeat' walk_at "vc"
    refine (lbetter_s 58 t c).imp fun s _ e => ?_
    subst e
    repeat' walk_at "vc"
    refine isB'_ne_self (deep_oD _) ?_
    repeat' walk_at "vc"
    refine (take_s 59).go hc (by omega) (by omega) fun ha0 cs b1 b2 hc => ?_
    obtain ⟨ha, hha⟩ : ∃ m : Nat, ha0 = (m : Int) := ⟨ha0.toNat, by omega⟩
    subst hha
    have hai : ha < hs.length := by omega
    obtain ⟨g1, g3⟩ := R_len t hai
    have hRl : ((hs.getD ha []).map cD).length = (hs.getD ha []).length := len0
    repeat' walk_at "vc"
    refine isD_nat (d := rtsD (hs.getD ha [])) (map_get rtsD hai) ?_
    repeat' walk_at "vc"
    refine (take_s 59).go hc (by omega) (by omega) fun nu0 cs d1 d2 hc => ?_
    obtain ⟨nu, hnu⟩ : ∃ m : Nat, nu0 = (m : Int) := ⟨nu0.toNat, by omega⟩
    subst hnu
    have hnl : nu < (hs.getD ha []).length := by omega
    have c2 := c.set hai hnl
    have hdiff := ht_diff t c hai hnl
    repeat' walk_at "vc"
    refine (lwith_s 59 (by omega) (by omega)).imp fun s _ e => ?_
    subst e
    repeat' walk_at "vc"
    refine (lheight_s 59 t c2).imp fun s _ e => ?_
    subst e
    repeat' walk_at "vc"
    refine (lheight_s 59 t c).imp fun s _ e => ?_
    subst e
    repeat' walk_at "vc"
    refine (lcosts_s 59 t c2).imp fun s _ e => ?_
    subst e
    repeat' walk_at "vc"
    refine isD_nat (rng_get' _ hai) ?_
    repeat' walk_at "vc"
    refine (lcosts_s 59 t c).imp fun s _ e => ?_
    subst e
    repeat' walk_at "vc"
    refine isD_nat (rng_get' _ hai) ?_
    repeat' walk_at "vc"
    refine whl_inv (fun m σ => ∃ (now : List Nat) (rows : List (Nat × Nat)), σ = [.im (.lst (ns.map D.int)), .mu cs, .im (nD hs.length), .im (nD rs.length), .im (.int (0 + (i : Int))), .im (tabD rs), .im (hD hs), .im (tD rs hs), .im (.lst ((allC hs).map cD)), z9, z10, z11, .im (cD one), .im (.lst ((rstL rs hs).map cD)), .mu ((allC hs).map fun d => .int (wcQ rs hs d)), .mu ((rstL rs hs).map fun d => .int (wcQ rs hs d)), .im (nD ha), .im (cD (one.set ha nu)), .im (cD now), .mu (rows.map pD), .un, .un, .un, .un] ∧ Chs hs now ∧ (ht rs hs now).toNat < m ∧ rows.length + m ≤ 100 ∧ (setQ rs hs m now).1 = (setQ rs hs 100 one).1 ∧ rows ++ (setQ rs hs m now).2 = (setQ rs hs 100 one).2) (m := 100) ⟨one, [], rfl, c, ht_lt t one, by decide, rfl, rfl⟩ ?_ (by decide)
    rintro m σ ⟨now, rows, rfl, cn, hm, hr, e1, e2⟩
    obtain ⟨m, rfl⟩ : ∃ j, m = j + 1 := ⟨m - 1, by omega⟩
    have hl : now.length ≤ 3 := by rw [cn.len]; exact h3
    repeat' walk_at "vc"
    refine (lbetter_s 58 t cn).imp fun s _ e => ?_
    subst e
    cases e : btQ rs hs now with
    | none =>
      have hin := set_rest t (m + 1) now cn hm
      rw [set_none e] at e1 e2 hin
      rw [List.append_nil] at e2
      rw [show oD none = .non from rfl]
      repeat' walk_at "vc"
      refine (settle_s 56 t c).imp fun s _ e => ?_
      rw [← e1, ← e2] at e
      subst e
      repeat' walk_at "vc"
      refine isB'_ne_self ?_ ?_
      · rw [deep_tup]
        show max (cD now).deep (max (D.tup (rows.map pD)).deep 0) + 1 ≤ 200
        have := deep_cD now
        have := deep_pDs rows
        omega
      repeat' walk_at "vc"
      refine isB'_notin_c hin ?_
      repeat' walk_at "vc"
      exact ⟨_, _, _, _, _, _, _, rfl, hc⟩
    | some p =>
      obtain ⟨i2, x⟩ := p
      rw [set_some e] at e1 e2
      obtain ⟨q1, q2, q3, c'⟩ := bt_some t cn e
      have hb := (ht_bd (ch := now.set i2 x) t).1
      have hin : i2 < now.length := by rw [cn.len]; exact q1
      rw [show oD (some (i2, x)) = .tup [.int (i2 : Int), .int (x : Int)] from rfl]
      repeat' walk_at "vc"
      refine (lbetter_s 58 t cn).imp fun s _ e' => ?_
      rw [e] at e'
      subst e'
      rw [show oD (some (i2, x)) = pD (i2, x) from rfl]
      repeat' walk_at "vc"
      rw [List.length_map]
      refine ⟨sz_lt (m := 1000) (by omega), ?_⟩
      repeat' walk_at "vc"
      refine isD_lastL ?_
      rw [show pD (i2, x) = .tup [.int (i2 : Int), .int (x : Int)] from rfl]
      repeat' walk_at "vc"
      refine isD_lastL ?_
      repeat' walk_at "vc"
      refine (lwith_s 59 hin (by omega)).imp fun s _ e => ?_
      subst e
      repeat' walk_at "vc"
      exact ⟨m, by omega, now.set i2 x, rows ++ [(i2, x)], by rw [List.map_append]; rfl, c', by omega, by rw [List.length_append]; show rows.length + 1 + m ≤ 100; omega, e1, by rw [List.append_assoc]; exact e2⟩
  · rintro σ ⟨cs, z4, z12, z16, z17, z18, z19, rfl, hc⟩
    repeat' walk_at "vc"
    exact ⟨_, _, wrong_k, rfl⟩
end K64
namespace K64
open PySem Rf
local macro_rules | `(tactic| walk_at "vc") => `(tactic| first
  | (with_reducible refine' S_seq ?_)
  | ((with_reducible refine' o_lv_im ?e ?h); (case e => rfl))
  | (with_reducible refine' o_cst ?_)
  | ((with_reducible refine' wo_lv ?e ?h); (case e => rfl))
  | (with_reducible refine' wd_im ?_)
  | (with_reducible refine' wd_mu ?_)
  | ((with_reducible refine' o_var_im ?e ?h); (case e => rfl))
  | (with_reducible refine' o_bin ?_)
  | (with_reducible refine' o_cmp ?_)
  | (with_reducible refine' o_idx ?_)
  | ((with_reducible refine' o_lv_mu ?e ?h); (case e => rfl))
  | (with_reducible refine' o_cons ?_)
  | (with_reducible refine' o_nil ?_)
  | (with_reducible refine' mu_of ?_)
  | (with_reducible refine' nx_nx ?_)
  | (with_reducible refine' nx_rt ?_)
  | (with_reducible refine' nx_bk ?_)
  | (with_reducible refine' nx_ct ?_)
  | (with_reducible refine' tb_t ?_)
  | (with_reducible refine' tb_f ?_)
  | ((with_reducible refine' tb_yes ?e ?h); (case e => first | assumption | decide +kernel))
  | ((with_reducible refine' tb_no ?e ?h); (case e => first | assumption | decide +kernel))
  | ((with_reducible refine' tb_dec ?_ ?_) <;> intro hc <;> try (first | contradiction | (exfalso; omega)))
  | ((with_reducible refine' tb_ndec ?_ ?_) <;> intro hc <;> try (first | contradiction | (exfalso; omega)))
  | (with_reducible refine' S_asg ?_)
  | (with_reducible refine' S_cond ?_)
  | (with_reducible refine' S_ret ?_)
  | (with_reducible refine' S_skip ?_)
  | ((with_reducible refine' isA_of ?e ?h); (case e => rfl))
  | ((with_reducible refine' isB'_of ?e ?h); (case e => with_reducible assumption))
  | ((with_reducible refine' isB'_ne_dq0 ?_ ?_) <;> intro hc <;> try contradiction)
  | ((with_reducible refine' isB'_ne_dq ?_ ?_) <;> intro hc <;> try contradiction)
  | (with_reducible refine' isB'_eq_ni ?_)
  | (with_reducible refine' isB'_gt_pth ?_)
  | (with_reducible refine' isB'_eq_ii ?_)
  | (with_reducible refine' isB'_eq_bb ?_)
  | (with_reducible refine' isB'_ne_bb ?_)
  | (with_reducible refine' isB'_ne_ii ?_)
  | (with_reducible refine' isB'_eq_ss ?_)
  | (with_reducible refine' isB'_ne_ss ?_)
  | ((with_reducible refine' isO_mod ?e ?h); (case e => first | omega | assumption))
  | ((with_reducible refine' isO_fdv ?e ?h); (case e => first | decide | assumption))
  | ((with_reducible refine' isO_mul ?e ?h); (case e => first | decide | assumption))
  | ((with_reducible refine' isO_of ?e ?h); (case e => rfl))
  | ((with_reducible refine' hasMu_of ?e ?h); (case e => rfl))
  | (with_reducible refine' isInt_of ?_)
  | ((with_reducible refine' isN_of ?e ?h); (case e => rfl))
  | (with_reducible refine' isD_t0 ?_)
  | (with_reducible refine' isD_q0 ?_)
  | (with_reducible refine' isD_q1 ?_)
  | (with_reducible refine' isD_t1 ?_)
  | (with_reducible refine' isD_t2 ?_)
  | (with_reducible refine' isD_l0 ?_)
  | (with_reducible refine' isD_l1 ?_)
  | ((with_reducible refine' isD_of ?e ?h); (case e => rfl))
  | ((with_reducible refine' isB'_of (k := false) ?e ?h); (case e => decide +kernel))
  | ((with_reducible refine' isB'_of (k := true) ?e ?h); (case e => decide +kernel))
  | ((with_reducible refine' isB'_of ?e ?h); (case e => rfl))
  | (with_reducible refine' o_tup ?_)
  | (with_reducible refine' o_lst ?_)
  | ((with_reducible refine' sz_of ?e ?h); (case e => exact Nat.le_of_ble_eq_true rfl))
  | (with_reducible refine' o_b1 ?_)
  | (with_reducible refine' o_b2 ?_)
  | (with_reducible refine' o_an ?_)
  | (with_reducible refine' o_orr ?_)
  | (with_reducible refine' o_nt ?_)
  | ((with_reducible refine' o_isx_t ?e ?b ?h); (case e => rfl); (case b => rfl))
  | ((with_reducible refine' o_isx_f ?e ?b ?h); (case e => rfl); (case b => rfl))
  | (with_reducible refine' o_tr ?_)
  | (with_reducible refine' o_ite ?_)
  | (with_reducible refine' o_slc ?_)
  | (with_reducible refine' bd_non ?_)
  | (with_reducible refine' bd_int ?_)
  | ((with_reducible refine' o_var_mu ?e ?h); (case e => rfl))
  | (with_reducible refine' o_glo ?_)
  | ((with_reducible refine' S_rtv_im ?e ?h); (case e => rfl))
  | ((with_reducible refine' S_rtv_mu ?e ?h); (case e => rfl))
  | (with_reducible refine' S_rtn ?_)
  | (with_reducible refine' S_brk ?_)
  | (with_reducible refine' S_cnt ?_)
  | (with_reducible refine' S_exp ?_)
  | ((with_reducible refine' S_app ?e ?h); (case e => rfl))
  | ((with_reducible refine' S_aug ?e ?h); (case e => rfl))
  | (with_reducible refine' isI_of ?_)
  | (with_reducible refine' S_par ?_)
  | (with_reducible refine' S_six ?_)
  | (with_reducible refine' S_for ?_)
  | (with_reducible refine' S_whl ?_)
  | ((with_reducible refine' o_inx ?e ?h); (case e => rfl))
  | ((with_reducible refine' o_popat ?e ?h); (case e => rfl))
  | ((with_reducible refine' S_ext ?e ?h); (case e => rfl))
  | (with_reducible refine' o_rev ?_)
  | (with_reducible refine' o_enm ?_)
  | (with_reducible refine' o_rng1 ?_)
  | (with_reducible refine' o_rng2 ?_)
  | (with_reducible refine' o_comp ?_)
  | (with_reducible refine' o_call ?_)
  | ((with_reducible refine' o_cio ?e ?h); (case e => rfl))
  | (with_reducible refine' o_neg ?_)
  | (with_reducible refine' o_rep ?_)
  | (with_reducible refine' o_chn ?_)
  | (with_reducible refine' it_mu ?_)
  | (with_reducible refine' it_tp ?_)
  | (with_reducible refine' it_ls ?_)
  | ((with_reducible refine' wo_o ?e ?h); (case e => exact fun _ z => nomatch z)))

theorem good (ns : List Int) (hns : ns.length ≤ 63) : FrP (C 61 24 [.im (.lst (ns.map D.int))]) fun s _ => s = .im (.bl true) := by
  refine frp_fn rfl rfl ?_
  rw [b24_eq]
  repeat' walk_at "vc"
  refine (begin_fn (t := 16) (k := 59) rfl ns).imp fun s _ ⟨cs, e, hc⟩ => ?_
  subst e
  repeat' walk_at "vc"
  refine (take_s 59).go hc (by decide) (by decide) fun h0 cs a1 a2 hc => ?_
  obtain ⟨h, hh⟩ : ∃ h : Nat, 1 + h0 = (h : Int) := ⟨(1 + h0).toNat, by omega⟩
  repeat' walk_at "vc"
  rw [hh]
  have h1 : 1 ≤ h := by omega
  have h3 : h ≤ 3 := by omega
  clear hh a1 a2
  refine (take_s 59).go hc (by decide) (by decide) fun m0 cs a1 a2 hc => ?_
  obtain ⟨m, hm⟩ : ∃ h : Nat, 1 + m0 = (h : Int) := ⟨(1 + m0).toNat, by omega⟩
  repeat' walk_at "vc"
  rw [hm]
  have m1 : 1 ≤ m := by omega
  have m4 : m ≤ 4 := by omega
  clear hm a1 a2
  refine ⟨rngIn_of (by omega) (by omega), ?_⟩
  repeat' walk_at "vc"
  refine comp_inv (fun i acc σ => ∃ (cs : List D) (rs : List (List Int)), σ = [.im (.lst (ns.map D.int)), .mu cs, .im (nD h), .im (nD m), .un, .un, .un, .un, .un, .un, .un, .un, .un, .un, .un, .un, .un, .un, .un, .un, .un, .un, .un, .un] ∧ acc = rs.map rD ∧ DS cs ∧ rs.length = i ∧ (∀ r ∈ rs, r.length = h) ∧ (∀ r ∈ rs, ∀ c ∈ r, 0 ≤ c ∧ c ≤ 8)) ⟨cs, [], rfl, rfl, hc, rfl, (fun _ h => nomatch h), (fun _ h => nomatch h)⟩ ?_ ?_
  · rintro i d acc σ hi ⟨cs, rs, rfl, rfl, hc, hl, hq1, hq2⟩
    obtain ⟨rfl, hi⟩ := rng_get hi
    refine ⟨_, rfl, o_cst (tb_t ?_)⟩
    repeat' walk_at "vc"
    refine ⟨rngIn_of (by omega) (by omega), ?_⟩
    repeat' walk_at "vc"
    refine comp_inv (fun j acc σ => ∃ (cs : List D) (o : List Int), σ = [.im (.lst (ns.map D.int)), .mu cs, .im (nD h), .im (nD m), .un, .un, .un, .un, .un, .un, .un, .un, .un, .un, .un, .un, .un, .un, .un, .un, .un, .im (.int (0 + (i : Int))), .un, .un] ∧ acc = o.map D.int ∧ DS cs ∧ o.length = j ∧ (∀ c ∈ o, 0 ≤ c ∧ c ≤ 8)) ⟨cs, [], rfl, rfl, hc, rfl, (fun _ h => nomatch h)⟩ ?_ ?_
    · rintro j d acc σ hj ⟨cs, o, rfl, rfl, hc, hl2, hq3⟩
      refine ⟨_, rfl, o_cst (tb_t ?_)⟩
      repeat' walk_at "vc"
      refine (take_s 59).go hc (by decide) (by decide) fun w cs w1 w2 hc => ?_
      repeat' walk_at "vc"
      refine ⟨cs, o ++ [w], rfl, by rw [List.map_append]; rfl, hc, by simp [hl2], fun x hx => ?_⟩
      rcases List.mem_append.mp hx with hx | hx
      · exact hq3 x hx
      · rw [List.mem_singleton.mp hx]; omega
    · rintro acc σ ⟨cs, o, rfl, rfl, hc, hl2, hq3⟩
      rw [rng_len] at hl2
      refine ⟨by rw [List.length_map]; exact sz_le (m := 24) (by omega), ?_⟩
      repeat' walk_at "vc"
      refine ⟨cs, rs ++ [o], rfl, by rw [List.map_append]; rfl, hc, by simp [hl], fun x hx => ?_, fun x hx => ?_⟩
      · rcases List.mem_append.mp hx with hx | hx
        · exact hq1 x hx
        · rw [List.mem_singleton.mp hx]; omega
      · rcases List.mem_append.mp hx with hx | hx
        · exact hq2 x hx
        · rw [List.mem_singleton.mp hx]; exact hq3
  rintro acc σ ⟨cs, rs, rfl, rfl, hc, hrl, hq1, hq2⟩
  rw [rng_len, show ((m : Int) - 0).toNat = m by omega] at hrl
  refine ⟨by rw [List.length_map]; exact sz_le (m := 24) (by omega), ?_⟩
  repeat' walk_at "vc"
  refine ⟨rngIn_of (by omega) (by omega), ?_⟩
  repeat' walk_at "vc"
  refine comp_inv (fun i acc σ => ∃ (cs : List D) (hs : List (List (List Nat))), σ = [.im (.lst (ns.map D.int)), .mu cs, .im (nD h), .im (nD m), .un, .im (tabD rs), .un, .un, .un, .un, .un, .un, .un, .un, .un, .un, .un, .un, .un, .un, .un, .un, .un, .un] ∧ acc = hs.map rtsD ∧ DS cs ∧ hs.length = i ∧ (∀ R ∈ hs, 1 ≤ R.length ∧ R.length ≤ 3) ∧ (∀ R ∈ hs, ∀ t ∈ R, t.Pairwise (· < ·) ∧ ∀ j ∈ t, j < m)) ⟨cs, [], rfl, rfl, hc, rfl, (fun _ h => nomatch h), (fun _ h => nomatch h)⟩ ?_ ?_
  · rintro i d acc σ hi ⟨cs, hs, rfl, rfl, hc, hl, hp1, hp2⟩
    obtain ⟨rfl, hi⟩ := rng_get hi
    refine ⟨_, rfl, o_cst (tb_t ?_)⟩
    repeat' walk_at "vc"
    refine (take_s 59).go hc (by decide) (by decide) fun n0 cs c1 c2 hc => ?_
    repeat' walk_at "vc"
    refine ⟨rngIn_of (by omega) (by omega), ?_⟩
    repeat' walk_at "vc"
    refine comp_inv (fun j acc σ => ∃ (cs : List D) (R : List (List Nat)), σ = [.im (.lst (ns.map D.int)), .mu cs, .im (nD h), .im (nD m), .im (.int (0 + (i : Int))), .im (tabD rs), .un, .un, .un, .un, .un, .un, .un, .un, .un, .un, .un, .un, .un, .un, .un, .un, .un, .un] ∧ acc = R.map cD ∧ DS cs ∧ R.length = j ∧ (∀ t ∈ R, t.Pairwise (· < ·) ∧ ∀ j ∈ t, j < m)) ⟨cs, [], rfl, rfl, hc, rfl, (fun _ h => nomatch h)⟩ ?_ ?_
    · rintro j d acc σ hj ⟨cs, R, rfl, rfl, hc, hl2, hq3⟩
      obtain ⟨rfl, hj⟩ := rng_get hj
      refine ⟨_, rfl, o_cst (tb_t ?_)⟩
      repeat' walk_at "vc"
      refine ⟨rngIn_of (by omega) (by omega), ?_⟩
      repeat' walk_at "vc"
      refine comp_inv (fun q acc σ => ∃ (cs : List D) (tt : List Nat), σ = [.im (.lst (ns.map D.int)), .mu cs, .im (nD h), .im (nD m), .im (.int (0 + (i : Int))), .im (tabD rs), .un, .un, .un, .un, .un, .un, .un, .un, .un, .un, .un, .un, .un, .un, .un, .im (.int (0 + (j : Int))), .un, .un] ∧ acc = tt.map nD ∧ DS cs ∧ tt.Pairwise (· < ·) ∧ (∀ x ∈ tt, x < q) ∧ tt.length ≤ q) ⟨cs, [], rfl, rfl, hc, List.Pairwise.nil, (fun _ h => nomatch h), Nat.zero_le _⟩ ?_ ?_
      · rintro q d acc σ hq ⟨cs, tt, rfl, rfl, hc, hu, hlt, hlen⟩
        obtain ⟨rfl, hq⟩ := rng_get hq
        refine ⟨_, rfl, ?_⟩
        repeat' walk_at "vc"
        refine (take_s 59).go hc (by decide) (by decide) fun w cs w1 w2 hc => ?_
        repeat' walk_at "vc"
        · refine ⟨cs, tt ++ [q], rfl, ?_, hc, ?_, fun x hx => ?_, by simp; omega⟩
          · rw [List.map_append, Int.zero_add]; rfl
          · rw [List.pairwise_append]
            exact ⟨hu, List.pairwise_singleton _ _, fun a ha b hb => by rw [List.mem_singleton.mp hb]; exact hlt a ha⟩
          · rcases List.mem_append.mp hx with hx | hx
            · have := hlt x hx; omega
            · rw [List.mem_singleton.mp hx]; omega
        · exact ⟨cs, tt, rfl, rfl, hc, hu, fun x hx => by have := hlt x hx; omega, by omega⟩
      · rintro acc σ ⟨cs, tt, rfl, rfl, hc, hu, hlt, hlen⟩
        rw [rng_len] at hlt hlen
        refine ⟨by rw [List.length_map]; exact sz_le (m := 24) (by omega), ?_⟩
        repeat' walk_at "vc"
        refine ⟨cs, R ++ [tt], rfl, by rw [List.map_append]; rfl, hc, by simp [hl2], fun x hx => ?_⟩
        rcases List.mem_append.mp hx with hx | hx
        · exact hq3 x hx
        · rw [List.mem_singleton.mp hx]
          exact ⟨hu, fun y hy => by have := hlt y hy; omega⟩
    · rintro acc σ ⟨cs, R, rfl, rfl, hc, hl2, hq3⟩
      rw [rng_len] at hl2
      refine ⟨by rw [List.length_map]; exact sz_le (m := 24) (by omega), ?_⟩
      repeat' walk_at "vc"
      refine ⟨cs, hs ++ [R], rfl, by rw [List.map_append]; rfl, hc, by simp [hl], fun x hx => ?_, fun x hx => ?_⟩
      · rcases List.mem_append.mp hx with hx | hx
        · exact hp1 x hx
        · rw [List.mem_singleton.mp hx]; omega
      · rcases List.mem_append.mp hx with hx | hx
        · exact hp2 x hx
        · rw [List.mem_singleton.mp hx]; exact hq3
  rintro acc σ ⟨cs, hs, rfl, rfl, hc, hhl, hp1, hp2⟩
  rw [rng_len, show ((h : Int) - 0).toNat = h by omega] at hhl
  subst hhl
  subst hrl
  have t : Tr rs hs := ⟨h1, h3, m1, m4, hq1, hq2, hp1, hp2⟩
  refine ⟨by rw [List.length_map]; exact sz_le (m := 24) (by omega), ?_⟩
  repeat' walk_at "vc"
  refine for_rest rtsD (fun l σ => ∃ (s8 : Sl) (acc : List (List Nat)) (m : Nat) (z9 z10 z11 : Sl), σ = [.im (.lst (ns.map D.int)), .mu cs, .im (nD hs.length), .im (nD rs.length), .un, .im (tabD rs), .im (hD hs), .im (tD rs hs), s8, z9, z10, z11, .un, .un, .un, .un, .un, .un, .un, .un, .un, .un, .un, .un] ∧ LS s8 (acc.map cD) ∧ allF acc l = allC hs ∧ (∀ R ∈ l, R.length ≤ 3) ∧ acc.length ≤ 3 ^ m ∧ (∀ r ∈ acc, r.length = m) ∧ m + l.length = hs.length) ?_ ?_ ⟨_, [[]], 0, _, _, _, rfl, .inl rfl, rfl, fun R hR => (t.R1 R hR).2, Nat.le_refl _, fun r hr => by rw [List.mem_singleton.mp hr]; rfl, by omega⟩
  · rintro R l σ ⟨s8, acc, m, z9, z10, z11, rfl, hs', ha, hR3, hal, hrl, hm⟩
    rw [List.length_cons] at hm
    have hR := hR3 R (.head _)
    have hRl : (R.map cD).length = R.length := len0
    have h27 : 3 ^ m ≤ 27 := by
      calc 3 ^ m ≤ 3 ^ 3 := Nat.pow_le_pow_right (by decide) (by omega)
        _ = 27 := rfl
    refine ⟨_, rfl, ?_⟩
    repeat' walk_at "vc"
    refine o_var_LS rfl hs' ?_
    repeat' walk_at "vc"
    refine for_rest cD (fun l2 σ => ∃ (acc2 : List (List Nat)) (z11 : Sl), σ = [.im (.lst (ns.map D.int)), .mu cs, .im (nD hs.length), .im (nD rs.length), .un, .im (tabD rs), .im (hD hs), .im (tD rs hs), .im (.lst (acc.map cD)), .im (rtsD R), .mu (acc2.map cD), z11, .un, .un, .un, .un, .un, .un, .un, .un, .un, .un, .un, .un] ∧ (∀ r ∈ l2, r.length = m) ∧ acc2 ++ l2.flatMap (extC R.length) = acc.flatMap (extC R.length) ∧ acc2.length + 3 * l2.length ≤ 81) ?_ ?_ ⟨[], _, rfl, hrl, rfl, by show 0 + 3 * acc.length ≤ 81; omega⟩
    · rintro row l2 σ ⟨acc2, z11, rfl, hm2, ha2, hlen⟩
      rw [List.length_cons] at hlen
      have hrow := hm2 row (.head _)
      have hel : (extC R.length row).length = R.length := by unfold extC; rw [List.length_map, List.length_range]
      refine ⟨_, rfl, ?_⟩
      repeat' walk_at "vc"
      refine ⟨rngIn_of (by omega) (by omega), ?_⟩
      repeat' walk_at "vc"
      rw [hRl, rng_nD]
      refine comp_map nD (fun j => cD (row ++ [j])) (List.range R.length) (fun j hj => ⟨_, rfl, o_cst (tb_t ?_)⟩) ?_
      · repeat' walk_at "vc"
        refine isO_tup (by rw [List.length_map]; exact sz_le (m := 1000) (by show _ + 1 ≤ _; omega)) ?_
        exact ⟨by unfold cD; rw [List.map_append]; rfl, rfl⟩
      · rw [show ((List.range R.length).map fun j => cD (row ++ [j])) = (extC R.length row).map cD from by unfold extC; rw [List.map_map]; rfl]
        refine ⟨by rw [List.length_map]; exact sz_le (m := 1000) (by omega), ?_⟩
        repeat' walk_at "vc"
        refine isO_lst (by rw [List.length_map, List.length_map]; exact sz_le (m := 1000) (by omega)) ?_
        repeat' walk_at "vc"
        refine ⟨acc2 ++ extC R.length row, _, by rw [List.map_append]; rfl, fun y hy => hm2 y (.tail _ hy), by rw [List.append_assoc]; exact ha2, by rw [List.length_append]; omega⟩
    · rintro σ ⟨acc2, z11, rfl, hm2, ha2, hlen⟩
      have ha2 : acc2 ++ [] = acc.flatMap (extC R.length) := ha2
      rw [List.append_nil] at ha2
      subst ha2
      repeat' walk_at "vc"
      refine ⟨_, _, m + 1, _, _, _, rfl, .inr rfl, ha, fun y hy => hR3 y (.tail _ hy), ?_, fun r hr => ?_, by omega⟩
      · have e : ∀ acc : List (List Nat), (acc.flatMap (extC R.length)).length ≤ acc.length * 3 := by
          intro acc
          induction acc with
          | nil => simp
          | cons a acc ih =>
            rw [List.flatMap_cons, List.length_append, List.length_cons]
            have : (extC R.length a).length = R.length := by unfold extC; rw [List.length_map, List.length_range]
            omega
        have := e acc
        rw [Nat.pow_succ]
        omega
      · obtain ⟨r0, h0, hr⟩ := List.mem_flatMap.mp hr
        obtain ⟨j, _, rfl⟩ := ext_mem.mp hr
        rw [List.length_append, hrl r0 h0]
        rfl
  · rintro σ ⟨s8, acc, m, z9, z10, z11, rfl, hs', ha, _⟩
    have ha : acc = allC hs := ha
    subst ha
    exact tail_s t hs' hc
end K64
open PySem PySem.W PyProof.Rows
set_option maxHeartbeats 0 in
theorem PySem.Challenge.cw_marketguild_k64_whole_roads_holds : PySem.Challenge.rw_marketguild_k64_whole_roads.Holds := by
  w_on; o_law; k_head; (case hw => w_witness2)
  k_fill
  refine LamX.walk_ofTs (l := PySem.Challenge.rw_marketguild_k64_whole_roads) (n := 63) (k := Rf.lv (K64.KK + 1)) (x := "script") (CX := fun w => L2.CX PySem.Challenge.rw_marketguild_k64_whole_roads.prog w) rfl (by decide) rfl ⟨rfl, by decide, by decide⟩ (fun w h Y => PySem.W.km_in_of Y) ?F (fun _ _ _ _ _ h => Rf.cx_no h)
  case F =>
    intro w mg fa h Y KX G hmg
    have hz := PySem.W.km_tabs_of Y
    refine' Rf.law_end (l := PySem.Challenge.rw_marketguild_k64_whole_roads) (K64.all_mk KX G hmg ?a0 ?l0 ?c0 ?k0 ?a1 ?l1 ?c1 ?k1 ?a2 ?l2 ?c2 ?k2 ?a3 ?l3 ?c3 ?k3 ?a4 ?l4 ?c4 ?k4 ?a5 ?l5 ?c5 ?k5 ?a6 ?l6 ?c6 ?k6 ?a7 ?l7 ?c7 ?k7 ?a8 ?l8 ?c8 ?k8 ?a9 ?l9 ?c9 ?k9 ?a10 ?l10 ?c10 ?k10 ?a11 ?l11 ?c11 ?k11 ?a12 ?l12 ?c12 ?k12 ?a13 ?l13 ?c13 ?k13 ?a14 ?l14 ?c14 ?k14 ?a15 ?l15 ?c15 ?k15 ?a16 ?l16 ?c16 ?k16 ?a17 ?l17 ?c17 ?k17 ?a18 ?l18 ?c18 ?k18 ?a19 ?l19 ?c19 ?k19 ?a20 ?l20 ?c20 ?k20 ?a21 ?l21 ?c21 ?k21 ?a22 ?l22 ?c22 ?k22 ?a23 ?l23 ?c23 ?k23 ?n23a ?n23b ?a24 ?l24 ?c24 ?k24 ?z0 ?z1 ?z2 ?z3 ?z4 ?z5 ?z6 ?z7 ?z8 ?z9 ?z10 ?z11 ?z12 ?z13 ?y0 ?y1 ?y2 ?x0 ?hg0 ?hk0 ?hs0 ?hd0 ?ha0 ?hm0 ?hc0 ?hy0 ?hp0 ?hx0 ?s0x0 ?s0x1 ?x1 ?hg1 ?hk1 ?hs1 ?hd1 ?ha1 ?hm1 ?hc1 ?hy1 ?hp1 ?hx1 ?s1x0 ?s1x1 ?u1a ?u1b ?u1c ?u1d ?u1e ?u1f ?u1g ?u1h ?u1i ?u1j ?u1k ?u1l ?u1m ?u1n ?u1o ?u1p ?u1q ?u1r ?u1s ?g1 ?g2) ?vz ?vn ?vc ?vT ?nl (fun ns hl => K64.good ns hl)
    (case x0 => k_is); (case x1 => k_is); (case a0 => k_is); (case l0 => k_is); (case c0 => k_is); (case k0 => k_is); (case a1 => k_is); (case l1 => k_is); (case c1 => k_is); (case k1 => k_is); (case a2 => k_is); (case l2 => k_is); (case c2 => k_is); (case k2 => k_is); (case a3 => k_is); (case l3 => k_is); (case c3 => k_is); (case k3 => k_is); (case a4 => k_is); (case l4 => k_is); (case c4 => k_is); (case k4 => k_is); (case a5 => k_is); (case l5 => k_is); (case c5 => k_is); (case k5 => k_is); (case a6 => k_is); (case l6 => k_is); (case c6 => k_is); (case k6 => k_is); (case a7 => k_is); (case l7 => k_is); (case c7 => k_is); (case k7 => k_is); (case a8 => k_is); (case l8 => k_is); (case c8 => k_is); (case k8 => k_is); (case a9 => k_is); (case l9 => k_is); (case c9 => k_is); (case k9 => k_is); (case a10 => k_is); (case l10 => k_is); (case c10 => k_is); (case k10 => k_is); (case a11 => k_is); (case l11 => k_is); (case c11 => k_is); (case k11 => k_is); (case a12 => k_is); (case l12 => k_is); (case c12 => k_is); (case k12 => k_is); (case a13 => k_is); (case l13 => k_is); (case c13 => k_is); (case k13 => k_is); (case a14 => k_is); (case l14 => k_is); (case c14 => k_is); (case k14 => k_is); (case a15 => k_is); (case l15 => k_is); (case c15 => k_is); (case k15 => k_is); (case a16 => k_is); (case l16 => k_is); (case c16 => k_is); (case k16 => k_is); (case a17 => k_is); (case l17 => k_is); (case c17 => k_is); (case k17 => k_is); (case a18 => k_is); (case l18 => k_is); (case c18 => k_is); (case k18 => k_is); (case a19 => k_is); (case l19 => k_is); (case c19 => k_is); (case k19 => k_is); (case a20 => k_is); (case l20 => k_is); (case c20 => k_is); (case k20 => k_is); (case a21 => k_is); (case l21 => k_is); (case c21 => k_is); (case k21 => k_is); (case a22 => k_is); (case l22 => k_is); (case c22 => k_is); (case k22 => k_is); (case a23 => k_is); (case l23 => k_is); (case c23 => k_is); (case k23 => k_is); (case n23a => k_is); (case n23b => rfl); (case a24 => k_is); (case l24 => k_is); (case c24 => k_is); (case k24 => k_is); (case z0 => k_is); (case z1 => k_is); (case z2 => k_is); (case z3 => k_is); (case z4 => k_is); (case z5 => k_is); (case z6 => k_is); (case z7 => k_is); (case z8 => k_is); (case z9 => k_is); (case z10 => k_is); (case z11 => k_is); (case z12 => k_is); (case z13 => k_is); (case y0 => k_is); (case y1 => k_is); (case y2 => k_is); (case hg0 => k_is); (case hk0 => k_is); (case hs0 => k_is); (case hd0 => k_is); (case ha0 => k_is); (case hm0 => k_is); (case hc0 => k_is); (case hy0 => k_is); (case hp0 => k_is); (case hx0 => k_is); (case s0x0 => first | rfl | k_is); (case s0x1 => first | rfl | k_is); (case hg1 => k_is); (case hk1 => k_is); (case hs1 => k_is); (case hd1 => k_is); (case ha1 => k_is); (case hm1 => k_is); (case hc1 => k_is); (case hy1 => k_is); (case hp1 => k_is); (case hx1 => k_is); (case s1x0 => first | rfl | k_is); (case s1x1 => first | rfl | k_is); (case u1a => k_is); (case u1b => k_is); (case u1c => k_is); (case u1d => k_is); (case u1e => rfl); (case u1f => kernel_rfl); (case u1g => k_is); (case u1h => k_is); (case u1i => exact fun _ => ⟨_, rfl⟩); (case u1j => kernel_rfl); (case u1k => k_is); (case u1l => k_is); (case u1m => kernel_rfl); (case u1n => k_is); (case u1o => first | k_is | kernel_rfl); (case u1p => first | ks_is | kernel_rfl); (case u1q => k_is); (case u1r => k_is); (case u1s => first | k_is | kernel_rfl); (case g1 => k_is); (case g2 => k_is)
    case vz => exact List.forall_mem_cons.mpr ⟨hz _ (by simp), (fun _ h => nomatch h)⟩
    case vn => exact List.forall_mem_cons.mpr ⟨(by kernel_rfl), (fun _ h => nomatch h)⟩
    case vc => exact List.forall_mem_cons.mpr ⟨PySem.W.codeHd_of_K KX (by kernel_rfl), (fun _ h => nomatch h)⟩
    case vT => exact List.forall_mem_cons.mpr ⟨⟨_, (.head _)⟩, (fun _ h => nomatch h)⟩
    case nl => kernel_rfl
