import PyProof.Rows.All
import Wide.All
import OpenK.AllK
import Wide.FinOn
import KE.GoesMore
import KE.GoesEnum
import KE.KExcSuper
import KE.KExcInit
import KE.KExcIs
import HandS.ForMost
import HandS.More
import HandS.Exc
import HandS.TupAny
import HandS.TupMul
import HandS.Wide
import HandS.IsInst
import HandS.TupSets
import HandS.Walk
import HandS.Conv
import HandS.Text
import HandS.ExcSuper
import HandS.ExcIs
import HandS.ExcOwn
import HandS.TryOnly
import HandS.WordsExc
import HandS.Codes
import HandS.EndBits
import PySem.Challenge.RW_meetstores_k19_whole_scripts_as_text
section
set_option Elab.async false
open PySem PySem.W PyProof.Rows
set_option maxRecDepth 100000 in
set_option maxHeartbeats 0 in
open_top hd for PySem.Challenge.rw_meetstores_k19_whole_scripts_as_text

end
set_option Elab.async false
set_option linter.all false
set_option maxRecDepth 100000
set_option maxHeartbeats 4000000
/-! # Mirror: what the program's defs compute, over lists of code points. Plain Lean. -/
namespace Ms
open L2
abbrev Cs := List Nat
def cd (s : String) : Cs := s.toList.map Char.toNat
def signs : Cs := cd "abcdefghijklmnopqrstuvwxyzABCDEFGHIJKLMNOPQRSTUVWXYZ0123456789 .,:;-_/+*()=?!"
/-- the length of the word that begins a rest of a line -/
def wlen : Cs → Nat
  | [] => 0
  | c :: r => if c = 39 then min ((r.takeWhile (· ≠ 39)).length + 2) (r.length + 1) else ((c :: r).takeWhile (· ≠ 32)).length
/-- words_of, by fuel -/
def wordsF : Nat → Cs → Option (List Cs)
  | 0, _ => none
  | _ + 1, [] => none
  | n + 1, c :: r =>
    match (c :: r).drop (wlen (c :: r)) with
    | [] => if 0 < wlen (c :: r) then some [(c :: r).take (wlen (c :: r))] else none
    | d :: r' => if d ≠ 32 ∨ wlen (c :: r) = 0 then none else (wordsF n r').map ((c :: r).take (wlen (c :: r)) :: ·)
def mWords (l : Cs) : Option (List Cs) := wordsF (l.length + 1) l
def isFig (c : Nat) : Bool := decide (c ∈ cd "0123456789")
def valD (l : Cs) : Nat := l.foldl (fun a c => a * 10 + (c - 48)) 0
def mCount (l : Cs) : Option Nat :=
  if l = [] ∨ 20 < l.length ∨ l.all isFig = false then none else if TL.numL (valD l) = l then some (valD l) else none
def isText (most : Nat) (l : Cs) : Bool := decide (l.length ≤ most) && l.all (fun c => decide (c ∈ signs))
def mText (l : Cs) : Option Cs :=
  if l.length < 2 ∨ l.head? ≠ some 39 ∨ l.getLast? ≠ some 39 then none else if isText 200 ((l.drop 1).dropLast) then some ((l.drop 1).dropLast) else none
def mkS (l : Cs) : PySem.Str := ⟨l.toArray⟩
def mValue (l : Cs) : Option V :=
  if l = cd "none" then some .non
  else if l.head? = some 35 then
    (if (l.drop 1).head? = some 45 then
      (match mCount (l.drop 2) with
        | none => none
        | some n => if n ≤ 2 ^ 40 ∧ n ≠ 0 then some (.int (-(n : Int))) else none)
     else
      (match mCount (l.drop 1) with
        | none => none
        | some n => if n ≤ 2 ^ 40 then some (.int n) else none))
  else (mText l).map fun t => .str (mkS t)
/-- what a command wants: how many counts; 0 nothing, 1 a key, 2 a key and a value -/
def cmds : List (Cs × Nat × Nat) :=
  [(cd "write", 1, 2), (cd "show", 1, 1), (cd "notes", 1, 0), (cd "tick", 1, 0), (cd "fall", 1, 0), (cd "cut", 2, 0), (cd "heal", 2, 0), (cd "lose", 1, 0), (cd "double", 1, 0),
   (cd "spoil", 3, 0), (cd "deliver", 1, 0), (cd "flush", 0, 0), (cd "settle", 1, 0), (cd "flight", 0, 0), (cd "alike", 0, 0)]
def cmd (w : Cs) : Option (Nat × Nat) := cmds.lookup w
inductive Stp where
  | world (n : Nat) (ls : List (Nat × Nat))
  | flat (w : Cs) (xs : List V)
  deriving DecidableEq
def par45 (l : Cs) : Option (Cs × Cs) := TL.par [45] [] l
def mLink (l : Cs) : Option (Nat × Nat) :=
  match par45 l with
  | none => none
  | some (a, b) => match mCount a, mCount b with
    | some m, some n => some (m, n)
    | _, _ => none
/-- all of them, or none -/
def allSome {α β : Type} (f : α → Option β) : List α → Option (List β)
  | [] => some []
  | x :: r => match f x, allSome f r with
    | some y, some ys => some (y :: ys)
    | _, _ => none
def mWorld (ws : List Cs) : Option Stp :=
  match ws with
  | [] => none
  | w :: r => match mCount w, allSome mLink r with
    | some n, some ls => some (.world n ls)
    | _, _ => none
def mStep (l : Cs) : Option Stp :=
  match mWords l with
  | none => none
  | some [] => none
  | some (w :: ws) =>
    if w = cd "world" then mWorld ws else
    match cmd w with
    | none => none
    | some (many, more) =>
      match allSome mCount (ws.take many) with
      | none => none
      | some cs =>
        if cs.length < many ∨ (ws.drop many).length ≠ more then none else
        match more, ws.drop many with
        | 0, _ => some (.flat w (cs.map fun (n : Nat) => V.int (n : Int)))
        | 1, k :: _ => (mText k).map fun t => .flat w (cs.map (fun (n : Nat) => V.int (n : Int)) ++ [.str (mkS t)])
        | _, k :: v :: _ => (match mText k, mValue v with
          | some t, some y => some (.flat w (cs.map (fun (n : Nat) => V.int (n : Int)) ++ [.str (mkS t), y]))
          | _, _ => none)
        | _, _ => none
def isInV (lo hi : Int) : V → Bool
  | .int i => decide (lo ≤ i) && decide (i ≤ hi)
  | _ => false
def isTextV (most : Nat) : V → Bool
  | .str z => isText most (TL.tl z)
  | _ => false
def isKeyV : V → Bool
  | .str z => isText 40 (TL.tl z) && !decide (TL.tl z = [])
  | _ => false
def isValueV : V → Bool
  | .non => true
  | .str z => isText 200 (TL.tl z)
  | .int i => decide (-(2 ^ 40) ≤ i) && decide (i ≤ 2 ^ 40)
  | _ => false
def mIsStep : Stp → Bool
  | .world n ls => decide (n ≤ 2 ^ 20) && ls.all fun p => decide (p.1 ≤ 2 ^ 20) && decide (p.2 ≤ 2 ^ 20)
  | .flat w xs => match cmd w with
    | none => false
    | some (many, more) => decide (xs.length = many + more) && (xs.take many).all (isInV 0 (2 ^ 20)) && (decide (more = 0) || isKeyV (xs.getD many .non)) && (decide (more ≠ 2) || isValueV (xs.getD (many + 1) .non))
def isWorld : Stp → Bool
  | .world _ _ => true
  | .flat _ _ => false
def numV : V → Cs
  | .int i => TL.tl (PySem.Str.ofString (toString i))
  | _ => []
def quo (l : Cs) : Cs := 39 :: l ++ [39]
def keyW : V → Cs
  | .str z => quo (TL.tl z)
  | _ => []
def valW : V → Cs
  | .non => cd "none"
  | .str z => quo (TL.tl z)
  | .int i => 35 :: TL.tl (PySem.Str.ofString (toString i))
  | _ => []
def linkW (p : Nat × Nat) : Cs := TL.numL p.1 ++ 45 :: TL.numL p.2
def lineWs : Stp → List Cs
  | .world n ls => cd "world" :: TL.numL n :: ls.map linkW
  | .flat w xs => match cmd w with
    | none => [w]
    | some (many, more) => w :: ((xs.take many).map numV ++ (if more = 0 then [] else [keyW (xs.getD many .non)]) ++ (if more = 2 then [valW (xs.getD (many + 1) .non)] else []))
def mLine (st : Stp) : Cs := TL.joinL [32] (lineWs st)
/-- the first bad line's index, or the steps -/
def badAt (i : Nat) (o : Option Stp) : Bool := match o with
  | none => true
  | some st => decide (i = 200) || !mIsStep st || (isWorld st != decide (i = 0))
def mRead : Nat → List Cs → Except Nat (List Stp)
  | _, [] => .ok []
  | i, l :: r => if badAt i (mStep l) then .error i else match mRead (i + 1) r with
    | .error j => .error j
    | .ok sts => .ok ((mStep l).getD (.world 0 []) :: sts)
def mNeed : Nat → List Stp → Option Nat
  | _, [] => none
  | i, st :: r => if !mIsStep st || (isWorld st != decide (i = 0)) then some i else mNeed (i + 1) r
/-! ### the law's written lines -/
def badL : List String := ["", " ", "tick", "tick  0", "tick 0 ", " tick 0", "tick 00", "tick -1", "tick 1048577", "ticks 0",
  "tick x", "flush 0", "show 0", "show 0 fruit", "show 0 ''",
  "write 0 'a'", "write 0 'a' ##1", "write 0 'a' #01", "write 0 'a' #-0", "write 0 'a' x",
  "write 0 'a' '", "write 0 'a'b' none", "write 0 'a' #1099511627777",
  "write 0 'a' none none", "spoil 0 1", "world 2 0-1", "cut 0", "cut 0 1 2", "deliver all",
  "show 0 'a~'", "write 0 'a' '~'", "show 'a'", "alike 1"]
def fineL : List String := ["write 0 'a' ''", "write 0 ' ' #-1", "write 0 'a b' 'c  d'", "spoil 0 0 256", "tick 1048576", "write 9 'a' #1099511627776", "settle 2000"]
/-- a line that tells no step behind the first line -/
def badLn (l : Cs) : Bool := badAt 1 (mStep l)
theorem bads : ∀ s ∈ badL, badLn (cd s) = true := by decide +kernel
theorem fines : ∀ s ∈ fineL, badLn (cd s) = false := by decide +kernel
end Ms

set_option Elab.async false
set_option linter.all false
set_option maxRecDepth 100000
set_option maxHeartbeats 4000000
/-! # Own rules: what the layer has no row for -/
namespace PySem
section
variable {prog : Program} {w : World} {A : Around} {E : Value → Shared → Prop} {s : Shared}
theorem ms_enum_newT (l : Addr) (items : Array Value) :
    Meets (Builtin.«enumerate.__new__» ⟨[.type "enumerate", .ref l], []⟩) (fun _ R s => s.heap.IsTuple l items ∧
      R (.ok (.ret (.ref (s.heap.push { cls := .type "tuple_iterator", data := .fields #[.ref l, .int 0 0] }).objs.size)))
        { s with heap := (s.heap.push { cls := .type "tuple_iterator", data := .fields #[.ref l, .int 0 0] }).push { cls := .type "enumerate", data := .fields #[.none, .bool false, .ref s.heap.objs.size, rawInt 0, .none, .none] } }) :=
  .of_wp fun prog w A R s h => by
    obtain ⟨hp, g, d, tk, os⟩ := s
    obtain ⟨ht, h⟩ := h
    have hsub := sub_enumerate
    have hit : ∀ {A : Around} {E : Value → Shared → Prop} {Q : Value → Shared → Prop} {g d tk os}, Q (.ref hp.objs.size) ⟨hp.push { cls := .type "tuple_iterator", data := .fields #[.ref l, .int 0 0] }, g, d, tk, os⟩ → wpAny (model prog w) A (pyIter (.ref l)) Q E ⟨hp, g, d, tk, os⟩ := fun q => wpAny_pyIter_tuple ht q
    wp_walk
    refine wpAny_stack_any fun st => wpAny_pure ?_
    split
    · rename_i c _ _ _ _ _
      cases (c == Value.type "enumerate")
      · wp_walk using hit
        exact ⟨_, rfl, h⟩
      · wp_walk using hit
        exact ⟨_, rfl, h⟩
    · wp_walk using hit
      exact ⟨_, rfl, h⟩
theorem ms_enum_tuple {l : Addr} {items : Array Value} {Q : Value → Shared → Prop} (hL : s.heap.IsTuple l items)
    (h : ∀ h', IsEnum h' (s.heap.objs.size + 1) s.heap.objs.size 0 .none → h'.IsTupleIter s.heap.objs.size l 0 → h'.objs.size = s.heap.objs.size + 2 →
      (∀ b o, s.heap.get? b = some o → h'.get? b = some o) → Q (.ref (s.heap.objs.size + 1)) { s with heap := h' }) :
    wpAny (model prog w) A (call (.type "enumerate") [.ref l]) Q E s := by
  refine callType_new F.called_enumerate (by decide) (F.typeCall_enumerate_1 _) (F.newCall_enumerate_1 _) (fun obj => F.args_object_init_2 obj _) F.entry_enumerate_new
    (ms_enum_newT l items) ⟨hL, ?_⟩
  have hz : (s.heap.push { cls := .type "tuple_iterator", data := .fields #[.ref l, .int 0 0] }).objs.size = s.heap.objs.size + 1 := Heap.size_push ..
  show _ ∧ _
  rw [hz]
  have he : IsEnum ((s.heap.push { cls := .type "tuple_iterator", data := .fields #[.ref l, .int 0 0] }).push
      { cls := .type "enumerate", data := .fields #[.none, .bool false, .ref s.heap.objs.size, rawInt 0, .none, .none] }) (s.heap.objs.size + 1) s.heap.objs.size 0 .none := by
    have := Heap.get?_push_size (s.heap.push { cls := .type "tuple_iterator", data := .fields #[.ref l, .int 0 0] })
      (o := { cls := .type "enumerate", data := .fields #[.none, .bool false, .ref s.heap.objs.size, rawInt 0, .none, .none] }) rfl
    rw [hz] at this; exact this
  refine ⟨⟨_, he, rfl⟩, h _ he ⟨_, Heap.get?_push_of_some _ (Heap.get?_push_size _ rfl), rfl, rfl⟩ (by rw [Heap.size_push, hz]) fun b o y => Heap.get?_push_of_some _ (Heap.get?_push_of_some _ y)⟩
end
end PySem
namespace L2
open PySem PySem.Spec PyProof.Rows
/-! ### enumerate(tuple) -/
def IteT (K : PySem.W.Frag) (a : Addr) : It :=
  ⟨fun i H => ∃ (xs : List V) (x : V), SqT K H a xs ∧ xs[i]? = some x, fun i H v H' => ∃ T x, v = .ref T ∧ H T = none ∧ H' = upd H T (.tup [.int (i : Nat), x]) ∧ ∀ xs, SqT K H a xs → xs[i]? = some x, fun i H => ∃ xs : List V, SqT K H a xs ∧ xs.length = i⟩
theorem turn_enumT {P : Program} {w : World} {K : PySem.W.Frag} {elts : List Expr} {kk : Nat} {tpos : Pos} (a e it : Addr) :
    Turn P w K (.Tuple elts kk tpos) (IteT K a) [e, it] e (fun i h => (∃ old, IsEnum h e it ((i : Nat) : Int) old) ∧ h.IsTupleIter it a i ∧ e ≠ it ∧ a ≠ it ∧ a ≠ e) where
  mem := by simp
  obj := fun i h st b hb => by
    obtain ⟨⟨old, he⟩, ⟨o, ho, hc, hd⟩, _⟩ := st
    have e' : b = e ∨ b = it := by simpa using hb
    rcases e' with z | z
    · rw [z]; exact ⟨_, he, fun v q => nomatch q⟩
    · rw [z]; exact ⟨o, ho, fun v q => by rw [hd] at q; cases q⟩
  keep := fun i h h' st k => let ⟨⟨old, he⟩, hi, hne⟩ := st; ⟨⟨old, k e (by simp) _ he⟩, hi.at fun o q => k it (by simp) o q, hne⟩
  item := by
    intro X hP hw hK hc i pins s σ H E I hf st hg
    subst hP hw hK
    obtain ⟨⟨old, he⟩, hit, hne, hai, hae⟩ := st
    obtain ⟨xs, x, hq, hx⟩ := hg
    obtain ⟨its, rv, p, hz⟩ := I.tuple hq
    obtain ⟨u, hu, ru⟩ := rv.get hx
    have hel : e < s.heap.objs.size := Heap.lt_size he
    have hil : it < s.heap.objs.size := by obtain ⟨_, q, _⟩ := hit; exact Heap.lt_size q
    have hilt : i < its.toArray.size := by
      have := (List.getElem?_eq_some_iff.mp hu).1
      simpa using this
    have DD := Draws.tuple (prog := X.prog) (w := X.w) (A := X.A.in1) (show X.A.in1.handled = none from I.ok.hd hc) it a hai its.toArray
    refine wpAny_pyNext_enum_itemD DD he ⟨hit, (show s.heap.IsTuple a its.toArray from p)⟩ hilt hne (by simp [hne]; exact fun z => hae z.symm) fun y h' tk hy ho hit' hT hsz hk => ?_
    have ey : u = y := by
      have hy : its.toArray[i]? = some y := hy
      have : its[i]? = some y := by simpa using hy
      exact Option.some.inj (hu.symm.trans this)
    subst ey
    refine ⟨_, rfl, wpAny_letOwnedTupleGo_enum (s := { s with heap := h', toks := tk + 1 }) ho fun h'' he' sb => ?_⟩
    have hT2 : h''.get? s.heap.objs.size = some { cls := .type "tuple", data := .seq #[.int i tk, u] } := (sb.2 _ (Nat.ne_of_gt hel)).trans hT
    have new : ObjOk X.prog X.w (upd H s.heap.objs.size (.tup [.int (i : Nat), x])) h'' s.heap.objs.size (.tup [.int (i : Nat), x]) :=
      ⟨by show 2 ≤ sizeLine; decide, [.int i tk, u], .cons ⟨_, rfl⟩ (.cons ru .nil), ⟨_, hT2, rfl, _, rfl⟩⟩
    have I1 : Inv X pins σ (upd H s.heap.objs.size (.tup [.int (i : Nat), x])) { s with heap := h'', toks := tk + 1 } :=
      I.turnedNew (ch := [e, it]) (fun b ob hb q => (sb.2 b (fun z => hb (by simp [z]))).trans (hk b ob (fun z => hb (by simp [z])) (fun z => hb (by simp [z])) q)) hf (Nat.le_refl _) new
    refine ⟨.ref s.heap.objs.size, _, I1, rfl, ⟨_, x, rfl, I.hok.fresh (Nat.le_refl _), rfl, fun ys hy => by rw [I.tuple_inj hy hq]; exact hx⟩, ⟨⟨u, ?_⟩, hit'.1.at fun o q => (sb.2 it (Ne.symm hne)).trans q, hne, hai, hae⟩, fun b hb => ?_⟩
    · have e1 : ((i + 1 : Nat) : Int) = (i : Int) + 1 := by omega
      rw [e1]; exact he'
    · have hb' : b < s.heap.objs.size := by
        have e' : b = e ∨ b = it := by simpa using hb
        rcases e' with z | z
        · rw [z]; exact hel
        · rw [z]; exact hil
      rw [upd_ne (Nat.ne_of_lt hb')]
      exact (hf b hb).1
  done := by
    intro X hP hw hK hc i pins s σ H E I hf st hg
    subst hP hw hK
    obtain ⟨⟨old, he⟩, hit, hne, hai, hae⟩ := st
    obtain ⟨xs, hq, hx⟩ := hg
    obtain ⟨its, rv, p, hz⟩ := I.tuple hq
    obtain ⟨f0, f1, f2, f3, f4, f5⟩ := hf it (by simp)
    have hl := rv.length
    have en : its.toArray.size = i := by simp; omega
    have DD := Draws.tuple (prog := X.prog) (w := X.w) (A := X.A.in1) (show X.A.in1.handled = none from I.ok.hd hc) it a hai its.toArray
    rw [en] at DD
    exact wpAny_pyNext_enum_endD DD he ⟨hit, (show s.heap.IsTuple a its.toArray from p)⟩ fun h' eb => ⟨rfl, I.turned (t' := s.toks) (fun b o hb q => eb b o hb q) f0 f1 f3 f4 f5⟩
  self := fun A i s Q E st h => let ⟨⟨_, he⟩, _⟩ := st; wpAny_pyIter_enum he h
def iEnumT (K : PySem.W.Frag) (ta : TA) : TI := fun σ H R => ta σ H fun vs H1 => ∃ a xs, vs = [.ref a] ∧ SqT K H1 a xs ∧ R (IteT K a) H1
theorem pi_enumT {X : Cx} {e : Expr} {ta : TA} {p pos tpos : Pos} {elts : List Expr} {kk : Nat} (hg : Gl X "enumerate") (hm : X.mg "enumerate" = none) (ha : PA X [e] ta) (hs : starEach [e] X.env = [(false, eval e X.env)] := by rfl) :
    PI X (.Tuple elts kk tpos) (.Call (.Name "enumerate" p) [e] [] pos) (iEnumT X.K ta) := by
  refine ⟨fun pins s σ H R I h => ?_⟩
  refine Call_ (ld_blt I hg hm boot_enumerate (PyProof.Rows.callWith_type1 (thn (ha.run pos pins s σ H _ I h) fun us s1 ⟨vs, H1, I1, r1, q1⟩ => ?_) hs rfl))
  obtain ⟨a, xs, ex, hq, q⟩ := q1
  subst ex
  cases r1 with
  | cons r rr =>
    cases rr
    cases r
    obtain ⟨its, rv, p', hz⟩ := I1.tuple hq
    have hal : a < s1.heap.objs.size := IsTup.lt p'
    refine ms_enum_tuple (show s1.heap.IsTuple a its.toArray from p') fun h' he hit hsz hk => wpAny_pyIter_enum he ?_
    have I2 : Inv X pins σ H1 { s1 with heap := h' } := I1.kept (t' := s1.toks) hk
    refine ⟨s1.heap.objs.size + 1, [s1.heap.objs.size + 1, s1.heap.objs.size], _, _, H1, rfl, I2, turn_enumT a (s1.heap.objs.size + 1) s1.heap.objs.size, ⟨⟨.none, he⟩, hit, Nat.succ_ne_self _, Nat.ne_of_lt hal, Nat.ne_of_lt (Nat.lt_succ_of_lt hal)⟩, fun b hb => ?_, q⟩
    have e' : b = s1.heap.objs.size + 1 ∨ b = s1.heap.objs.size := by simpa using hb
    have hle : s1.heap.objs.size ≤ b := by
      rcases e' with z | z
      · rw [z]; exact Nat.le_add_right _ _
      · rw [z]; exact Nat.le_refl _
    exact I1.fpOk hle (I1.hok.fresh hle)
theorem walk_enumT {K : PySem.W.Frag} {a : Addr} {xs : List V} : Walk (IteT K a) xs.length (fun H => SqT K H a xs) (YPair (fun i => some (.int (i : Nat))) (fun i => xs[i]?)) where
  goes := fun i H hi hG => ⟨xs, xs[i], hG, List.getElem?_eq_getElem hi⟩
  stops := fun H hG => ⟨xs, hG, rfl⟩
  yields := fun i H v H' hi hG hy => by
    obtain ⟨T, x, hv, hT, hH, hx⟩ := hy
    exact ⟨T, _, x, hv, hT, hH, rfl, hx xs hG⟩
/-! ### list(text) -/
theorem call_list_text {X : Cx} (hc : X.calm = true) : CallR X (.type "list") (fun xs H Q => ∃ z : Str, xs = [.str z] ∧ z.length ≤ sizeLine ∧ ∀ l, H l = none → Q (.ref l) (upd H l (.lst (z.cps.toList.map fun c => V.str ⟨#[c]⟩)))) := by
  intro pins s σ H xs us Q I r h
  obtain ⟨z, rfl, hz, q⟩ := h
  obtain ⟨u, rfl, rx⟩ := vals1 r
  obtain ⟨t, rfl⟩ := rx
  refine call_list_str (I.ok.hd hc) z t (fun h' tk acc' c' hk ho hacc => ?_) hz
  have hv : Vals (z.cps.toList.map fun c => V.str ⟨#[c]⟩) acc'.toList := by
    have hlen : (z.cps.toList.map fun c => V.str ⟨#[c]⟩).length = acc'.toList.length := by simp [hacc.1]
    have hget : ∀ (i : Nat) (v : V) (u : Value), (z.cps.toList.map fun c => V.str ⟨#[c]⟩)[i]? = some v → acc'.toList[i]? = some u → RelV v u := by
      intro i v u hv hu
      obtain ⟨c, t, hc', rfl⟩ := hacc.2 i u (by simpa using hu)
      rw [List.getElem?_map] at hv
      have hc' : z.cps.toList[i]? = some c := by simpa using hc'
      rw [hc'] at hv
      cases hv
      exact ⟨t, rfl⟩
    revert hlen hget
    generalize (z.cps.toList.map fun c => V.str ⟨#[c]⟩) = xs
    generalize acc'.toList = us
    intro hlen hget
    induction xs generalizing us with
    | nil =>
      cases us with
      | nil => exact .nil
      | cons a r => simp at hlen
    | cons x xs ih =>
      cases us with
      | nil => simp at hlen
      | cons a r => exact .cons (hget 0 _ _ rfl rfl) (ih r (by simpa using hlen) fun i v u hv hu => hget (i + 1) v u (by simpa using hv) (by simpa using hu))
  have hln : (z.cps.toList.map fun c => V.str ⟨#[c]⟩).length ≤ sizeLine := by
    rw [List.length_map]
    exact hz
  exact ⟨.ref s.heap.objs.size, _, I.laid (a := s.heap.objs.size) (o := .lst (z.cps.toList.map fun c => V.str ⟨#[c]⟩)) hk (Nat.le_refl _) ⟨hln, acc'.toList, c', hv, by simpa using ho⟩, rfl, q _ (I.hok.fresh (Nat.le_refl _))⟩
/-! ### text * int -/
theorem op_mul_text {X : Cx} : OpR X (binaryOp .Mult) (fun x y H Q => ∃ (z : Str) (k : Nat), x = .str z ∧ y = .int k ∧ 2 ≤ k ∧ k ≤ 1000 ∧ 0 < z.length ∧ z.length ≤ 1000 ∧ Q (.str ⟨(List.replicate k z.cps.toList).flatten.toArray⟩) H) := by
  intro pins s σ H x y v u Q I rx ry h
  obtain ⟨z, k, rfl, rfl, h2, hk, h0, hz, q⟩ := h
  obtain ⟨t, rfl⟩ := rx
  obtain ⟨t2, rfl⟩ := ry
  have e : (⟨(List.replicate (k : Int).toNat z.cps).foldl (· ++ ·) #[]⟩ : Str) = ⟨(List.replicate k z.cps.toList).flatten.toArray⟩ := by
    have g : ∀ (n : Nat) (acc : Array Nat), (List.replicate n z.cps).foldl (· ++ ·) acc = (acc.toList ++ (List.replicate n z.cps.toList).flatten).toArray := by
      intro n
      induction n with
      | zero => intro acc; simp
      | succ n ih =>
        intro acc
        rw [List.replicate_succ, List.foldl_cons, ih, List.replicate_succ, List.flatten_cons]
        simp
    rw [Int.toNat_natCast, g]
    simp
  have hb : (z.length : Int) * 1000 ≤ 1000000 := by omega
  refine P.mul_str (by
      have h1 : ¬ ((k : Int) < -(2 ^ 63)) := by omega
      have h2 : ¬ ((k : Int) ≥ 2 ^ 63) := by omega
      rw [decide_eq_false h1, decide_eq_false h2]; rfl) (fun _ _ z2 => ?_) (fun _ _ => ?_) ?_
  · have : (2 ^ 63 - 1 : Int) / k ≥ (2 ^ 63 - 1) / 1000 := by
      have hkp : (0 : Int) < k := by omega
      rw [ge_iff_le, Int.le_ediv_iff_mul_le hkp]
      have : ((2 : Int) ^ 63 - 1) / 1000 * k ≤ (2 ^ 63 - 1) / 1000 * 1000 := Int.mul_le_mul_of_nonneg_left (by omega) (by decide)
      have e2 : ((2 : Int) ^ 63 - 1) / 1000 * 1000 ≤ 2 ^ 63 - 1 := by decide
      omega
    have e3 : ((2 : Int) ^ 63 - 1) / 1000 ≥ 1000 := by decide
    omega
  · rw [Int.toNat_natCast]
    have : z.length * k ≤ 1000 * 1000 := Nat.mul_le_mul hz hk
    unfold Builtin.Str.tooLong
    simp [sizeLine_eq]
    omega
  · rw [if_neg (by omega), if_neg (by
      have a1 : ((k : Int) == 1) = false := beq_eq_false_iff_ne.mpr (by omega)
      have a2 : (z.length == 0) = false := beq_eq_false_iff_ne.mpr (by omega)
      rw [a1, a2]; decide), e]
    refine ⟨?_, ?_⟩
    · show ((List.replicate k z.cps.toList).flatten.toArray).size ≤ sizeLine
      have : ((List.replicate k z.cps.toList).flatten.toArray).size = k * z.length := by
        simp [List.length_flatten, List.sum_replicate_nat]
        rfl
      have h3 : k * z.length ≤ 1000 * 1000 := Nat.mul_le_mul hk hz
      rw [this, sizeLine_eq]
      omega
    · exact ⟨.str _, H, I.tok _, ⟨_, rfl⟩, q⟩
/-! ### None in a tuple whose items are None or tuples -/
def NoT (K : PySem.W.Frag) (H : Hp) (z : V) : Prop := z = .non ∨ (∃ i, z = .int i) ∨ ∃ a xs, z = .ref a ∧ SqT K H a xs
theorem noT_eq {X : Cx} {A : Around} {pins : List (Addr × Obj)} {σ : St} {H : Hp} {s : Shared} (I : Inv X pins σ H s) (hu : A.units < cLine) {z : V} {u : Value} (r : RelV z u) (f : NoT X.K H z) : SeqAt.EqAt A s u .none (decide (z = .non)) := by
  rcases f with rfl | ⟨i, rfl⟩ | ⟨a, xs, rfl, ha⟩
  · cases r
    exact SeqAt.EqAt.same _
  · obtain ⟨t, rfl⟩ := r
    exact SeqAt.EqAt.int_none i t
  · cases r
    obtain ⟨its, rv, p, hz⟩ := I.tuple ha
    exact SeqAt.EqAt.tuple_none (show s.heap.IsTuple a its.toArray from p) hu
def isNonV (z : V) : Bool := decide (z = .non)
def nonU (u : Value) : Bool := match u with
  | .none => true
  | _ => false
theorem nonU_of {K : PySem.W.Frag} {H : Hp} {z : V} {u : Value} (r : RelV z u) (f : NoT K H z) : nonU u = isNonV z := by
  rcases f with rfl | ⟨i, rfl⟩ | ⟨a, xs, rfl, ha⟩
  · cases r
    rfl
  · obtain ⟨t, rfl⟩ := r
    rfl
  · cases r
    rfl
theorem any_nonU {K : PySem.W.Frag} {H : Hp} : ∀ {xs : List V} {us : List Value}, Vals xs us → (∀ z ∈ xs, NoT K H z) → us.any nonU = xs.any isNonV
  | _, _, .nil, _ => rfl
  | y :: xs, u :: us, .cons r t, f => by
    rw [List.any_cons, List.any_cons, nonU_of r (f y List.mem_cons_self), any_nonU t fun z hz => f z (List.mem_cons_of_mem _ hz)]
theorem mem_nonU {X : Cx} {A : Around} {pins : List (Addr × Obj)} {σ : St} {H : Hp} {s : Shared} (I : Inv X pins σ H s) (hu : A.units < cLine) : ∀ {xs : List V} {us : List Value}, Vals xs us → (∀ z ∈ xs, NoT X.K H z) → ∀ u ∈ us, SeqAt.EqAt A s u .none (nonU u)
  | _, _, .nil, _ => fun u hu' => by cases hu'
  | y :: xs, u :: us, .cons r t, f => fun u' hu' => by
    rcases List.mem_cons.mp hu' with e | hu'
    · subst e
      rw [nonU_of r (f y List.mem_cons_self)]
      exact noT_eq I hu r (f y List.mem_cons_self)
    · exact mem_nonU I hu t (fun z hz => f z (List.mem_cons_of_mem _ hz)) u' hu'
def rNoneT (K : PySem.W.Frag) : R2 := fun x y H Q => ∃ p xs, x = .non ∧ y = .ref p ∧ SqT K H p xs ∧ (∀ z ∈ xs, NoT K H z) ∧ Q (.bl (xs.any isNonV)) H
theorem op_noneT {X : Cx} (hu : X.A.units + 64 < cLine) : OpR X (compareOp .In) (rNoneT X.K) := by
  intro pins s σ H x y v u Q I rx ry h
  obtain ⟨p, xs, rfl, rfl, hq, f, q⟩ := h
  cases rx
  cases ry
  obtain ⟨its, rv, hl, _⟩ := I.tuple hq
  have hu1 : X.A.in1.units < cLine := by show X.A.units + 1 < cLine; omega
  refine SeqAt.in_tupleAt nonU (show s.heap.IsTuple p its.toArray from hl) (fun z hz => mem_nonU I hu1 rv f z (by simpa using hz)) ⟨.bl _, H, I, rfl, ?_⟩
  rw [show its.toArray.any nonU = its.any nonU by simp, any_nonU rv f]
  exact q
end L2

set_option Elab.async false
set_option linter.all false
set_option maxRecDepth 100000
set_option maxHeartbeats 4000000
/-! # Own errors over a class of the text over ValueError, whose __init__ says super().__init__(index); self.index = index -/
namespace PySem
namespace MsX
open PySem.W PySem.Calls PyProof.Rows PySem.HandSPX
def iA (p1 p2 : Pos) : Arguments := { posonlyargs := [], args := [{ arg := "self", annotation := none, pos := p1 }, { arg := "index", annotation := none, pos := p2 }], vararg := none, kwonlyargs := [], kw_defaults := [], kwarg := none, defaults := [] }
def iB (r1 r2 r3 r4 r5 r6 q1 q2 q3 q4 : Pos) : List Stmt :=
  [.Expr (.Call (.Attribute (.Call (.Name "super" r1) [] [] r2) "__init__" r3) [.Name "index" r4] [] r5) r6,
   .Assign [.Attribute (.Name "self" q1) "index" q2] (.Name "index" q3) q4]
def iS : Scope := { kind := .function, names := [(PySem.Str.ofString "self", .local), (PySem.Str.ofString "index", .local), (PySem.Str.ofString "__class__", .free), (PySem.Str.ofString "super", .globalImplicit)], isGenerator := false, isCoroutine := false }
/-- what the written part says of such a class (its name nm, its __init__'s qualname qn), at C, and of its __init__, at fI -/
structure BadTxt (P : Program) (K : Frag) (mg : Str → Option Value) (nm qn : Str) (C fI : Addr) : Prop where
  gC : mg nm = some (.ref C)
  cls : ∃ nm' q N bs bm sn sub ab col dd k0 k1 k2 k3 k5, K.lookup C = some (excClassObj nm' q C N bs bm true sn sub ab col dd k0 k1 k2 k3 k5 "ValueError.__new__") ∧ refsVE bm = true
  sa : findIn K (.ref C) "__setattr__" = some (some (.builtin "object.__setattr__"))
  ga : findIn K (.ref C) "__getattribute__" = some (some (.builtin "BaseException.__getattribute__"))
  gg : findIn K (.ref C) "__getattr__" = some none
  noN : findIn K (.ref C) "index" = some none
  iC : findIn K (.ref C) "__init__" = some (some (.ref fI))
  tC : typeIn K (.ref fI) = some (.type "function")
  kC : keepIn K (.ref C) = true
  exC : subIn K (.ref C) (.type "BaseException") = some true
  vC : subIn K (.ref C) (.type "ValueError") = some true
  tyC : typeIn K (.ref C) = some (.type "type")
  hdC : hasDictIn K C = true
  su : ks_superIn K C C "__init__" = some (some (.builtin "ValueError.__init__"))
  slf : mroIn K C (.ref C) = some true
  op : nsIn K cStatics "thirdparty.any" = some none
  gS : mg "super" = none
  top : (P.main.scope.names.lookup ("super" : Str)).isSome = false
  fn : ∃ (oc : Value) (od : Option Addr) (doc pm : Value) (an : Option Addr) (cda cc : Addr) (ct : Value) (osl : Array (Option Value)) (p1 p2 r1 r2 r3 r4 r5 r6 q1 q2 q3 q4 : Pos),
    (r3.endLine == r5.line) = true ∧ K.lookup fI = some ⟨oc, od, .func (ksFn "__init__" qn (iA p1 p2) (iB r1 r2 r3 r4 r5 r6 q1 q2 q3 q4) iS .none .none doc pm an (.ref cda) ct cc), osl⟩ ∧ codeIn K (.ref cda) qn = true ∧
    (∃ oc cd cs vs file tf, K.lookup cda = some ⟨oc, cd, .fields vs, cs⟩ ∧ vs[2]? = some (.str file tf) ∧ ((P.main.file : Str) == file) = true) ∧
    ∃ ol cl csl, K.lookup cc = some ⟨ol, cl, .cell (some (.ref C)), csl⟩
theorem one_size (v : Value) : [v].length ≤ sizeLine := by
  rw [sizeLine_eq]
  exact (by decide : 1 ≤ 16777216)
theorem ldC {M : Model} {s : Shared} {env : Env} {m : Str → Option Value} {x : Str} {pos : Pos} {v : Value} {Q : Value → Shared → Prop} {A : Around} {E : Value → Shared → Prop} (hn : s.heap.Ns env.locals m) (hv : m x = some v) (h : Q v s)
    (hk : env.scope.kind = .function := by rfl) (hl : env.kindOf x = some .local := by rfl) (hd : (x == ("__debug__" : Str)) = false := by decide) : wpAny M A (eval (.Name x pos) env) Q E s := wpAny_Name (wpAny_loadName_local hk hl hn hv h) hd
/-- what __init__ leaves of a fresh exception at x -/
structure InitEnd (h h' : Heap) (x C dx : Addr) (v : Value) : Prop where
  keep : ∀ b o, b ≠ x → h.get? b = some o → h'.get? b = some o
  obj : ∃ t1 : Addr, h'.get? x = some { cls := .ref C, dict := some dx, data := .fields #[.ref t1, .none, .none, .none, .bool false, .none] }
  dbig : h.objs.size ≤ dx
  dne : dx ≠ x
  ns : h'.Ns1 dx (fun y => if y = "index" then some v else none)
structure OwnMade (h h' : Heap) (e C d : Addr) (v : Value) : Prop where
  keep : ∀ b o, h.get? b = some o → h'.get? b = some o
  new : h.objs.size ≤ e
  obj : ∃ oe vs, h'.get? e = some oe ∧ oe.cls = .ref C ∧ oe.dict = some d ∧ oe.data = .fields vs ∧ vs[1]? = some .none
  dbig : h.objs.size ≤ d
  dne : d ≠ e
  ns : h'.Ns1 d (fun y => if y = "index" then some v else none)
section
variable {P : Program} {w : World} {A : Around} {E : Value → Shared → Prop} {R : Result → Shared → Prop} {s : Shared} {K : Frag} {mg mb : Str → Option Value} {nm qn : Str} {C fI : Addr}
/-- super().__init__(v), the wrapper called -/
theorem call_mw {h : Heap} {g : Array GenState} {d : Drawn} {t : Nat} {os : OsState} {nm' q : Str} {N : Addr} {bs bm : List Value} {hdct : Bool} {sn : List Str} {sub : List Value} {ab : Bool} {col : Option Bool} {dd : Option Addr} {k0 k1 k2 k3 k5 : Option Value}
    {u e t0 : Addr} {rest : List Value} {Q : Value → Shared → Prop}
    (hC : h.get? C = some (excClassObj nm' q C N bs bm hdct sn sub ab col dd k0 k1 k2 k3 k5 "ValueError.__new__")) (he : h.get? e = some (excO C t0)) (hu : h.get? u = some (kxs_mw "ValueError.__init__" e)) (hrest : rest.length ≤ sizeLine)
    (hq : ∀ h' t1, (∀ b o, b ≠ e → h.get? b = some o → h'.get? b = some o) → h'.get? e = some (excO C t1) → Q .none ⟨h', g, d, t, os⟩) :
    wpAny (model P w) A (call (.ref u) rest) Q E ⟨h, g, d, t, os⟩ := by
  refine wpAny_call (codeAny_of_tree ?_)
  show wpAny _ A.in1 (callAny (.ref u) ⟨rest, []⟩) _ _ _
  simp only [callAny]
  refine wpAny_bind (wpAny_load hu ?_)
  simp only [kxs_mw, show (Value.type "method-wrapper" == Value.type "method" || Value.type "method-wrapper" == Value.type "builtin_function_or_method" || Value.type "method-wrapper" == Value.type "method-wrapper") = true by decide, if_true]
  refine KFB.if_so (by decide) ?_
  refine wpAny_bind (check_bound_init F.excBase_ValueError.toExcCallFacts hC he rfl ?_)
  refine wpAny_bind (wpAny_pure (wpAny_pure ?_))
  refine ⟨plainId_quiet F.excBase_ValueError.init.plain _, codeAny_builtin F.excBase_ValueError.initEntry ?_⟩
  exact exc_init_tree (cls := .ref C) (t0 := t0) (dv := none) (c2 := .none) (c3 := .none) (b4 := .bool false) he hrest fun h' k e' _ => hq h' _ k e'
theorem bad_init (T : BadTxt P K mg nm qn C fI) {x t0 : Addr} {v : Value} (X : K.In s.heap) (G : s.heap.Ns mainGlobals mg) (B : s.heap.Ns builtinsNs mb) (hb : mb "super" = some (.type "super")) (hlim : s.heap.NoLimit) (hx : s.heap.get? x = some (excO C t0)) (hxK : K.lookup x = none) (hroom : A.depth < recursionLimit)
    (hq : ∀ h' tk dx, InitEnd s.heap h' x C dx v → R (.ok (.ret .none)) { s with heap := h', toks := tk }) :
    codeAny (model P w) A (.call (.ref fI) ⟨[.ref x, v], []⟩) R s := by
  obtain ⟨oc, od, doc, pm, an, cda, cc, ct, osl, p1, p2, r1, r2, r3, r4, r5, r6, q1, q2, q3, q4, hl, ho, hcd, ⟨oc2, cd2, cs2, vs2, file, tf, hcode, hvs, hfile⟩, ol, cl, csl, hcell⟩ := T.fn
  obtain ⟨nm', q, N, bs, bm, sn, sub, ab, col, dd, k0, k1, k2, k3, k5, hC, hbm⟩ := T.cls
  have hcl : clsIn K C = some { name := nm', bases := bs, mro := .ref C :: bm, ns := N, qualname := q, hasDict := true, slotNames := sn, subclasses := sub, abstract := ab, collection := col, hasDel := false } := by unfold clsIn; rw [hC] <;> rfl
  refine ks_codeAny_call_defAt (fd := ksFn "__init__" qn (iA p1 p2) (iB r1 r2 r3 r4 r5 r6 q1 q2 q3 q4) iS .none .none doc pm an (.ref cda) ct cc) (body := iB r1 r2 r3 r4 r5 r6 q1 q2 q3 q4) (binds := [("self", .ref x), ("index", v)]) hroom (X _ _ ho) rfl hlim (codeRec_of X hcd) rfl
    (BindsTo.of_eq (by first | rfl | with_unfolding_all rfl)) (show ∀ y ∈ iS.names, y.2 ≠ .cell by decide +kernel) (fun y hy => by
      have e1 : iS.names.lookup ("self" : Str) = some .local := by decide +kernel
      have e2 : iS.names.lookup ("index" : Str) = some .local := by decide +kernel
      rcases List.mem_cons.mp hy with rfl | hy
      · exact e1
      · rw [List.mem_singleton.mp hy]
        exact e2) (fun h₁ hns k => ?_) rfl rfl rfl
  have hxL : s.heap.objs.size ≠ x := Nat.ne_of_gt (Heap.lt_size hx)
  have X₁ : K.In h₁ := X.keeps k
  have G₁ := G.keeps k
  have B₁ := B.keeps k
  have hx₁ := k _ _ hx
  obtain ⟨hp, g, dr, tk, os⟩ := s
  have hev : ∀ env : Env, methodCallForm 1 (backTo r5 (starEach [Expr.Name "index" r4] env)) [] = true → eval (.Call (.Attribute (.Call (.Name "super" r1) [] [] r2) "__init__" r3) [.Name "index" r4] [] r5) env = (do
      let ov ← attributeBase (.Call (.Name "super" r1) [] [] r2) "__init__" env (eval (.Call (.Name "super" r1) [] [] r2) env)
      standAt r3.atName
      let (f, first) ← holding [ov] (getMethod ov "__init__" (do return (← importBound (.Call (.Name "super" r1) [] [] r2) env).getD true))
      callWith r5 f first (backTo r5 (starEach [Expr.Name "index" r4] env)) []) := fun env hf => by
    show (attributeBase (.Call (.Name "super" r1) [] [] r2) "__init__" env (eval (.Call (.Name "super" r1) [] [] r2) env) >>= fun ov => standAt r3.atName >>= fun _ =>
      methodCall (.Call (.Name "super" r1) [] [] r2) "__init__" r3 r5 env ov 1 (backTo r5 (starEach [Expr.Name "index" r4] env)) []) = _
    unfold methodCall
    rw [hf]
    have hmp : methodCallPos true (.Call (.Name "super" r1) [] [] r2) env r3 r5 = pure r5 := by
      unfold methodCallPos
      rw [hl]
      rfl
    rw [hmp]
    rfl
  refine ks_wpAt_execs_cons (ks_wpAt_Expr_any (ks_wpAt_MethodCall ?_ (hev _ (by rfl))))
  refine ks_wpAt_super_base rfl rfl (by decide) rfl (X₁ _ _ ho) rfl rfl rfl (X₁ _ _ hcode) rfl hvs hfile T.top ?_
  refine ks_loadName_global rfl rfl (loadGlobal_builtin G₁ T.gS B₁ hb ⟨rfl, ?_⟩)
  refine wpAny_loadName_free rfl rfl rfl ⟨_, X₁ _ _ hcell, rfl⟩ ?_
  refine wpAny_loadName_local rfl rfl hns (v := .ref x) (by rfl) ?_
  have hC₁ := X₁ _ _ hC
  refine ks_wpAny_isType_cls hC₁ rfl ⟨rfl, ?_⟩
  refine ks_wpAny_call_super hC₁ rfl hx₁ rfl (fun c e => by cases e) (looks_mroIn X₁ T.slf) (fun h₂ hso k₂ => ?_)
  have X₂ : K.In h₂ := X₁.keeps k₂
  have hx₂ := k₂ _ _ hx₁
  have I₂ : InstAt h₂ x (excO C t0) C none := ⟨hx₂, rfl, rfl, trivial⟩
  have hI : Looks (model P w) h₂ (isInstance (.ref x) (.type "ValueError")) true := I₂.type.andThen (looks_subIn X₂ T.vC)
  have hal : alongIn K "__init__" bm = some (some (.builtin "ValueError.__init__")) := by
    have z := T.su
    unfold ks_superIn at z
    rw [hcl] at z
    simpa using z
  refine kxs_getMethod kxs_ValueError hso (looks_opaque X₂ T.op) (l₀ := .ref C :: bm) (l := bm) (fun A Q E s k q => wpAny_bind ((looks_clsIn X₂ hcl) A _ E s k (wpAny_pure q))) (by simp) X₂ hal hI (ks_ne X₂ I₂ hcl) (by decide) ?_
  have k₃ : ∀ b o, h₂.get? b = some o → (h₂.push (kxs_mw "ValueError.__init__" x)).get? b = some o := fun b o e => Heap.get?_push_of_some _ e
  have hu : (h₂.push (kxs_mw "ValueError.__init__" x)).get? h₂.objs.size = some (kxs_mw "ValueError.__init__" x) := Heap.get?_push_at rfl rfl
  have hns₃ := (hns.keeps k₂).keeps k₃
  refine kxs_callWith (i := "ValueError.__init__") (x := x) rfl (evalArgs_plain (Calls.spliced_cons (ldC hns₃ (v := v) (by rfl) (Calls.spliced_nil ⟨hu, ?_⟩))))
  refine call_mw ((X₂.keeps k₃) _ _ hC) (k₃ _ _ hx₂) hu (one_size v) fun h₄ t1 k₄ hx₄ => ?_
  have kk : ∀ b o, b ≠ x → h₁.get? b = some o → h₄.get? b = some o := fun b o hb e => k₄ b o hb (k₃ _ _ (k₂ _ _ e))
  have X₄ : K.In h₄ := fun a o e => by
    by_cases ha : a = x
    · rw [ha, hxK] at e
      cases e
    · exact kk a o ha (X₁ _ _ e)
  have hns₄ : h₄.Ns hp.objs.size (fun y => List.lookup y [(PySem.Str.ofString "self", Value.ref x), (PySem.Str.ofString "index", v)].reverse) := hns.at fun o e => kk _ o hxL e
  show _root_.PySem.wpAt (model P w) _ _ (execs [.Assign [.Attribute (.Name "self" q1) "index" q2] (.Name "index" q3) q4] _) _ _ _
  refine ks_wpAt_execs_cons (ks_wpAt_Assign_Attr ?_)
  have ev1 : (fun y => List.lookup y [(PySem.Str.ofString "self", Value.ref x), (PySem.Str.ofString "index", v)].reverse) (PySem.Str.ofString "index") = some v := by rfl
  have ev2 : (fun y => List.lookup y [(PySem.Str.ofString "self", Value.ref x), (PySem.Str.ofString "index", v)].reverse) (PySem.Str.ofString "self") = some (.ref x) := by rfl
  refine wpAt_of_wpAny (ldC hns₄ ev1 ?_)
  refine ldC hns₄ ev2 ?_
  refine set_plain X₄ (ox := excO C t1) (od := none) ⟨hx₄, rfl, rfl, trivial⟩ T.sa ?_
  refine exc_osa X₄ hx₄ hcl (show refsVE (.ref C :: bm) = true from hbm) rfl T.noN (fun h₅ tk₅ dx k₅ dn dne hx₅ hn₅ => ?_)
  refine wpAt_of_wpAny (wpAny_execs_nil ?_)
  have z : hp.objs.size ≤ h₄.objs.size := by
    obtain ⟨o, es, ep, e, _⟩ := hns₄
    exact Nat.le_of_lt (Heap.lt_size e)
  exact hq h₅ tk₅ dx ⟨fun b o hb e => k₅ b o hb (kk b o hb (k b o e)), ⟨t1, hx₅⟩, Nat.le_trans z dn, dne, hn₅⟩
theorem bad_made (T : BadTxt P K mg nm qn C fI) {v : Value} (X : K.In s.heap) (G : s.heap.Ns mainGlobals mg) (B : s.heap.Ns builtinsNs mb) (hb : mb "super" = some (.type "super")) (hlim : s.heap.NoLimit) (hroom : A.depth + 1 < recursionLimit)
    (hq : ∀ h' tk e d, OwnMade s.heap h' e C d v → R (.ok (.ret (.ref e))) { s with heap := h', toks := tk }) :
    codeAny (model P w) A (.call (.ref C) ⟨[v], []⟩) R s := by
  obtain ⟨nm', q, N, bs, bm, sn, sub, ab, col, dd, k0, k1, k2, k3, k5, hC, hbm⟩ := T.cls
  obtain ⟨hp, g, dr, tk, os⟩ := s
  have k : ∀ b o, hp.get? b = some o → ((hp.push (kdv_tup [v])).push (excO C hp.objs.size)).get? b = some o := fun b o e => Heap.get?_push_of_some _ (Heap.get?_push_of_some _ e)
  have hget : ((hp.push (kdv_tup [v])).push (excO C hp.objs.size)).get? (hp.objs.size + 1) = some (excO C hp.objs.size) := by heap_get
  have hnx : K.lookup (hp.objs.size + 1) = none := by
    cases e : K.lookup (hp.objs.size + 1) with
    | none => rfl
    | some o =>
      have z : hp.get? (hp.objs.size + 1) = some o := X _ _ e
      exact absurd (Nat.lt_of_succ_lt (Heap.lt_size z)) (Nat.lt_irrefl _)
  refine call_own F.excBase_ValueError (fun X => refsVE_contains X bm hbm) (X _ _ hC) (looks_findIn X T.iC) (fun self => bind_fn X self T.tC) (one_size v) ?_
  refine bad_init (s := ⟨(hp.push (kdv_tup [v])).push (excO C hp.objs.size), g, dr, tk, os⟩) T (X.keeps k) (G.keeps k) (B.keeps k) hb (hlim.keeps k) hget hnx ?_ fun h' tk' dx ⟨k', hx, dn, dne, hns⟩ => ?_
  · show A.depth + 1 < recursionLimit
    exact hroom
  · have old : ∀ b o, hp.get? b = some o → h'.get? b = some o := fun b o e => k' b o (Nat.ne_of_lt (Nat.lt_succ_of_lt (Heap.lt_size e))) (k b o e)
    have z : hp.objs.size + 1 + 1 ≤ dx := by
      first
        | (simpa only [Heap.size_push] using dn)
        | exact dn
        | (have q := dn; rw [Heap.size_push, Heap.size_push] at q; exact q)
    obtain ⟨t1, hx⟩ := hx
    exact ⟨rfl, hq h' tk' (hp.objs.size + 1) dx ⟨old, Nat.le_succ _, ⟨_, _, hx, rfl, rfl, rfl, rfl⟩, Nat.le_trans (Nat.le_trans (Nat.le_succ _) (Nat.le_succ _)) z, dne, hns⟩⟩
end
end MsX
end PySem
namespace L2
open PySem PySem.Spec PyProof.Rows
theorem relO_index {v : V} {v' : Value} (r : RelV v v') (f : Str) : RelO (List.lookup f [(("index" : Str), v)]) (if f = "index" then some v' else none) := by
  by_cases hw : f = "index"
  · subst hw
    rw [if_pos rfl]
    have q : List.lookup ("index" : Str) [(("index" : Str), v)] = some v := by simp [List.lookup]
    rw [q]
    exact r
  · rw [if_neg hw]
    have qw : (f == ("index" : Str)) = false := by simpa using hw
    have q2 : List.lookup f [(("index" : Str), v)] = none := by simp [List.lookup, qw]
    rw [q2]
    trivial
section
variable {X : Cx} {C fI : Addr} {nm qn : Str}
/-- Bad(e) -/
def tMkBad (C : Addr) (ta : TA) : St → Hp → XK → Prop := fun σ H Q => ta σ H fun vs H1 => ∃ v, vs = [v] ∧ ∀ d, H1 d = none → Q (.ref C) (some d) (upd H1 d (.xd [(("index" : Str), v)]))
theorem pmk_bad {a : Expr} {ta : TA} {p pos : Pos} {k : Nat} (T : PySem.MsX.BadTxt X.prog X.K X.mg nm qn C fI) (hr : Room k X.A) (ha : PA X [a] ta) (hg : Gl X nm := by rfl)
    (hd : (nm == ("__debug__" : Str)) = false := by decide)
    (he : starEach (a :: []) X.env = (false, eval a X.env) :: starEach [] X.env := by rfl) (hpl : (backTo pos (starEach [] X.env)).any (·.1) = false := by rfl) :
    PMk X (.Call (.Name nm p) [a] [] pos) (tMkBad C ta) := by
  intro pins s σ H Q I h
  refine wpAny_Call_Name_kw (ld_glob I hg T.gC ?_ hd)
  refine PySem.W.callWith_K (h₀ := X.base) I.ok.mod.kin T.kC (thn (ha.run pos pins s σ H _ I h) fun us s1 hh => ?_) he hpl
  obtain ⟨vs, H1, I1, r1, v, ev, q1⟩ := hh
  subst ev
  refine ⟨I1.kIn, ?_⟩
  cases r1 with
  | cons rv rn =>
    rename_i v' us'
    cases rn
    show wpAny _ _ (call (.ref C) [v']) _ _ _
    have hlim := I1.nolimit
    have hbk := I1.bk
    obtain ⟨mb, hmb, hmb2⟩ := I1.mod.blt
    have G1 := I1.mod.glob.keeps hbk
    have B1 := hmb.keeps hbk
    have hsup : mb "super" = some (.type "super") := (hmb2 "super" (by decide +kernel)).trans (by first | boot_by_name | rfl | kernel_rfl)
    obtain ⟨hp, g, dr, tk, os⟩ := s1
    refine wpAny_call (PySem.MsX.bad_made T I1.kIn G1 B1 hsup hlim (by have := hr.dp; omega) fun h' tk' e d M => ?_)
    show MkP X pins σ Q (.ref e) ⟨h', g, dr, tk', os⟩
    obtain ⟨oe, fv, hoe, hc, hd, hdat, h1⟩ := M.obj
    have hns := M.ns
    obtain ⟨G', g1, g2⟩ := restrict h' fun b => decide (b ≠ e)
    have gk : ∀ b, b ≠ e → G'.get? b = h'.get? b := fun b hb => g1 b (decide_eq_true hb)
    have ge : G'.get? e = none := g2 e (by simp)
    have old : ∀ b o, hp.get? b = some o → G'.get? b = some o := fun b o q => (gk b (Nat.ne_of_lt (Nat.lt_of_lt_of_le (Heap.lt_size q) M.new))).trans (M.keep b o q)
    have ob : ObjOk X.prog X.w (upd H1 d (.xd [(("index" : Str), v)])) G' d (.xd [(("index" : Str), v)]) :=
      ⟨_, hns.at (fun o q => (gk d M.dne).trans q), fun f => relO_index rv f⟩
    have J : Inv X pins σ (upd H1 d (.xd [(("index" : Str), v)])) ⟨G', g, dr, tk', os⟩ := I1.laid (t' := tk') old M.dbig ob
    refine ⟨e, oe, fv, ⟨G', g, dr, tk', os⟩, _, .ref C, some d, rfl, J, fun b o q => ?_, ge, hoe, ⟨hc, hd⟩, hdat, h1, ?_, rfl, I1.bare, raises_own T.exC T.tyC, q1 d (I1.hok.fresh M.dbig)⟩
    · by_cases hb : b = e
      · have q' : G'.get? b = some o := q
        rw [hb, ge] at q'; cases q'
      · exact (gk b hb).symm.trans q
    · rw [upd_ne (Ne.symm M.dne)]
      exact I1.hok.fresh M.new
/-- raise Bad(e) -/
def tRaiseBad (C : Addr) (W : WX) (ta : TA) : TS := fun _ σ H => tMkBad C ta σ H fun cls d H' => W cls d σ H'
theorem ps_raiseBad {a : Expr} {ta : TA} {W : WX} {p pos pos2 : Pos} {k : Nat} (hc : X.calm = true) (T : PySem.MsX.BadTxt X.prog X.K X.mg nm qn C fI) (hr : Room k X.A) (tk : Takes X W) (ha : PA X [a] ta) (hg : Gl X nm := by rfl)
    (hd : (nm == ("__debug__" : Str)) = false := by decide)
    (he : starEach (a :: []) X.env = (false, eval a X.env) :: starEach [] X.env := by rfl) (hpl : (backTo pos (starEach [] X.env)).any (·.1) = false := by rfl) :
    PS X (.Raise (some (.Call (.Name nm p) [a] [] pos)) none pos2) (tRaiseBad C W ta) := ps_raise hc tk (pmk_bad T hr ha hg hd he hpl)
/-- e.index, e the exception that the suite holds (at a; its class cls, its dict d) -/
def tByBad (C : Addr) (a : Addr) (cls : Value) (d : Option Addr) (te : TE) : TE := fun σ H Q => te σ H fun x H1 => x = .ref a ∧ cls = .ref C ∧ ∃ (dd : Addr) (v : V), d = some dd ∧ H1 dd = some (.xd [(("index" : Str), v)]) ∧ Q v H1
theorem pe_byBad {a : Addr} {oe : Obj} {cls : Value} {d : Option Addr} {pn : List (Addr × Obj)} {e : Expr} {te : TE} {pos : Pos} (T : PySem.MsX.BadTxt X.prog X.K X.mg nm qn C fI) (hz : Zc cls d oe) (hf : ∃ vs, oe.data = .fields vs) (he : PE (X.suite a ((a, oe) :: pn)) e te)
    (hb : attributeBase e "index" X.env (eval e X.env) = eval e X.env := by rfl) :
    PE (X.suite a ((a, oe) :: pn)) (.Attribute e "index" pos) (tByBad C a cls d te) := by
  refine ⟨fun pins s σ H Q I h => ?_⟩
  refine attr_of hb (thn (he.run pins s σ H _ I h) fun u s1 hh => ?_)
  obtain ⟨x, H1, I1, rx, ex, ec, dd, v, ed, ea, q⟩ := hh
  subst ex
  obtain rfl : u = Value.ref a := rx
  subst ec
  subst ed
  obtain ⟨ha, _⟩ := I1.pin (a, oe) (List.mem_append_left _ List.mem_cons_self)
  obtain ⟨vs, hd⟩ := hf
  have hx : ObjOk X.prog X.w H1 s1.heap dd (.xd [(("index" : Str), v)]) := I1.hok dd _ ea
  obtain ⟨mA, hns, hr⟩ := hx
  obtain ⟨od, ho, hl⟩ := lookIn_ns hns
  have l : List.lookup ("index" : Str) [(("index" : Str), v)] = some v := by simp [List.lookup]
  obtain ⟨u, hu, ru⟩ := RelO.some_of (v := v) (o := mA "index") (by rw [← l]; exact hr "index")
  have J : PySem.W.InstAt s1.heap a oe C (some od) := ⟨ha, hz.1, by unfold PySem.W.notCls; rw [hd] <;> rfl, by rw [hz.2]; exact ho⟩
  exact HandSPX.exc_get I1.kIn J T.ga T.gg T.exC (PySem.W.findObj_own T.hdC T.noN rfl (by rw [hl, hu])) (handed_of ru) ⟨v, H1, I1.tok _, ru, q⟩
end
end L2

set_option Elab.async false
set_option linter.all false
set_option maxRecDepth 100000
set_option maxHeartbeats 4000000
/-! # The plain law: what is written is read back. Plain Lean. -/
namespace Ms
open L2
theorem fig_iff (c : Nat) : isFig c = true ↔ 48 ≤ c ∧ c ≤ 57 := by
  have e : cd "0123456789" = [48, 49, 50, 51, 52, 53, 54, 55, 56, 57] := by decide +kernel
  unfold isFig
  rw [e]
  simp only [decide_eq_true_eq, List.mem_cons, List.not_mem_nil, or_false]
  omega
theorem figs_num (n : Nat) : (TL.numL n).all isFig = true := by
  rw [List.all_eq_true]
  intro c hc
  exact (fig_iff c).mpr (TL.numL_digits n c hc)
theorem all_figs {l : Cs} (h : l.all isFig = true) : PySem.NumText.AllDigits l := fun c hc => (fig_iff c).mp (List.all_eq_true.mp h c hc)
theorem valD_num (n : Nat) : valD (TL.numL n) = n := TL.numL_val n
theorem mCount_num {n : Nat} (h : n < 10 ^ 20) : mCount (TL.numL n) = some n := by
  unfold mCount
  have h1 : ¬ (TL.numL n = [] ∨ 20 < (TL.numL n).length ∨ (TL.numL n).all isFig = false) := by
    rintro (z | z | z)
    · exact TL.numL_ne n z
    · have := TL.numL_len (k := 20) (by decide) h
      omega
    · rw [figs_num] at z
      cases z
  rw [if_neg h1, valD_num, if_pos rfl]
/-! ### words -/
/-- a word that stands between single spaces -/
def Word (w : Cs) : Prop := (w ≠ [] ∧ 32 ∉ w ∧ w.head? ≠ some 39) ∨ ∃ t, 39 ∉ t ∧ w = quo t
theorem takeWhile_all {p : Nat → Bool} : ∀ {l r : Cs}, (∀ c ∈ l, p c = true) → (l ++ r).takeWhile p = l ++ r.takeWhile p
  | [], _, _ => rfl
  | c :: l, r, h => by
    rw [List.cons_append, List.takeWhile_cons, if_pos (h c List.mem_cons_self), takeWhile_all fun d hd => h d (List.mem_cons_of_mem _ hd)]
    rfl
theorem ne_of_notin {s : Nat} {l : Cs} (h : s ∉ l) : ∀ c ∈ l, (decide (c ≠ s)) = true := fun c hc => decide_eq_true fun e => h (e ▸ hc)
theorem wlen_word {w : Cs} (h : Word w) {rest : Cs} (hr : rest = [] ∨ ∃ r, rest = 32 :: r) : wlen (w ++ rest) = w.length := by
  rcases h with ⟨h1, h2, h3⟩ | ⟨t, ht, rfl⟩
  · cases w with
    | nil => exact absurd rfl h1
    | cons c r =>
      have hc : c ≠ 39 := fun e => h3 (by rw [e]; rfl)
      show (if c = 39 then _ else ((c :: (r ++ rest)).takeWhile (· ≠ 32)).length) = _
      rw [if_neg hc, show (c :: (r ++ rest)) = (c :: r) ++ rest from rfl, takeWhile_all (ne_of_notin h2)]
      rcases hr with rfl | ⟨q, rfl⟩
      · simp
      · simp [List.takeWhile_cons]
  · show (if (39 : Nat) = 39 then min ((((t ++ [39]) ++ rest).takeWhile (· ≠ 39)).length + 2) (((t ++ [39]) ++ rest).length + 1) else ((39 :: ((t ++ [39]) ++ rest)).takeWhile (· ≠ 32)).length) = _
    rw [if_pos rfl, List.append_assoc, takeWhile_all (ne_of_notin ht)]
    simp [quo, List.takeWhile_cons]
theorem word_ne {w : Cs} (h : Word w) : w ≠ [] := by
  rcases h with ⟨h1, _⟩ | ⟨t, _, rfl⟩
  · exact h1
  · simp [quo]
theorem wordsF_join : ∀ (ws : List Cs) (n : Nat), ws ≠ [] → (∀ w ∈ ws, Word w) → (TL.joinL [32] ws).length < n → wordsF n (TL.joinL [32] ws) = some ws
  | [], _, h, _, _ => absurd rfl h
  | [w], n, _, h, hn => by
    have hw := h w List.mem_cons_self
    show wordsF n w = some [w]
    have hn : w.length < n := hn
    match n, hn with
    | n + 1, _ =>
      cases w with
      | nil => exact absurd rfl (word_ne hw)
      | cons c r =>
        have e : wlen (c :: r) = (c :: r).length := by
          have z := wlen_word hw (rest := []) (.inl rfl)
          rw [List.append_nil] at z
          exact z
        unfold wordsF
        rw [e, List.drop_length, List.take_length]
        rfl
  | w :: v :: ws, n, _, h, hn => by
    have hw := h w List.mem_cons_self
    have ih := wordsF_join (v :: ws) (n - 1) (by simp) (fun x hx => h x (List.mem_cons_of_mem _ hx))
    have hj : TL.joinL [32] (w :: v :: ws) = w ++ 32 :: TL.joinL [32] (v :: ws) := rfl
    rw [hj] at hn ⊢
    have hwl : 0 < w.length := List.length_pos_iff.mpr (word_ne hw)
    rw [List.length_append, List.length_cons] at hn
    match n, hn, ih with
    | n + 1, hn, ih =>
      have e : wlen (w ++ 32 :: TL.joinL [32] (v :: ws)) = w.length := wlen_word hw (.inr ⟨_, rfl⟩)
      cases w with
      | nil => exact absurd rfl (word_ne hw)
      | cons c r =>
        rw [List.cons_append] at e ⊢
        unfold wordsF
        rw [e]
        have e1 : (c :: (r ++ 32 :: TL.joinL [32] (v :: ws))).drop (c :: r).length = 32 :: TL.joinL [32] (v :: ws) := by
          rw [← List.cons_append, List.drop_left]
        have e2 : (c :: (r ++ 32 :: TL.joinL [32] (v :: ws))).take (c :: r).length = c :: r := by
          rw [← List.cons_append, List.take_left]
        rw [e1, e2]
        show (if (32 : Nat) ≠ 32 ∨ (c :: r).length = 0 then none else (wordsF n (TL.joinL [32] (v :: ws))).map ((c :: r) :: ·)) = _
        rw [if_neg (by simp), show wordsF n (TL.joinL [32] (v :: ws)) = some (v :: ws) from ih (by show _ < n; omega)]
        rfl
theorem mWords_join {ws : List Cs} (h : ws ≠ []) (hw : ∀ w ∈ ws, Word w) : mWords (TL.joinL [32] ws) = some ws := wordsF_join ws _ h hw (by omega)
/-! ### the words of a step -/
theorem num_word (n : Nat) : Word (TL.numL n) := by
  refine .inl ⟨TL.numL_ne n, TL.numL_free (by omega), fun z => ?_⟩
  have : 39 ∈ TL.numL n := List.mem_of_mem_head? z
  exact TL.numL_free (by omega) this
theorem link_word (p : Nat × Nat) : Word (linkW p) := by
  refine .inl ⟨by simp [linkW], fun z => ?_, fun z => ?_⟩
  · unfold linkW at z
    rcases List.mem_append.mp z with z | z
    · exact TL.numL_free (by omega) z
    · rcases List.mem_cons.mp z with z | z
      · omega
      · exact TL.numL_free (by omega) z
  · have z := List.mem_of_mem_head? z
    unfold linkW at z
    rcases List.mem_append.mp z with z | z
    · exact TL.numL_free (by omega) z
    · rcases List.mem_cons.mp z with z | z
      · omega
      · exact TL.numL_free (by omega) z
theorem signs_free : ∀ c ∈ signs, c ≠ 39 ∧ c ≠ 10 := by decide +kernel
theorem text_free {m : Nat} {l : Cs} (h : isText m l = true) : 39 ∉ l ∧ 10 ∉ l := by
  unfold isText at h
  rw [Bool.and_eq_true, List.all_eq_true] at h
  exact ⟨fun z => (signs_free _ (of_decide_eq_true (h.2 _ z))).1 rfl, fun z => (signs_free _ (of_decide_eq_true (h.2 _ z))).2 rfl⟩
theorem quo_word {m : Nat} {l : Cs} (h : isText m l = true) : Word (quo l) := .inr ⟨l, (text_free h).1, rfl⟩
theorem text_mono {m n : Nat} {l : Cs} (h : isText m l = true) (hmn : m ≤ n) : isText n l = true := by
  unfold isText at h ⊢
  rw [Bool.and_eq_true] at h ⊢
  exact ⟨decide_eq_true (Nat.le_trans (of_decide_eq_true h.1) hmn), h.2⟩
theorem mText_quo {l : Cs} (h : isText 200 l = true) : mText (quo l) = some l := by
  unfold mText
  have e : ((quo l).drop 1).dropLast = l := by
    show (l ++ [39]).dropLast = l
    exact List.dropLast_concat
  have h1 : ¬ ((quo l).length < 2 ∨ (quo l).head? ≠ some 39 ∨ (quo l).getLast? ≠ some 39) := by
    rintro (z | z | z)
    · simp [quo] at z
      omega
    · exact z rfl
    · apply z
      show (39 :: (l ++ [39])).getLast? = some 39
      rw [List.getLast?_cons, List.getLast?_concat]
      rfl
  rw [if_neg h1, e, if_pos h]
theorem tl_int_nn (n : Nat) : TL.tl (PySem.Str.ofString (toString (n : Int))) = TL.numL n := TL.tl_num n
theorem tl_int_neg (n : Nat) (h : 0 < n) : TL.tl (PySem.Str.ofString (toString (-(n : Int)))) = 45 :: TL.numL n := by
  obtain ⟨m, rfl⟩ : ∃ m, n = m + 1 := ⟨n - 1, by omega⟩
  have e : toString (-((m + 1 : Nat) : Int)) = "-" ++ toString ((m + 1 : Nat) : Int) := by
    rw [show (-((m + 1 : Nat) : Int)) = Int.negSucc m from rfl]
    rfl
  rw [e, TL.tl_ofString, String.toList_append, List.map_append]
  have q := TL.tl_num (m + 1)
  rw [TL.tl_ofString] at q
  rw [q]
  rfl
theorem isInV_nat {hi : Int} {v : V} (h : isInV 0 hi v = true) : ∃ n : Nat, v = .int n ∧ (n : Int) ≤ hi := by
  cases v with
  | int i =>
    unfold isInV at h
    rw [Bool.and_eq_true] at h
    have h0 := of_decide_eq_true h.1
    exact ⟨i.toNat, by rw [Int.toNat_of_nonneg h0], by rw [Int.toNat_of_nonneg h0]; exact of_decide_eq_true h.2⟩
  | _ => cases h
theorem numV_nat (n : Nat) : numV (.int n) = TL.numL n := tl_int_nn n
theorem cmd_mem {w : Cs} {p : Nat × Nat} (h : cmd w = some p) : (w, p) ∈ cmds := by
  have g : ∀ l : List (Cs × Nat × Nat), l.lookup w = some p → (w, p) ∈ l := by
    intro l
    induction l with
    | nil => intro z; cases z
    | cons a r ih =>
      intro z
      obtain ⟨k, q⟩ := a
      rw [List.lookup_cons] at z
      by_cases hk : w = k
      · subst hk
        rw [show (w == w) = true from beq_self_eq_true w] at z
        cases z
        exact List.mem_cons_self
      · rw [show (w == k) = false from beq_eq_false_iff_ne.mpr hk] at z
        exact List.mem_cons_of_mem _ (ih z)
  exact g _ h
theorem cmds_ok : ∀ q ∈ cmds, (q.1 ≠ [] ∧ 32 ∉ q.1 ∧ q.1.head? ≠ some 39) ∧ 10 ∉ q.1 ∧ q.1 ≠ cd "world" ∧ q.2.1 ≤ 3 ∧ (q.2.2 = 0 ∨ q.2.2 = 1 ∨ q.2.2 = 2) ∧ (q.2.2 ≠ 0 → q.2.1 = 1) ∧ q.1.length ≤ 10 := by decide +kernel
/-- a flat step that is one, taken apart -/
theorem flat_parts {w : Cs} {xs : List V} (h : mIsStep (.flat w xs) = true) : ∃ many more, cmd w = some (many, more) ∧ (w, many, more) ∈ cmds ∧ ∃ ns : List Nat, ns.length = many ∧ (∀ n ∈ ns, n ≤ 2 ^ 20) ∧
    ((more = 0 ∧ xs = ns.map fun (n : Nat) => V.int (n : Int)) ∨
      (∃ z : PySem.Str, isText 40 (TL.tl z) = true ∧ TL.tl z ≠ [] ∧ ((more = 1 ∧ xs = (ns.map fun (n : Nat) => V.int (n : Int)) ++ [.str z]) ∨ ∃ v, isValueV v = true ∧ more = 2 ∧ xs = (ns.map fun (n : Nat) => V.int (n : Int)) ++ [.str z, v]))) := by
  unfold mIsStep at h
  dsimp only at h
  cases hc : cmd w with
  | none => rw [hc] at h; cases h
  | some p =>
    obtain ⟨many, more⟩ := p
    rw [hc] at h
    dsimp only at h
    rw [Bool.and_eq_true, Bool.and_eq_true, Bool.and_eq_true] at h
    obtain ⟨⟨⟨h1, h2⟩, h3⟩, h4⟩ := h
    have h1 := of_decide_eq_true h1
    have hm := cmd_mem hc
    have hk := cmds_ok _ hm
    refine ⟨many, more, rfl, hm, ?_⟩
    have hns : ∀ l : List V, l.all (isInV 0 (2 ^ 20)) = true → ∃ ns : List Nat, l = ns.map (fun (n : Nat) => V.int (n : Int)) ∧ ∀ n ∈ ns, n ≤ 2 ^ 20 := by
      intro l
      induction l with
      | nil => intro _; exact ⟨[], rfl, by simp⟩
      | cons v r ih =>
        intro z
        rw [List.all_cons, Bool.and_eq_true] at z
        obtain ⟨n, rfl, hn⟩ := isInV_nat z.1
        obtain ⟨ns, rfl, hns⟩ := ih z.2
        refine ⟨n :: ns, rfl, fun m hm => ?_⟩
        rcases List.mem_cons.mp hm with rfl | hm
        · exact_mod_cast hn
        · exact hns m hm
    obtain ⟨ns, e, hb⟩ := hns _ h2
    have hl : ns.length = many := by
      have := congrArg List.length e
      rw [List.length_map, List.length_take] at this
      omega
    refine ⟨ns, hl, hb, ?_⟩
    have ex : xs = ns.map (fun (n : Nat) => V.int (n : Int)) ++ xs.drop many := by
      conv => lhs; rw [← List.take_append_drop many xs]
      rw [e]
    have hdl : (xs.drop many).length = more := by rw [List.length_drop]; omega
    have gD : ∀ j, xs.getD (many + j) .non = (xs.drop many).getD j .non := by
      intro j
      rw [List.getD_eq_getElem?_getD, List.getD_eq_getElem?_getD, List.getElem?_drop]
    rcases hk.2.2.2.2.1 with h0 | h0 | h0
    · refine .inl ⟨h0, ?_⟩
      have : xs.drop many = [] := List.length_eq_zero_iff.mp (by rw [hdl]; exact h0)
      rw [this, List.append_nil] at ex
      exact ex
    · have h0 : more = 1 := h0
      subst h0
      obtain ⟨k, hk'⟩ := List.length_eq_one_iff.mp hdl
      have g0 := gD 0
      rw [Nat.add_zero, hk'] at g0
      rw [g0] at h3
      have h3 : isKeyV k = true := by simpa using h3
      cases k with
      | str z =>
        have h3 : (isText 40 (TL.tl z) && !decide (TL.tl z = [])) = true := h3
        rw [Bool.and_eq_true] at h3
        refine .inr ⟨z, h3.1, by simpa using h3.2, .inl ⟨rfl, ?_⟩⟩
        rw [ex, hk']
      | _ => cases h3
    · have h0 : more = 2 := h0
      subst h0
      obtain ⟨k, v, hk'⟩ : ∃ k v, xs.drop many = [k, v] := by
        cases e3 : xs.drop many with
        | nil => rw [e3] at hdl; cases hdl
        | cons a r =>
          cases r with
          | nil => rw [e3] at hdl; cases hdl
          | cons b r =>
            cases r with
            | nil => exact ⟨a, b, rfl⟩
            | cons c r => rw [e3] at hdl; simp at hdl
      have g0 := gD 0
      have g1 := gD 1
      rw [Nat.add_zero, hk'] at g0
      rw [hk'] at g1
      rw [g0] at h3
      rw [g1] at h4
      have h3 : isKeyV k = true := by simpa using h3
      have h4 : isValueV v = true := by simpa using h4
      cases k with
      | str z =>
        have h3 : (isText 40 (TL.tl z) && !decide (TL.tl z = [])) = true := h3
        rw [Bool.and_eq_true] at h3
        refine .inr ⟨z, h3.1, by simpa using h3.2, .inr ⟨v, h4, rfl, ?_⟩⟩
        rw [ex, hk']
      | _ => cases h3
theorem valW_cases {v : V} (h : isValueV v = true) : v = .non ∨ (∃ z, v = .str z ∧ isText 200 (TL.tl z) = true) ∨ (∃ n : Nat, v = .int n ∧ n ≤ 2 ^ 40) ∨ (∃ n : Nat, 0 < n ∧ v = .int (-(n : Int)) ∧ n ≤ 2 ^ 40) := by
  cases v with
  | non => exact .inl rfl
  | str z => exact .inr (.inl ⟨z, rfl, h⟩)
  | int i =>
    have h : (decide (-(2 ^ 40) ≤ i) && decide (i ≤ 2 ^ 40)) = true := h
    rw [Bool.and_eq_true] at h
    have h1 := of_decide_eq_true h.1
    have h2 := of_decide_eq_true h.2
    by_cases h0 : 0 ≤ i
    · exact .inr (.inr (.inl ⟨i.toNat, by rw [Int.toNat_of_nonneg h0], by omega⟩))
    · exact .inr (.inr (.inr ⟨(-i).toNat, by omega, by rw [Int.toNat_of_nonneg (by omega)]; simp, by omega⟩))
  | _ => cases h
theorem val_word {v : V} (h : isValueV v = true) : Word (valW v) := by
  rcases valW_cases h with rfl | ⟨z, rfl, hz⟩ | ⟨n, rfl, hn⟩ | ⟨n, h0, rfl, hn⟩
  · exact .inl (by decide +kernel)
  · exact quo_word hz
  · refine .inl ⟨by simp [valW], fun z => ?_, by simp [valW]⟩
    show False
    have z : 32 ∈ 35 :: TL.tl (PySem.Str.ofString (toString (n : Int))) := z
    rw [tl_int_nn] at z
    rcases List.mem_cons.mp z with z | z
    · omega
    · exact TL.numL_free (by omega) z
  · refine .inl ⟨by simp [valW], fun z => ?_, by simp [valW]⟩
    have z : 32 ∈ 35 :: TL.tl (PySem.Str.ofString (toString (-(n : Int)))) := z
    rw [tl_int_neg n h0] at z
    rcases List.mem_cons.mp z with z | z
    · omega
    · rcases List.mem_cons.mp z with z | z
      · omega
      · exact TL.numL_free (by omega) z
theorem mkS_tl (z : PySem.Str) : mkS (TL.tl z) = z := TL.mk_tl z
theorem none_ne : ∀ c l, (39 :: c ≠ cd "none") ∧ (35 :: l ≠ cd "none") := fun c l => ⟨fun z => by
  have := congrArg List.head? z
  revert this
  rw [show (cd "none").head? = some 110 by decide +kernel]
  simp, fun z => by
  have := congrArg List.head? z
  revert this
  rw [show (cd "none").head? = some 110 by decide +kernel]
  simp⟩
theorem mValue_val {v : V} (h : isValueV v = true) : mValue (valW v) = some v := by
  rcases valW_cases h with rfl | ⟨z, rfl, hz⟩ | ⟨n, rfl, hn⟩ | ⟨n, h0, rfl, hn⟩
  · decide +kernel
  · show mValue (quo (TL.tl z)) = _
    unfold mValue
    rw [if_neg (show ¬ quo (TL.tl z) = cd "none" from (none_ne _ []).1), if_neg (show ¬ (quo (TL.tl z)).head? = some 35 by simp [quo]), mText_quo hz]
    show some (V.str (mkS (TL.tl z))) = _
    rw [mkS_tl]
  · show mValue (35 :: TL.tl (PySem.Str.ofString (toString (n : Int)))) = _
    rw [tl_int_nn]
    unfold mValue
    have hne : ¬ ((35 :: TL.numL n).drop 1).head? = some 45 := fun z => TL.numL_free (n := n) (s := 45) (by omega) (List.mem_of_mem_head? z)
    rw [if_neg ((none_ne [] _).2), if_pos (show (35 :: TL.numL n).head? = some 35 from rfl), if_neg hne]
    show (match mCount (TL.numL n) with | none => none | some n => if n ≤ 2 ^ 40 then some (V.int n) else none) = _
    rw [mCount_num (by omega)]
    dsimp only
    rw [if_pos hn]
  · show mValue (35 :: TL.tl (PySem.Str.ofString (toString (-(n : Int))))) = _
    rw [tl_int_neg n h0]
    unfold mValue
    rw [if_neg ((none_ne [] _).2), if_pos (show (35 :: 45 :: TL.numL n).head? = some 35 from rfl), if_pos (show ((35 :: 45 :: TL.numL n).drop 1).head? = some 45 from rfl)]
    show (match mCount (TL.numL n) with | none => none | some n => if n ≤ 2 ^ 40 ∧ n ≠ 0 then some (V.int (-(n : Int))) else none) = _
    rw [mCount_num (by omega)]
    dsimp only
    rw [if_pos ⟨hn, by omega⟩]
theorem mLink_link {p : Nat × Nat} (h1 : p.1 ≤ 2 ^ 20) (h2 : p.2 ≤ 2 ^ 20) : mLink (linkW p) = some p := by
  unfold mLink par45
  have e : TL.par [45] [] (linkW p) = some ([] ++ TL.numL p.1, TL.numL p.2) := TL.par_part1 (s := 45) (S := []) (p := TL.numL p.1) (rest := TL.numL p.2) (acc := []) (TL.numL_free (by omega))
  rw [e]
  dsimp only
  rw [List.nil_append, mCount_num (by omega), mCount_num (by omega)]
theorem allSome_map {α β γ : Type} {f : α → Option β} {g : γ → α} {k : γ → β} : ∀ {l : List γ}, (∀ x ∈ l, f (g x) = some (k x)) → allSome f (l.map g) = some (l.map k)
  | [], _ => rfl
  | x :: r, h => by
    rw [List.map_cons, List.map_cons]
    unfold allSome
    rw [h x List.mem_cons_self, allSome_map fun y hy => h y (List.mem_cons_of_mem _ hy)]
theorem lineWs_words {st : Stp} (h : mIsStep st = true) : lineWs st ≠ [] ∧ ∀ w ∈ lineWs st, Word w := by
  cases st with
  | world n ls =>
    refine ⟨by simp [lineWs], fun w hw => ?_⟩
    unfold lineWs at hw
    rcases List.mem_cons.mp hw with rfl | hw
    · exact .inl (by decide +kernel)
    rcases List.mem_cons.mp hw with rfl | hw
    · exact num_word n
    · obtain ⟨p, _, rfl⟩ := List.mem_map.mp hw
      exact link_word p
  | flat w xs =>
    obtain ⟨many, more, hc, hm, ns, hl, hb, hx⟩ := flat_parts h
    have hk := cmds_ok _ hm
    unfold lineWs
    dsimp only
    rw [hc]
    dsimp only
    refine ⟨by simp, fun u hu => ?_⟩
    rcases List.mem_cons.mp hu with rfl | hu
    · exact .inl hk.1
    have hN : ∀ u ∈ (ns.map fun (n : Nat) => V.int (n : Int)).map numV, Word u := by
      intro u hu
      rw [List.map_map] at hu
      obtain ⟨n, _, rfl⟩ := List.mem_map.mp hu
      show Word (numV (.int n))
      rw [numV_nat]
      exact num_word n
    have tk : ∀ r, ((ns.map fun (n : Nat) => V.int (n : Int)) ++ r).take many = ns.map fun (n : Nat) => V.int (n : Int) := fun r => by
      rw [← hl]
      conv => lhs; arg 1; rw [← List.length_map (as := ns) (fun (n : Nat) => V.int (n : Int))]
      exact List.take_left
    have gk : ∀ r j, ((ns.map fun (n : Nat) => V.int (n : Int)) ++ r).getD (many + j) .non = r.getD j .non := fun r j => by
      rw [List.getD_eq_getElem?_getD, List.getD_eq_getElem?_getD, List.getElem?_append_right (by rw [List.length_map]; omega), List.length_map, hl, Nat.add_sub_cancel_left]
    rcases hx with ⟨rfl, rfl⟩ | ⟨z, hz, hz0, ⟨rfl, rfl⟩ | ⟨v, hv, rfl, rfl⟩⟩
    · have := tk []
      rw [List.append_nil] at this
      rw [this] at hu
      simp only [if_true, List.append_nil, show ¬ (0 : Nat) = 2 by decide, if_false] at hu
      exact hN u hu
    · rw [tk] at hu
      have g0 := gk [.str z] 0
      rw [Nat.add_zero] at g0
      simp only [g0, show ¬ (1 : Nat) = 0 by decide, show ¬ (1 : Nat) = 2 by decide, if_false, List.append_nil] at hu
      rcases List.mem_append.mp hu with hu | hu
      · exact hN u hu
      · rw [List.mem_singleton.mp hu]
        exact quo_word hz
    · rw [tk] at hu
      have g0 := gk [.str z, v] 0
      have g1 := gk [.str z, v] 1
      rw [Nat.add_zero] at g0
      simp only [g0, g1, show ¬ (2 : Nat) = 0 by decide, if_false, if_true] at hu
      rcases List.mem_append.mp hu with hu | hu
      · rcases List.mem_append.mp hu with hu | hu
        · exact hN u hu
        · rw [List.mem_singleton.mp hu]
          exact quo_word hz
      · rw [List.mem_singleton.mp hu]
        exact val_word hv
/-- THE READ-BACK of a line -/
theorem mStep_line {st : Stp} (h : mIsStep st = true) : mStep (mLine st) = some st := by
  obtain ⟨hne, hw⟩ := lineWs_words h
  unfold mStep mLine
  rw [mWords_join hne hw]
  cases st with
  | world n ls =>
    unfold lineWs
    dsimp only
    rw [if_pos rfl]
    unfold mWorld
    dsimp only
    have h : (decide (n ≤ 2 ^ 20) && ls.all fun p => decide (p.1 ≤ 2 ^ 20) && decide (p.2 ≤ 2 ^ 20)) = true := h
    rw [Bool.and_eq_true, List.all_eq_true] at h
    have hn := of_decide_eq_true h.1
    rw [mCount_num (by omega), allSome_map (k := fun p => p) (fun p hp => by
      have := h.2 p hp
      rw [Bool.and_eq_true] at this
      exact mLink_link (of_decide_eq_true this.1) (of_decide_eq_true this.2))]
    rw [List.map_id']
  | flat w xs =>
    obtain ⟨many, more, hc, hm, ns, hl, hb, hx⟩ := flat_parts h
    have hk := cmds_ok _ hm
    unfold lineWs
    dsimp only
    rw [hc]
    dsimp only
    rw [if_neg (show ¬ w = cd "world" from hk.2.2.1), hc]
    dsimp only
    have tk : ∀ r, ((ns.map fun (n : Nat) => V.int (n : Int)) ++ r).take many = ns.map fun (n : Nat) => V.int (n : Int) := fun r => by
      rw [← hl]
      conv => lhs; arg 1; rw [← List.length_map (as := ns) (fun (n : Nat) => V.int (n : Int))]
      exact List.take_left
    have gk : ∀ r j, ((ns.map fun (n : Nat) => V.int (n : Int)) ++ r).getD (many + j) .non = r.getD j .non := fun r j => by
      rw [List.getD_eq_getElem?_getD, List.getD_eq_getElem?_getD, List.getElem?_append_right (by rw [List.length_map]; omega), List.length_map, hl, Nat.add_sub_cancel_left]
    have hNm : (ns.map fun (n : Nat) => V.int (n : Int)).map numV = ns.map TL.numL := by
      rw [List.map_map]
      exact List.map_congr_left fun n _ => numV_nat n
    have tk2 : ∀ r : List Cs, ((ns.map TL.numL) ++ r).take many = ns.map TL.numL := fun r => by
      rw [← hl]
      conv => lhs; arg 1; rw [← List.length_map (as := ns) TL.numL]
      exact List.take_left
    have dk2 : ∀ r : List Cs, ((ns.map TL.numL) ++ r).drop many = r := fun r => by
      rw [← hl]
      conv => lhs; arg 1; rw [← List.length_map (as := ns) TL.numL]
      exact List.drop_left
    have hC : allSome mCount (ns.map TL.numL) = some ns := by
      rw [allSome_map (k := fun n => n) (fun n hn => mCount_num (by have := hb n hn; omega)), List.map_id']
    rcases hx with ⟨rfl, rfl⟩ | ⟨z, hz, hz0, ⟨rfl, rfl⟩ | ⟨v, hv, rfl, rfl⟩⟩
    · have t0 := tk []
      rw [List.append_nil] at t0
      have a2 := tk2 []
      have d2 := dk2 []
      rw [List.append_nil] at a2 d2
      simp only [t0, hNm, if_true, List.append_nil, show ¬ (0 : Nat) = 2 by decide, if_false, a2, d2, hC]
      rw [if_neg (by simp [hl])]
    · have g0 := gk [.str z] 0
      rw [Nat.add_zero] at g0
      simp only [tk, hNm, g0, show ¬ (1 : Nat) = 0 by decide, show ¬ (1 : Nat) = 2 by decide, if_false, List.append_nil, tk2, dk2, hC]
      rw [if_neg (by simp [hl])]
      show (mText (quo (TL.tl z))).map _ = _
      rw [mText_quo (text_mono hz (by omega))]
      show some (Stp.flat w (_ ++ [V.str (mkS (TL.tl z))])) = _
      rw [mkS_tl]
    · have g0 := gk [.str z, v] 0
      have g1 := gk [.str z, v] 1
      rw [Nat.add_zero] at g0
      simp only [tk, hNm, g0, g1, show ¬ (2 : Nat) = 0 by decide, if_false, if_true, List.append_assoc, tk2, dk2, hC]
      rw [if_neg (by simp [hl])]
      show (match mText (quo (TL.tl z)), mValue (valW v) with
          | some t, some y => some (Stp.flat w ((ns.map fun (n : Nat) => V.int (n : Int)) ++ [V.str (mkS t), y]))
          | _, _ => none) = _
      rw [mText_quo (text_mono hz (by omega)), mValue_val hv]
      dsimp only
      rw [mkS_tl]
end Ms

set_option Elab.async false
set_option linter.all false
set_option maxRecDepth 100000
set_option maxHeartbeats 4000000
/-! # The plain law, further: line feeds, lengths, whole scripts. Plain Lean. -/
namespace Ms
open L2
theorem mem_joinL {s : Nat} : ∀ {ws : List Cs}, s ≠ 32 → (∀ w ∈ ws, s ∉ w) → s ∉ TL.joinL [32] ws
  | [], _, _, h => by cases h
  | [w], _, h, z => h w List.mem_cons_self z
  | w :: v :: r, hs, h, z => by
    have z : s ∈ w ++ ([32] ++ TL.joinL [32] (v :: r)) := z
    rcases List.mem_append.mp z with z | z
    · exact h w List.mem_cons_self z
    · rcases List.mem_append.mp z with z | z
      · exact hs (List.mem_singleton.mp z)
      · exact mem_joinL hs (fun w hw => h w (List.mem_cons_of_mem _ hw)) z
theorem len_joinL : ∀ (ws : List Cs), (TL.joinL [32] ws).length ≤ (ws.map List.length).sum + ws.length
  | [] => Nat.le_refl _
  | [w] => by simp [TL.joinL]
  | w :: v :: r => by
    have ih := len_joinL (v :: r)
    show (w ++ ([32] ++ TL.joinL [32] (v :: r))).length ≤ _
    rw [List.length_append, List.length_append, List.map_cons, List.sum_cons, List.length_cons]
    simp only [List.length_cons, List.length_nil] at ih ⊢
    omega
theorem lineWs_facts {st : Stp} (h : mIsStep st = true) : (∀ w ∈ lineWs st, 10 ∉ w ∧ w.length ≤ 210) ∧ (match st with | .world _ ls => (lineWs st).length = ls.length + 2 | .flat _ _ => (lineWs st).length ≤ 6) := by
  have nl : ∀ n : Nat, n ≤ 2 ^ 20 → (TL.numL n).length ≤ 20 := fun n hn => TL.numL_len (by decide) (by omega)
  have nl2 : ∀ n : Nat, n ≤ 2 ^ 40 → (TL.numL n).length ≤ 20 := fun n hn => TL.numL_len (by decide) (by omega)
  cases st with
  | world n ls =>
    have h : (decide (n ≤ 2 ^ 20) && ls.all fun p => decide (p.1 ≤ 2 ^ 20) && decide (p.2 ≤ 2 ^ 20)) = true := h
    rw [Bool.and_eq_true, List.all_eq_true] at h
    have hn := of_decide_eq_true h.1
    refine ⟨fun w hw => ?_, by simp [lineWs]⟩
    unfold lineWs at hw
    rcases List.mem_cons.mp hw with rfl | hw
    · decide +kernel
    rcases List.mem_cons.mp hw with rfl | hw
    · exact ⟨TL.numL_free (by omega), by have := nl n hn; omega⟩
    · obtain ⟨p, hp, rfl⟩ := List.mem_map.mp hw
      have := h.2 p hp
      rw [Bool.and_eq_true] at this
      have l1 := nl _ (of_decide_eq_true this.1)
      have l2 := nl _ (of_decide_eq_true this.2)
      refine ⟨fun z => ?_, by unfold linkW; rw [List.length_append, List.length_cons]; omega⟩
      unfold linkW at z
      rcases List.mem_append.mp z with z | z
      · exact TL.numL_free (by omega) z
      · rcases List.mem_cons.mp z with z | z
        · omega
        · exact TL.numL_free (by omega) z
  | flat w xs =>
    obtain ⟨many, more, hc, hm, ns, hl, hb, hx⟩ := flat_parts h
    have hk := cmds_ok _ hm
    have hk3 : many ≤ 3 := hk.2.2.2.1
    have e : lineWs (.flat w xs) = w :: ((xs.take many).map numV ++ (if more = 0 then [] else [keyW (xs.getD many .non)]) ++ (if more = 2 then [valW (xs.getD (many + 1) .non)] else [])) := by
      unfold lineWs
      dsimp only
      rw [hc]
    rw [e]
    have tk : ∀ r, ((ns.map fun (n : Nat) => V.int (n : Int)) ++ r).take many = ns.map fun (n : Nat) => V.int (n : Int) := fun r => by
      rw [← hl]
      conv => lhs; arg 1; rw [← List.length_map (as := ns) (fun (n : Nat) => V.int (n : Int))]
      exact List.take_left
    have gk : ∀ r j, ((ns.map fun (n : Nat) => V.int (n : Int)) ++ r).getD (many + j) .non = r.getD j .non := fun r j => by
      rw [List.getD_eq_getElem?_getD, List.getD_eq_getElem?_getD, List.getElem?_append_right (by rw [List.length_map]; omega), List.length_map, hl, Nat.add_sub_cancel_left]
    have hN : ∀ u ∈ (ns.map fun (n : Nat) => V.int (n : Int)).map numV, 10 ∉ u ∧ u.length ≤ 210 := by
      intro u hu
      rw [List.map_map] at hu
      obtain ⟨n, hn, rfl⟩ := List.mem_map.mp hu
      show 10 ∉ numV (.int n) ∧ (numV (.int n)).length ≤ 210
      rw [numV_nat]
      exact ⟨TL.numL_free (by omega), by have := nl n (hb n hn); omega⟩
    have hK : ∀ z : PySem.Str, ∀ m, m ≤ 200 → isText m (TL.tl z) = true → 10 ∉ quo (TL.tl z) ∧ (quo (TL.tl z)).length ≤ 210 := by
      intro z m hm hz
      have f := text_free hz
      have hz : (decide ((TL.tl z).length ≤ m) && _) = true := hz
      rw [Bool.and_eq_true] at hz
      have := of_decide_eq_true hz.1
      refine ⟨fun q => ?_, by show (39 :: TL.tl z ++ [39]).length ≤ 210; rw [List.length_append, List.length_cons, List.length_cons, List.length_nil]; omega⟩
      unfold quo at q
      rcases List.mem_append.mp q with q | q
      · rcases List.mem_cons.mp q with q | q
        · omega
        · exact f.2 q
      · have := List.mem_singleton.mp q
        omega
    have hV : ∀ v, isValueV v = true → 10 ∉ valW v ∧ (valW v).length ≤ 210 := by
      intro v hv
      rcases valW_cases hv with rfl | ⟨z, rfl, hz⟩ | ⟨n, rfl, hn⟩ | ⟨n, h0, rfl, hn⟩
      · decide +kernel
      · exact hK z 200 (by omega) hz
      · show 10 ∉ 35 :: TL.tl (PySem.Str.ofString (toString (n : Int))) ∧ (35 :: TL.tl (PySem.Str.ofString (toString (n : Int)))).length ≤ 210
        rw [tl_int_nn]
        refine ⟨fun q => ?_, by have := nl2 n hn; rw [List.length_cons]; omega⟩
        rcases List.mem_cons.mp q with q | q
        · omega
        · exact TL.numL_free (by omega) q
      · show 10 ∉ 35 :: TL.tl (PySem.Str.ofString (toString (-(n : Int)))) ∧ (35 :: TL.tl (PySem.Str.ofString (toString (-(n : Int))))).length ≤ 210
        rw [tl_int_neg n h0]
        refine ⟨fun q => ?_, by have := nl2 n hn; rw [List.length_cons, List.length_cons]; omega⟩
        rcases List.mem_cons.mp q with q | q
        · omega
        · rcases List.mem_cons.mp q with q | q
          · omega
          · exact TL.numL_free (by omega) q
    have hW : 10 ∉ w ∧ w.length ≤ 210 := ⟨hk.2.1, by have : w.length ≤ 10 := hk.2.2.2.2.2.2; omega⟩
    rcases hx with ⟨rfl, rfl⟩ | ⟨z, hz, hz0, ⟨rfl, rfl⟩ | ⟨v, hv, rfl, rfl⟩⟩
    · have t0 := tk []
      rw [List.append_nil] at t0
      rw [t0]
      simp only [if_true, List.append_nil, show ¬ (0 : Nat) = 2 by decide, if_false]
      refine ⟨fun u hu => ?_, by simp [hl]; omega⟩
      rcases List.mem_cons.mp hu with rfl | hu
      · exact hW
      · exact hN u hu
    · have g0 := gk [.str z] 0
      rw [Nat.add_zero] at g0
      rw [tk]
      simp only [g0, show ¬ (1 : Nat) = 0 by decide, show ¬ (1 : Nat) = 2 by decide, if_false, List.append_nil]
      refine ⟨fun u hu => ?_, by simp [hl]; omega⟩
      rcases List.mem_cons.mp hu with rfl | hu
      · exact hW
      · rcases List.mem_append.mp hu with hu | hu
        · exact hN u hu
        · rw [List.mem_singleton.mp hu]
          exact hK z 40 (by omega) hz
    · have g0 := gk [.str z, v] 0
      have g1 := gk [.str z, v] 1
      rw [Nat.add_zero] at g0
      rw [tk]
      simp only [g0, g1, show ¬ (2 : Nat) = 0 by decide, if_false, if_true]
      refine ⟨fun u hu => ?_, by simp [hl]; omega⟩
      rcases List.mem_cons.mp hu with rfl | hu
      · exact hW
      · rcases List.mem_append.mp hu with hu | hu
        · rcases List.mem_append.mp hu with hu | hu
          · exact hN u hu
          · rw [List.mem_singleton.mp hu]
            exact hK z 40 (by omega) hz
        · rw [List.mem_singleton.mp hu]
          exact hV v hv
theorem line_nolf {st : Stp} (h : mIsStep st = true) : 10 ∉ mLine st := mem_joinL (by omega) fun w hw => ((lineWs_facts h).1 w hw).1
theorem sum_le {l : List Cs} {m : Nat} (h : ∀ w ∈ l, w.length ≤ m) : (l.map List.length).sum ≤ l.length * m := by
  induction l with
  | nil => simp
  | cons a r ih =>
    have := ih fun w hw => h w (List.mem_cons_of_mem _ hw)
    have := h a List.mem_cons_self
    rw [List.map_cons, List.sum_cons, List.length_cons, Nat.add_mul]
    omega
/-- how many links -/
def nLinks : Stp → Nat
  | .world _ ls => ls.length
  | .flat _ _ => 4
theorem line_len {st : Stp} (h : mIsStep st = true) : (mLine st).length ≤ (nLinks st + 2) * 211 := by
  have f := lineWs_facts h
  have a := len_joinL (lineWs st)
  have b := sum_le (l := lineWs st) (m := 210) fun w hw => (f.1 w hw).2
  have c : (lineWs st).length ≤ nLinks st + 2 := by
    cases st with
    | world n ls =>
      have : (lineWs (.world n ls)).length = ls.length + 2 := f.2
      show _ ≤ ls.length + 2
      omega
    | flat w xs => exact f.2
  have d : (lineWs st).length * 210 + (lineWs st).length = (lineWs st).length * 211 := by omega
  have e := Nat.mul_le_mul_right 211 c
  unfold mLine
  omega
/-! ### whole scripts -/
def okW (i : Nat) (st : Stp) : Prop := mIsStep st = true ∧ isWorld st = decide (i = 0)
def OkFrom (i : Nat) (sts : List Stp) : Prop := ∀ (j : Nat) st, sts[j]? = some st → okW (i + j) st
theorem OkFrom.head {i : Nat} {st : Stp} {r : List Stp} (h : OkFrom i (st :: r)) : okW i st := h 0 st rfl
theorem OkFrom.tail {i : Nat} {st : Stp} {r : List Stp} (h : OkFrom i (st :: r)) : OkFrom (i + 1) r := fun j s e => by
  have := h (j + 1) s (by simpa using e)
  rwa [show i + (j + 1) = i + 1 + j by omega] at this
theorem okW.notbad {i : Nat} {st : Stp} (h : okW i st) (hi : i < 200) : badAt i (some st) = false := by
  unfold badAt
  dsimp only
  rw [h.1, h.2]
  simp
  omega
theorem mRead_cons_ok {i : Nat} {l : Cs} {r : List Cs} {st : Stp} (h : mStep l = some st) (hb : badAt i (some st) = false) : mRead i (l :: r) = match mRead (i + 1) r with
    | .error j => .error j
    | .ok sts => .ok (st :: sts) := by
  show (if badAt i (mStep l) then _ else _) = _
  rw [h, hb]
  rfl
theorem mRead_bad {i : Nat} {l : Cs} {r : List Cs} (hb : badAt i (mStep l) = true) : mRead i (l :: r) = .error i := by
  show (if badAt i (mStep l) then _ else _) = _
  rw [hb]
  rfl
theorem mRead_lines : ∀ (sts : List Stp) (i : Nat) (r : List Cs), OkFrom i sts → i + sts.length ≤ 200 → mRead i (sts.map mLine ++ r) = match mRead (i + sts.length) r with
    | .error j => .error j
    | .ok q => .ok (sts ++ q)
  | [], i, r, _, _ => by
    show mRead i r = match mRead i r with
      | .error j => .error j
      | .ok q => .ok ([] ++ q)
    cases mRead i r <;> rfl
  | st :: q, i, r, h, hl => by
    rw [List.length_cons] at hl
    rw [List.map_cons, List.cons_append, mRead_cons_ok (mStep_line h.head.1) (h.head.notbad (by omega)), mRead_lines q (i + 1) r h.tail (by omega), List.length_cons, show i + 1 + q.length = i + (q.length + 1) by omega]
    cases mRead (i + (q.length + 1)) r <;> rfl
theorem mRead_ok {sts : List Stp} (h : OkFrom 0 sts) (hl : sts.length ≤ 200) : mRead 0 (sts.map mLine) = .ok sts := by
  have := mRead_lines sts 0 [] h (by omega)
  rw [List.append_nil] at this
  rw [this]
  show Except.ok (sts ++ []) = _
  rw [List.append_nil]
theorem badAt_mono {i : Nat} {o : Option Stp} (hi : 1 ≤ i) (h : badAt 1 o = true) : badAt i o = true := by
  cases o with
  | none => rfl
  | some st =>
    have h : (decide (1 = 200) || !mIsStep st || (isWorld st != decide (1 = 0))) = true := h
    show (decide (i = 200) || !mIsStep st || (isWorld st != decide (i = 0))) = true
    rw [show decide (i = 0) = false from decide_eq_false (by omega)]
    rw [show decide (1 = 0) = false from rfl, show decide (1 = 200) = false from rfl] at h
    rw [Bool.false_or] at h
    rw [Bool.or_assoc, h, Bool.or_true]
theorem badAt_fine {i : Nat} {o : Option Stp} (hi : 1 ≤ i) (h2 : i < 200) (h : badAt 1 o = false) : ∃ st, o = some st ∧ badAt i (some st) = false := by
  cases o with
  | none => cases h
  | some st =>
    refine ⟨st, rfl, ?_⟩
    have h : (decide (1 = 200) || !mIsStep st || (isWorld st != decide (1 = 0))) = false := h
    show (decide (i = 200) || !mIsStep st || (isWorld st != decide (i = 0))) = false
    rw [show decide (i = 0) = false from decide_eq_false (by omega), show decide (i = 200) = false from decide_eq_false (by omega)]
    exact h
theorem OkFrom.take {i k : Nat} {sts : List Stp} (h : OkFrom i sts) : OkFrom i (sts.take k) := fun j st e => by
  rw [List.getElem?_take] at e
  split at e
  · exact h j st e
  · cases e
theorem OkFrom.drop {i k : Nat} {sts : List Stp} (h : OkFrom i sts) (hk : k ≤ sts.length) : OkFrom (i + k) (sts.drop k) := fun j st e => by
  rw [List.getElem?_drop] at e
  have := h _ st e
  rwa [show i + (k + j) = i + k + j by omega] at this
/-- behind the first line steps that begin no world may stand at any further place -/
theorem OkFrom.later {i k : Nat} {sts : List Stp} (h : OkFrom i sts) (hi : 1 ≤ i) (hk : 1 ≤ k) : OkFrom k sts := fun j st e => by
  have := h j st e
  refine ⟨this.1, ?_⟩
  rw [this.2]
  rw [show decide (i + j = 0) = false from decide_eq_false (by omega), show decide (k + j = 0) = false from decide_eq_false (by omega)]
theorem mRead_badIn {sts : List Stp} {l : Cs} {k : Nat} (h : OkFrom 0 sts) (hl : sts.length ≤ 199) (hk : k ≤ sts.length) (h1 : 1 ≤ k) (hb : badLn l = true) :
    mRead 0 ((sts.take k).map mLine ++ l :: (sts.drop k).map mLine) = .error k := by
  have e : (sts.take k).length = k := List.length_take_of_le hk
  rw [mRead_lines _ 0 _ h.take (by rw [e]; omega), e, Nat.zero_add, mRead_bad (badAt_mono h1 hb)]
theorem mRead_fineIn {sts : List Stp} {l : Cs} {k : Nat} (h : OkFrom 0 sts) (hl : sts.length ≤ 199) (hk : k ≤ sts.length) (h1 : 1 ≤ k) (hb : badLn l = false) :
    ∃ q, mRead 0 ((sts.take k).map mLine ++ l :: (sts.drop k).map mLine) = .ok q := by
  have e : (sts.take k).length = k := List.length_take_of_le hk
  obtain ⟨st, e1, e2⟩ := badAt_fine (i := k) h1 (by omega) hb
  rw [mRead_lines _ 0 _ h.take (by rw [e]; omega), e, Nat.zero_add, mRead_cons_ok e1 e2]
  have hd : OkFrom (k + 1) (sts.drop k) := by
    have := h.drop (k := k) hk
    rw [Nat.zero_add] at this
    exact this.later h1 (by omega)
  have := mRead_lines (sts.drop k) (k + 1) [] hd (by rw [List.length_drop]; omega)
  rw [List.append_nil] at this
  rw [this]
  exact ⟨_, rfl⟩
theorem mNeed_ok : ∀ (sts : List Stp) (i : Nat) (r : List Stp), OkFrom i sts → mNeed i (sts ++ r) = mNeed (i + sts.length) r
  | [], i, r, _ => rfl
  | st :: q, i, r, h => by
    show (if (!mIsStep st || (isWorld st != decide (i = 0))) = true then some i else mNeed (i + 1) (q ++ r)) = _
    rw [h.head.1, h.head.2, if_neg (by simp), mNeed_ok q (i + 1) r h.tail, List.length_cons, show i + 1 + q.length = i + (q.length + 1) by omega]
theorem mNeed_none {sts : List Stp} (h : OkFrom 0 sts) : mNeed 0 sts = none := by
  have := mNeed_ok sts 0 [] h
  rw [List.append_nil] at this
  rw [this]
  rfl
theorem mNeed_bad {sts : List Stp} {b : Stp} (h : OkFrom 0 sts) (hne : sts ≠ []) (hb : mIsStep b = false ∨ isWorld b = true) : mNeed 0 (sts ++ [b]) = some sts.length := by
  have hl : 0 < sts.length := List.length_pos_iff.mpr hne
  rw [mNeed_ok sts 0 _ h, Nat.zero_add]
  show (if (!mIsStep b || (isWorld b != decide (sts.length = 0))) = true then some sts.length else _) = _
  rw [if_pos]
  rw [show decide (sts.length = 0) = false from decide_eq_false (by omega)]
  rcases hb with hb | hb
  · rw [hb]; rfl
  · rw [hb]; simp
theorem mNeed_head {st : Stp} {r : List Stp} (h : isWorld st = false) : mNeed 0 (st :: r) = some 0 := by
  show (if (!mIsStep st || (isWorld st != decide (0 = 0))) = true then some 0 else _) = _
  rw [if_pos]
  rw [h]
  simp
/-! ### the written rows -/
def rows : List (List String × Option Nat) := [([""], some 0), (["tick 0"], some 0), (["world"], some 0), (["world 2 0-1 1"], some 0), (["world 2 0_1"], some 0), (["world 1"], none), (["world 2", ""], some 1),
  ("world 2" :: List.replicate 199 "alike", none), ("world 2" :: List.replicate 200 "alike", some 200)]
def outc : Except Nat (List Stp) → Option Nat
  | .error i => some i
  | .ok _ => none
theorem rows_ok : ∀ r ∈ rows, outc (mRead 0 (r.1.map cd)) = r.2 := by decide +kernel
theorem bad_nolf : ∀ s ∈ badL ++ fineL, 10 ∉ cd s ∧ (cd s).length ≤ 100 := by decide +kernel
theorem rows_nolf : ∀ r ∈ rows, ∀ s ∈ r.1, 10 ∉ cd s := by decide +kernel
theorem bad_steps : mIsStep (.flat (cd "tick") [.bl true]) = false ∧ mIsStep (.flat (cd "tick") []) = false ∧ mIsStep (.flat (cd "show") [.int 0, .str (PySem.Str.ofString "")]) = false := by decide +kernel
end Ms

set_option Elab.async false
set_option linter.all false
set_option maxRecDepth 100000
set_option maxHeartbeats 4000000
/-! # The text by places, what the top has written, how defs are called, data on the heap -/
namespace Ms
open PySem PySem.Spec PyProof.Rows L2
def topS (i : Nat) : Stmt := PySem.Challenge.pw_meetstores_k19_whole_scripts_as_text.main.body.getD i (.Pass ⟨0, 0, 0, 0⟩)
theorem bt_int : bootBuiltins "int" = some (.type "int") := by decide +kernel
theorem bt_bool : bootBuiltins "bool" = some (.type "bool") := by decide +kernel
theorem bt_str : bootBuiltins "str" = some (.type "str") := by decide +kernel
theorem bt_list : bootBuiltins "list" = some (.type "list") := by decide +kernel
theorem bt_tuple : bootBuiltins "tuple" = some (.type "tuple") := by decide +kernel
theorem bt_set : bootBuiltins "set" = some (.type "set") := by decide +kernel
theorem bt_isinstance : bootBuiltins "isinstance" = some (.builtin "isinstance") := by decide +kernel
theorem bt_len : bootBuiltins "len" = some (.builtin "len") := by decide +kernel
theorem bt_min : bootBuiltins "min" = some (.builtin "min") := by decide +kernel
theorem bt_sorted : bootBuiltins "sorted" = some (.builtin "sorted") := by decide +kernel
abbrev S (s : String) : Str := Str.ofString s
theorem tl_S (s : String) : TL.tl (S s) = cd s := TL.tl_ofString s
theorem mkS_cd (s : String) : mkS (cd s) = S s := by
  rw [← tl_S]
  exact TL.mk_tl _
theorem tl_mkS (l : Cs) : TL.tl (mkS l) = l := TL.tl_mk l
theorem len_mkS (l : Cs) : (mkS l).length = l.length := by rw [TL.len_tl, tl_mkS]
theorem S_iff {z : Str} {s : String} : z = S s ↔ TL.tl z = cd s := ⟨fun e => by rw [e, tl_S], fun e => TL.ext_tl (by rw [e, tl_S])⟩
theorem mkS_inj {a b : Cs} (h : mkS a = mkS b) : a = b := by rw [← tl_mkS a, h, tl_mkS]
/-! ### addresses of what the top has written -/
structure Ad where
  CE : Addr
  CL : Addr
  CS : Addr
  fL : Addr
  fS : Addr
  DC : Addr
  es : Array DictEntry
  n : Nat
def kindS : Nat → String
  | 0 => ""
  | 1 => "key"
  | _ => "value"
abbrev Cst (mg : Str → Option Value) (x : Str) (v : V) : Prop := ∃ u, mg x = some u ∧ RelV v u
/-- what the top has written -/
structure Bu (P : Program) (w : World) (K : PySem.W.Frag) (mg : Str → Option Value) (a : Ad) : Prop where
  b_isinstance : mg "isinstance" = none
  b_len : mg "len" = none
  b_min : mg "min" = none
  b_sorted : mg "sorted" = none
  b_int : mg "int" = none
  b_bool : mg "bool" = none
  b_str : mg "str" = none
  b_list : mg "list" = none
  b_tuple : mg "tuple" = none
  b_set : mg "set" = none
  b_range : mg "range" = none
  b_enumerate : mg "enumerate" = none
  c_MOST_SIGNS : Cst mg "MOST_SIGNS" (.int 200)
  c_MOST_NUMBER : Cst mg "MOST_NUMBER" (.int (2 ^ 40))
  c_SIGNS : Cst mg "SIGNS" (.str (mkS signs))
  c_MOST_KEY : Cst mg "MOST_KEY" (.int 40)
  c_QUOTE : Cst mg "QUOTE" (.str (S "'"))
  c_FIGURES : Cst mg "FIGURES" (.str (S "0123456789"))
  c_MOST_FIGURES : Cst mg "MOST_FIGURES" (.int 20)
  c_MOST_LINES : Cst mg "MOST_LINES" (.int 200)
  c_MOST_ARGUMENT : Cst mg "MOST_ARGUMENT" (.int (2 ^ 20))
  c_COMMANDS : Cst mg "COMMANDS" (.ref a.DC)
  c_BadLine : Cst mg "BadLine" (.ref a.CL)
  c_BadSteps : Cst mg "BadSteps" (.ref a.CS)
  g_StoreError : mg "StoreError" = some (.ref a.CE)
  bl : MsX.BadTxt P K mg "BadLine" "BadLine.__init__" a.CL a.fL
  bs : MsX.BadTxt P K mg "BadSteps" "BadSteps.__init__" a.CS a.fS
  xBadLine : ExcC K a.CL
  xBadSteps : ExcC K a.CS
  eL : PySem.W.exmOne K (.ref a.CL) (.ref a.CE) = some true
  eS : PySem.W.exmOne K (.ref a.CS) (.ref a.CE) = some true
  kL : PySem.W.kitOne K (.ref a.CL) (.ref a.CL) = some true
  kS : PySem.W.kitOne K (.ref a.CS) (.ref a.CS) = some true
  cmdD : KDict K w a.DC a.es a.n
  cmdN : ∀ z : Str, cmd (TL.tl z) = none → PySem.W.nsIn K a.DC z = some none
  cmdS : ∀ (z : Str) (many more : Nat), cmd (TL.tl z) = some (many, more) → ∃ p : Addr, PySem.W.nsIn K a.DC z = some (some (.ref p)) ∧ ∀ H, SqT K H p [.int many, .str (S (kindS more))]
/-! ### isinstance of a caught error with its dict -/
def rIsED (K : PySem.W.Frag) (D a dd : Addr) : List V → Hp → VK → Prop := fun xs H Q => (∃ fs, H dd = some (.xd fs)) ∧ ∃ (c : V) (cv : Value) (b : Bool), xs = [.ref a, c] ∧ (∀ u, RelV c u → u = cv) ∧ PySem.W.kitOne K (.ref D) cv = some b ∧ Q (.bl b) H
/-- what is asked, the class and the dict open -/
def rIsEX (K : PySem.W.Frag) (D a : Addr) (cls : Value) (d : Option Addr) : List V → Hp → VK → Prop := fun xs H Q => cls = .ref D ∧ ∃ dd, d = some dd ∧ rIsED K D a dd xs H Q
theorem call_isED {X : Cx} {a D : Addr} {cls : Value} {d : Option Addr} {oe : Obj} {pn : List (Addr × Obj)} (C : ExcC X.K D) (hz : Zc cls d oe) (hf : ∃ vs, oe.data = .fields vs) : CallR (X.suite a ((a, oe) :: pn)) (.builtin "isinstance") (rIsEX X.K D a cls d) := by
  intro pins s σ H xs us Q I r h
  obtain ⟨rfl, dd, rfl, ⟨fs, hfs⟩, c, cv, b, rfl, hcv, e, q⟩ := h
  cases r with
  | cons rx rr =>
    cases rr with
    | cons rt rr =>
      cases rr
      cases rx
      have ec := hcv _ rt
      subst ec
      obtain ⟨hget, _⟩ := I.pin (a, oe) (List.mem_append.mpr (.inl List.mem_cons_self))
      obtain ⟨vs, hv⟩ := hf
      have hxd : ObjOk X.prog X.w H s.heap dd (.xd fs) := I.hok dd _ hfs
      obtain ⟨mA, hns, _⟩ := hxd
      obtain ⟨od, ho, _⟩ := lookIn_ns hns
      have J : PySem.W.InstAt s.heap a oe D (some od) := ⟨hget, hz.1, by unfold PySem.W.notCls; rw [hv] <;> rfl, by rw [hz.2]; exact ho⟩
      have hcl : (PySem.W.clsIn X.K D).isSome = true := by
        obtain ⟨cd, hc, _⟩ := PySem.W.any_some C.hd
        rw [hc]
        rfl
      exact PySem.W.kia_one (PySem.W.kitx_exc hcl C.hg C.hk C.hs C.ha C.hn C.ht C.hm) I.kIn J e (fun z => nomatch z) fun tk => ⟨.bl b, H, I.kept (t' := tk) fun _ _ z => z, rfl, q⟩
/-! ### defs by name -/
structure DefX (K : PySem.W.Frag) (mg : Str → Option Value) (x : Str) (st : Stmt) (ps : List Str) : Prop where
  ex : ∃ (f : Addr) (fd : FuncData), L2.Fun K x x st f fd ∧ mg x = some (.ref f) ∧ Binds K fd ps []
/-- a def that may be called by its name -/
structure Cl (P : Program) (w : World) (K : PySem.W.Frag) (mg : Str → Option Value) (base : Heap) (CX : CXT) (k : Nat) (x : Str) (sp : Sp) : Prop where
  ex : ∃ (f : Addr) (fd : FuncData) (ps : List Str), FnOk P w K mg base CX k f fd ps sp ∧ mg x = some (.ref f) ∧ PySem.W.keepIn K (.ref f) = true ∧ Binds K fd ps []
section
variable {P : Program} {w : World} {K : PySem.W.Frag} {mg : Str → Option Value} {base : Heap}
theorem Cl.mono {CX : CXT} {j k : Nat} {x : Str} {sp : Sp} (c : Cl P w K mg base CX j x sp) (h : j ≤ k) : Cl P w K mg base CX k x sp := by
  obtain ⟨f, fd, ps, F, hm, kp, b⟩ := c.ex
  exact ⟨f, fd, ps, F.mono h, hm, kp, b⟩
theorem cl0 {x : Str} {st : Stmt} {N ps : List Str} {k : Nat} {sp : Sp} (F : DefX K mg x st ps) (S : FnScope N ps (defScope st)) (len : ∀ vs H Q E, sp vs H Q E → vs.length = ps.length)
    (hbody : ∀ (f : Addr) (cdv : Value) (A : Around) (outer : List Env) (s : Shared) (H : Hp) (vs : List V) (Q : VK) (E : XK), Room k (A.deeper (envOfC x (defScope st) s.heap.objs.size f cdv)) → sp vs H Q E →
      ∃ t, PSs (cxOf CX0 P w K mg base N x (defScope st) f cdv A outer s H E).nox (defBody st) t ∧ t { nx := fun _ H' => Q .non H', rt := Q } (start N vs) H) : Cl P w K mg base CX0 (k + 1) x sp := by
  obtain ⟨f, fd, F, hm, b⟩ := F.ex
  exact ⟨f, fd, ps, F.ok S len (fun cdv A outer s H vs Q E => hbody f cdv A outer s H vs Q E), hm, F.kp, b⟩
theorem clX {x : Str} {st : Stmt} {N ps : List Str} {k : Nat} {sp : Sp} (F : DefX K mg x st ps) (S : FnScope N ps (defScope st)) (len : ∀ vs H Q E, sp vs H Q E → vs.length = ps.length)
    (hbody : ∀ (f : Addr) (cdv : Value) (A : Around) (outer : List Env) (s : Shared) (H : Hp) (vs : List V) (Q : VK) (E : XK), Room k (A.deeper (envOfC x (defScope st) s.heap.objs.size f cdv)) → sp vs H Q E →
      ∃ t, PSs (cxOf (L2.CX P w) P w K mg base N x (defScope st) f cdv A outer s H E) (defBody st) t ∧ t { nx := fun _ H' => Q .non H', rt := Q } (start N vs) H) : Cl P w K mg base (L2.CX P w) (k + 1) x sp := by
  obtain ⟨f, fd, F, hm, b⟩ := F.ex
  exact ⟨f, fd, ps, F.okX S len (fun cdv A outer s H vs Q E => hbody f cdv A outer s H vs Q E), hm, F.kp, b⟩
end
section
variable {X : Cx} {k j : Nat} {x : Str} {sp : Sp} {p pos : Pos} {e : Expr} {es : List Expr} {t : TA}
theorem pc0 (c : Cl X.prog X.w X.K X.mg X.base CX0 k x sp) (hr : Room j X.A) (hk : k ≤ j) (hg : Gl X x) (ha : PA X (e :: es) t)
    (hdb : (x == ("__debug__" : Str)) = false := by decide) (he : starEach (e :: es) X.env = (false, eval e X.env) :: starEach es X.env := by rfl) (hpl : (backTo pos (starEach es X.env)).any (·.1) = false := by rfl) :
    PE X (.Call (.Name x p) (e :: es) [] pos) (tCall sp [] E0 t) := by
  obtain ⟨f, fd, ps, F, hm, kp, b⟩ := c.ex
  exact pe_call F (hr.mono hk) hg hm kp b .nil pass0 ha hdb he hpl
theorem pc00 (c : Cl X.prog X.w X.K X.mg X.base CX0 k x sp) (hr : Room j X.A) (hk : k ≤ j) (hg : Gl X x) (hdb : (x == ("__debug__" : Str)) = false := by decide) :
    PE X (.Call (.Name x p) [] [] pos) (tCall sp [] E0 tNil) := by
  obtain ⟨f, fd, ps, F, hm, kp, b⟩ := c.ex
  exact pe_call0 F (hr.mono hk) hg hm kp b .nil pass0 hdb
theorem pcX {E : L2.St → XK} (c : Cl X.prog X.w X.K X.mg X.base (L2.CX X.prog X.w) k x sp) (hr : Room j X.A) (hk : k ≤ j) (hx : ∀ σ, PassesAt (L2.CX X.prog X.w) X σ (E σ)) (hg : Gl X x) (ha : PA X (e :: es) t)
    (hdb : (x == ("__debug__" : Str)) = false := by decide) (he : starEach (e :: es) X.env = (false, eval e X.env) :: starEach es X.env := by rfl) (hpl : (backTo pos (starEach es X.env)).any (·.1) = false := by rfl) :
    PE X (.Call (.Name x p) (e :: es) [] pos) (tCallS sp E t) := by
  obtain ⟨f, fd, ps, F, hm, kp, b⟩ := c.ex
  exact pe_callS F (hr.mono hk) hg hm kp b hx ha hdb he hpl
theorem passNo {X : Cx} (σ : L2.St) : PassesAt (L2.CX X.prog X.w) X σ E0 := fun _ _ _ _ _ _ c => by
  obtain ⟨_, _, _, _, _, _, _, _, _, _, _, _, f⟩ := c
  exact f.elim
/-- out of this def, as it came -/
theorem passOut {X : Cx} {E : XK} (tk : Takes X (fun cls d _ H => E cls d H)) (σ : L2.St) : PassesAt (L2.CX X.prog X.w) X σ E := fun _ _ _ e s' I c => tk e s' (XE.of_call I (fun _ _ _ h => h) c)
end
/-! ### heaps -/
theorem same_upd {H : Hp} {p : Addr} {o : HO} (h : H p = none) : Same H (upd H p o) := fun b x e => by
  rw [upd_ne (ne_of_none e h)]
  exact e
def TupK (H H' : Hp) : Prop := ∀ b xs, H b = some (.tup xs) → H' b = some (.tup xs)
theorem Same.tk {H H' : Hp} (h : Same H H') : TupK H H' := fun b xs e => h b _ e
theorem TupK.trans {H H1 H2 : Hp} (a : TupK H H1) (b : TupK H1 H2) : TupK H H2 := fun c xs e => b c xs (a c xs e)
theorem TupK.refl (H : Hp) : TupK H H := fun _ _ e => e
/-! ### data -/
def PairAt (H : Hp) (b : Addr) (p : Nat × Nat) : Prop := H b = some (.tup [.int p.1, .int p.2])
def LinksAt (H : Hp) (l : Addr) (ls : List (Nat × Nat)) : Prop := ∃ bs : List Addr, H l = some (.tup (bs.map V.ref)) ∧ Paired (PairAt H) bs ls
/-- v is the step st -/
def StepAt (H : Hp) (v : V) : Stp → Prop
  | .flat w xs => ∃ a, v = .ref a ∧ H a = some (.tup (.str (mkS w) :: xs))
  | .world n ls => ∃ a l, v = .ref a ∧ H a = some (.tup [.str (S "world"), .int n, .ref l]) ∧ LinksAt H l ls
theorem PairAt.keep {H H' : Hp} {b : Addr} {p : Nat × Nat} (h : PairAt H b p) (k : TupK H H') : PairAt H' b p := k _ _ h
theorem LinksAt.keep {H H' : Hp} {l : Addr} {ls : List (Nat × Nat)} (h : LinksAt H l ls) (k : TupK H H') : LinksAt H' l ls := by
  obtain ⟨bs, e, p⟩ := h
  exact ⟨bs, k _ _ e, L2.Paired.mapP p fun a b h => h.keep k⟩
theorem StepAt.keep {H H' : Hp} {v : V} {st : Stp} (h : StepAt H v st) (k : TupK H H') : StepAt H' v st := by
  cases st with
  | flat w xs =>
    obtain ⟨a, e, h⟩ := h
    exact ⟨a, e, k _ _ h⟩
  | world n ls =>
    obtain ⟨a, l, e, h, g⟩ := h
    exact ⟨a, l, e, k _ _ h, g.keep k⟩
abbrev StepsAt (H : Hp) (vs : List V) (sts : List Stp) : Prop := Paired (StepAt H) vs sts
theorem StepsAt.keep {H H' : Hp} {vs : List V} {sts : List Stp} (h : StepsAt H vs sts) (k : TupK H H') : StepsAt H' vs sts := L2.Paired.mapP h fun _ _ h => h.keep k
theorem Paired.len {α β : Type} {F : α → β → Prop} : ∀ {l : List α} {m : List β}, Paired F l m → l.length = m.length
  | _, _, .nil => rfl
  | _, _, .cons _ t => by rw [List.length_cons, List.length_cons, Paired.len t]
theorem Paired.at_ {α β : Type} {F : α → β → Prop} : ∀ {l : List α} {m : List β} {i : Nat} {x : α}, Paired F l m → l[i]? = some x → ∃ y, m[i]? = some y ∧ F x y
  | _, _, 0, _, .cons r _, e => ⟨_, rfl, by simp at e; subst e; exact r⟩
  | _, _, i + 1, _, .cons _ t, e => by
    obtain ⟨y, h1, h2⟩ := Paired.at_ (i := i) t (by simpa using e)
    exact ⟨y, by simpa using h1, h2⟩
theorem Paired.app {α β : Type} {F : α → β → Prop} : ∀ {l l' : List α} {m m' : List β}, Paired F l m → Paired F l' m' → Paired F (l ++ l') (m ++ m')
  | _, _, _, _, .nil, h => h
  | _, _, _, _, .cons r t, h => .cons r (Paired.app t h)
theorem Paired.tk_ {α β : Type} {F : α → β → Prop} : ∀ {l : List α} {m : List β} (n : Nat), Paired F l m → Paired F (l.take n) (m.take n)
  | _, _, 0, _ => .nil
  | _, _, _ + 1, .nil => .nil
  | _, _, n + 1, .cons r t => .cons r (Paired.tk_ n t)
theorem Paired.dr_ {α β : Type} {F : α → β → Prop} : ∀ {l : List α} {m : List β} (n : Nat), Paired F l m → Paired F (l.drop n) (m.drop n)
  | _, _, 0, h => h
  | _, _, _ + 1, .nil => .nil
  | _, _, n + 1, .cons _ t => Paired.dr_ n t
/-! ### deep == of data: what is needed -/
def dV : V → PyData
  | .non => .none
  | .bl b => .bool b
  | .int i => .int i
  | .str z => .str z
  | _ => .none
theorem dp_flat {K : PySem.W.Frag} {H : Hp} {v : V} (h : flatV v = true) : Dp K H v (dV v) := by
  cases v with
  | non => exact .non
  | bl b => exact .bl b
  | int i => exact .int i
  | str z => exact .str z
  | _ => cases h
theorem dp_flats {K : PySem.W.Frag} {H : Hp} : ∀ {xs : List V}, xs.all flatV = true → DpAll K H xs (xs.map dV)
  | [], _ => .nil
  | x :: r, h => by
    rw [List.all_cons, Bool.and_eq_true] at h
    exact .cons (dp_flat h.1) (dp_flats h.2)
theorem sizeL : (sizeLine : Nat) = 16777216 := sizeLine_eq
end Ms

set_option Elab.async false
set_option linter.all false
set_option maxRecDepth 100000
set_option maxHeartbeats 4000000
/-! # The walk, 1: is_in, is_text, is_value, is_key, word_end, words_of, count_in, text_in, value_in, word_of_value -/
namespace Ms
open PySem PySem.Spec PyProof.Rows L2
def isIntV : V → Bool
  | .int _ => true
  | .bl _ => true
  | _ => false
def isBlV : V → Bool
  | .bl _ => true
  | _ => false
def isStrV : V → Bool
  | .str _ => true
  | _ => false
section
variable {K : PySem.W.Frag} {H : Hp} {v : V}
/-- what isinstance asks, for one built-in class -/
abbrev Isi (K : PySem.W.Frag) (H : Hp) (v : V) (n : String) (b : Bool) : Prop := ∃ t, TyX K H v t ∧ PySem.W.kitOne K t (.type n) = some b
theorem isi_int (f : flatV v = true) : Isi K H v "int" (isIntV v) := by
  cases v with
  | non => exact ⟨_, .base .non, rfl⟩
  | bl b => exact ⟨_, .base (.bl b), rfl⟩
  | int b => exact ⟨_, .base (.int b), rfl⟩
  | str b => exact ⟨_, .base (.str b), rfl⟩
  | _ => cases f
theorem isi_bool (f : flatV v = true) : Isi K H v "bool" (isBlV v) := by
  cases v with
  | non => exact ⟨_, .base .non, rfl⟩
  | bl b => exact ⟨_, .base (.bl b), rfl⟩
  | int b => exact ⟨_, .base (.int b), rfl⟩
  | str b => exact ⟨_, .base (.str b), rfl⟩
  | _ => cases f
theorem isi_str (f : flatV v = true) : Isi K H v "str" (isStrV v) := by
  cases v with
  | non => exact ⟨_, .base .non, rfl⟩
  | bl b => exact ⟨_, .base (.bl b), rfl⟩
  | int b => exact ⟨_, .base (.int b), rfl⟩
  | str b => exact ⟨_, .base (.str b), rfl⟩
  | _ => cases f
theorem isi_tupF (f : flatV v = true) : Isi K H v "tuple" false := by
  cases v with
  | non => exact ⟨_, .base .non, rfl⟩
  | bl b => exact ⟨_, .base (.bl b), rfl⟩
  | int b => exact ⟨_, .base (.int b), rfl⟩
  | str b => exact ⟨_, .base (.str b), rfl⟩
  | _ => cases f
theorem isi_tup {a : Addr} {xs : List V} (e : H a = some (.tup xs)) : Isi K H (.ref a) "tuple" true := ⟨_, .base (.tup e), rfl⟩
theorem isi_lst {a : Addr} {xs : List V} (e : H a = some (.lst xs)) : Isi K H (.ref a) "tuple" false := ⟨_, .base (.lst e), rfl⟩
theorem isi_strR {a : Addr} {xs : List V} (e : H a = some (.tup xs)) : Isi K H (.ref a) "str" false := ⟨_, .base (.tup e), rfl⟩
end
abbrev sIsIn : Stmt := topS 9
theorem scIsIn : FnScope ["value", "least", "most"] ["value", "least", "most"] (defScope sIsIn) := ⟨rfl, rfl, rfl, by decide +kernel, rfl, by decide +kernel, by decide +kernel⟩
def spIsIn : Sp := fun vs H Q _ => ∃ v lo hi, vs = [v, .int lo, .int hi] ∧ flatV v = true ∧ Q (.bl (isInV lo hi v)) H
section
variable {P : Program} {w : World} {K : PySem.W.Frag} {mg : Str → Option Value} {base : Heap} {a : Ad} {k : Nat}
theorem ok_is_in (F : DefX K mg "is_in" sIsIn ["value", "least", "most"]) (B : Bu P w K mg a) : Cl P w K mg base CX0 (k + 1) "is_in" spIsIn :=
  cl0 F scIsIn (fun vs H Q E ⟨_, _, _, e, _⟩ => by rw [e]; rfl) (fun f cdv A outer s H vs Q E hr h => by
    obtain ⟨v, lo, hi, rfl, fl, q⟩ := h
    refine ⟨_, (pss_one (ps_ret (pe_and (pe_callB call_isi (by rfl) B.b_isinstance bt_isinstance (pa_cons (pv 0) (pa_cons (pe_bltn (v := .ty "int") (by rfl) B.b_int bt_int rfl) pa_nil))) (pe_and (pe_not (pe_callB call_isi (by rfl) B.b_isinstance bt_isinstance (pa_cons (pv 0) (pa_cons (pe_bltn (v := .ty "bool") (by rfl) B.b_bool bt_bool rfl) pa_nil)))) (pe_one (pe_chain op_le op_le (pv 1) (pv 0) (pv 2))))))), ?_⟩
    obtain ⟨t1, y1, k1⟩ := isi_int (K := K) (H := H) fl
    obtain ⟨t2, y2, k2⟩ := isi_bool (K := K) (H := H) fl
    refine ⟨v, rfl, _, _, _, _, _, rfl, .ty _, y1, k1, _, rfl, ?_⟩
    cases v with
    | int i =>
      refine iteT ⟨_, rfl, _, _, _, _, _, rfl, .ty _, y2, k2, _, rfl, _, rfl, ?_⟩
      refine iteT ⟨_, rfl, _, rfl, _, _, rfl, rfl, _, rfl, ?_⟩
      refine ite2 (fun c => ?_) (fun c => ?_)
      · refine ⟨_, rfl, _, _, rfl, rfl, ?_⟩
        have e : isInV lo hi (.int i) = decide (i ≤ hi) := by rw [isInV, decide_eq_true (of_decide_eq_true c), Bool.true_and]
        rw [e] at q
        exact q
      · have e : isInV lo hi (.int i) = false := by
          rw [isInV, decide_eq_false (fun z => c (decide_eq_true z)), Bool.false_and]
        rw [e] at q
        exact q
    | bl b =>
      refine iteT ⟨_, rfl, _, _, _, _, _, rfl, .ty _, y2, k2, _, rfl, _, rfl, iteF q⟩
    | _ => exact iteF q)
end
/-! ### the signs of a text that a test takes -/
theorem lc_filter {i : Nat} {tt : TT} {z : Str} {σ : L2.St} {H : Hp} {D : Addr} {Qd : Hp → Prop} (p : Nat → Bool) (hi : i < σ.length) (hz : z.length ≤ sizeLine)
    (ht : ∀ c H2 (R : Bool → Hp → Prop), R (p c) H2 → tt ((wipe σ [i]).set i (some (.str ⟨#[c]⟩))) H2 R)
    (q : Qd (upd H D (.lst ((z.cps.toList.filter p).map fun c => V.str ⟨#[c]⟩)))) :
    ∃ W : Nat → Nat → Hp → Prop, (∃ m, W 0 m (upd H D (.lst []))) ∧ ∀ j m H, W j m H →
      ((Its z).stop j H ∧ Qd H) ∨ ((Its z).go j H ∧ ∃ Nx : Hp → Prop, (∀ H', Nx H' → ∃ m', m' < m ∧ W (j + 1) m' H') ∧ ∀ x H', (Its z).yld j H x H' → gName i x (wipe σ [i]) H' fun σ2 H2 => wipe σ2 [i] = wipe σ [i] ∧ tt σ2 H2 fun b H3 =>
        if b = true then tVar i σ2 H3 fun y H4 => ∃ acc, H4 D = some (.lst acc) ∧ acc.length < sizeLine ∧ Nx (upd H4 D (.lst (acc ++ [y]))) else Nx H3) := by
  refine lc_it walk_str (fun k H' => H' = upd H D (.lst (((z.cps.toList.take k).filter p).map fun c => V.str ⟨#[c]⟩))) rfl (fun _ _ _ _ => trivial) ?_ ?_
  · rintro k x H1 H2 hk rfl ⟨rfl, c, hc, rfl⟩
    have hl : (wipe σ [i]).length = σ.length := wipe_length _ _
    have hc' : z.cps.toList[k]? = some c := by rw [Array.getElem?_toList]; exact hc
    have tk : z.cps.toList.take (k + 1) = z.cps.toList.take k ++ [c] := by rw [List.take_succ, hc']; rfl
    refine ⟨?_, ht c _ _ ?_⟩
    · show ((wipe σ []).set i none |>.set i _).set i none = (wipe σ []).set i none
      rw [List.set_set, List.set_set]
    · cases hp : p c with
      | true =>
        refine iteT ⟨_, List.getElem?_set_self (by rw [hl]; exact hi), _, upd_same, ?_, ?_⟩
        · rw [List.length_map]
          have h1 : ((z.cps.toList.take k).filter p).length ≤ k := Nat.le_trans (List.length_filter_le _ _) (by rw [List.length_take]; omega)
          have h2 : z.cps.size = z.length := rfl
          omega
        · rw [upd_upd, tk, List.filter_append, List.map_append]
          have e : List.filter p [c] = [c] := by rw [List.filter_cons, if_pos hp]; rfl
          rw [e]
          rfl
      | false =>
        refine iteF ?_
        rw [tk, List.filter_append]
        have e : List.filter p [c] = [] := by rw [List.filter_cons, if_neg (by rw [hp]; exact Bool.false_ne_true)]; rfl
        rw [e, List.append_nil]
  · rintro H' rfl
    have e : z.cps.toList.take z.cps.size = z.cps.toList := List.take_of_length_le (by rw [Array.length_toList]; exact Nat.le_refl _)
    rw [e]
    exact q
/-! ### == and != with an empty list, an empty tuple -/
def rEqE (K : PySem.W.Frag) (neg : Bool) : R2 := fun x y H Q => ∃ a b xs, x = .ref a ∧ y = .ref b ∧ ((SqL K H a xs ∧ SqL K H b []) ∨ (SqT K H a xs ∧ SqT K H b [])) ∧ Q (.bl (if neg then !xs.isEmpty else xs.isEmpty)) H
theorem empty_of {xs : List V} {its : List Value} (r : Vals xs its) : its.isEmpty = xs.isEmpty := by
  cases r <;> rfl
theorem op_eqE {X : Cx} (hu : X.A.units + 64 < cLine) : OpR X (compareOp .Eq) (rEqE X.K false) := by
  intro pins s σ H x y v u Q I rx ry h
  obtain ⟨a, b, xs, rfl, rfl, hq, q⟩ := h
  cases rx
  cases ry
  rcases hq with ⟨h1, h2⟩ | ⟨h1, h2⟩
  · obtain ⟨its, r, pl, hz⟩ := I.list h1
    obtain ⟨its2, r2, pl2, hz2⟩ := I.list h2
    cases r2
    cases r with
    | nil => exact SeqAt.eq_listAt (e := fun _ => true) pl.isList pl2.isList rfl (by omega) (fun j h1 h2 => absurd h1 (by simp)) ⟨.bl true, H, I, rfl, q⟩
    | cons r t => exact SeqAt.eq_list_lengthsAt pl.isList pl2.isList (by simp) (by omega) ⟨.bl false, H, I, rfl, q⟩
  · obtain ⟨its, r, pl, hz⟩ := I.tuple h1
    obtain ⟨its2, r2, pl2, hz2⟩ := I.tuple h2
    cases r2
    refine SeqAt.eq_tupleAt (e := fun _ => true) pl pl2 (by omega) (fun j h1 h2 => absurd h2 (by simp)) ⟨_, H, I, ?_, q⟩
    cases r with
    | nil => rfl
    | cons r t =>
      show Value.bool _ = Value.bool false
      simp
theorem op_neE {X : Cx} (hu : X.A.units + 64 < cLine) : OpR X (compareOp .NotEq) (rEqE X.K true) := by
  intro pins s σ H x y v u Q I rx ry h
  obtain ⟨a, b, xs, rfl, rfl, hq, q⟩ := h
  cases rx
  cases ry
  rcases hq with ⟨h1, h2⟩ | ⟨h1, h2⟩
  · obtain ⟨its, r, pl, hz⟩ := I.list h1
    obtain ⟨its2, r2, pl2, hz2⟩ := I.list h2
    cases r2
    cases r with
    | nil => exact SeqAt.RcNeAt.lists (e := fun _ => true) pl.isList pl2.isList rfl (by omega) (fun j h1 h2 => absurd h1 (by simp)) _ _ _ _ ⟨.bl false, H, I, rfl, q⟩
    | cons r t => exact SeqAt.RcNeAt.lists_lengths pl.isList pl2.isList (by simp) (by omega) _ _ _ _ ⟨.bl true, H, I, rfl, q⟩
  · obtain ⟨its, r, pl, hz⟩ := I.tuple h1
    obtain ⟨its2, r2, pl2, hz2⟩ := I.tuple h2
    cases r2
    refine SeqAt.RcNeAt.tuples (e := fun _ => true) pl pl2 (by omega) (fun j h1 h2 => absurd h2 (by simp)) _ _ _ _ ⟨_, H, I, ?_, q⟩
    cases r with
    | nil => rfl
    | cons r t =>
      show Value.bool _ = Value.bool true
      simp
theorem all_strs : ∀ l : Cs, (l.map fun c => V.str ⟨#[c]⟩).all flatV = true
  | [] => rfl
  | c :: r => by rw [List.map_cons, List.all_cons, all_strs r]; rfl
theorem filter_nil {p : Nat → Bool} : ∀ {l : Cs}, (l.filter p).isEmpty = l.all (fun c => !p c)
  | [] => rfl
  | c :: r => by
    rw [List.filter_cons, List.all_cons]
    cases h : p c with
    | true => rfl
    | false => exact filter_nil
/-! ### is_text, is_value, is_key -/
/-- a text is short enough -/
def Bd (v : V) : Prop := ∀ z, v = .str z → z.length ≤ 4000000
theorem Bd.ok {z : Str} (h : Bd (.str z)) : z.length ≤ sizeLine := Nat.le_trans (h z rfl) (by decide)
theorem inNil {K : PySem.W.Frag} {H : Hp} {a b : Addr} {xs : List V} (hb : H b = none) (ha : H a = some (.lst xs)) : (SqL K (upd H b (.lst [])) a xs ∧ SqL K (upd H b (.lst [])) b []) ∨ (SqT K (upd H b (.lst [])) a xs ∧ SqT K (upd H b (.lst [])) b []) :=
  .inl ⟨.inl (.inl (same_upd hb _ _ ha)), .inl (.inl upd_same)⟩
abbrev sIsText : Stmt := topS 10
theorem scIsText : FnScope ["value", "most", "sign"] ["value", "most"] (defScope sIsText) := ⟨rfl, rfl, rfl, by decide +kernel, rfl, by decide +kernel, by decide +kernel⟩
def spIsText : Sp := fun vs H Q _ => ∃ v, ∃ most : Nat, vs = [v, .int most] ∧ flatV v = true ∧ Bd v ∧ ∀ H', Same H H' → Q (.bl (isTextV most v)) H'
section
variable {P : Program} {w : World} {K : PySem.W.Frag} {mg : Str → Option Value} {base : Heap} {a : Ad} {k : Nat}
theorem ok_is_text (F : DefX K mg "is_text" sIsText ["value", "most"]) (B : Bu P w K mg a) : Cl P w K mg base CX0 (k + 1) "is_text" spIsText :=
  cl0 F scIsText (fun vs H Q E ⟨_, _, e, _⟩ => by rw [e]; rfl) (fun f cdv A outer s H vs Q E hr h => by
    obtain ⟨v, most, rfl, fl, bd, q⟩ := h
    refine ⟨_, (pss_cons (ps_if (PW.pt (pw_or (pt_not (pt_val (pe_callB call_isi (by rfl) B.b_isinstance bt_isinstance (pa_cons (pv 0) (pa_cons (pe_bltn (v := .ty "str") (by rfl) B.b_str bt_str rfl) pa_nil))))) (pw_or1 (pt_cmpR op_gt (pe_callB call_len_str (by rfl) B.b_len bt_len (pa_cons (pv 0) pa_nil)) (pv 1) (nomark _))))) (pss_one (ps_ret pe_bl)) pss_nil)
    (pss_one (ps_ret (pe_cmpR (op_eqE hr.units) (pe_lc (own := [("sign", 2)]) (g := (gName 2)) rfl scIsText.nd (pi_str (pv 0)) (blkOk_by (own := [("sign", 2)]) (N := ["value", "most", "sign"]) (sc := defScope sIsText) (by decide +kernel)) (fun _ _ _ _ _ => (pg_name (i := 2) scIsText.nd rfl (Or.inl rfl))) (fun _ _ _ _ _ => (pts_one (pt_cmpR op_notIn_sign (pv 2) (C8.pe_gc rfl B.c_SIGNS) (by rfl)))) (fun _ _ _ _ _ => (pv 2))) (pe_lst pa_nil) (nomark _))))), ?_⟩
    obtain ⟨t1, y1, k1⟩ := isi_str (K := K) (H := H) fl
    refine ⟨v, rfl, _, _, _, _, _, rfl, .ty _, y1, k1, _, rfl, ?_⟩
    cases v with
    | str z =>
      refine iteF ⟨_, rfl, _, rfl, bd.ok, _, rfl, _, _, rfl, rfl, _, rfl, ?_⟩
      refine ite2 (fun c => ?_) (fun c => ?_)
      · have c' := of_decide_eq_true c
        have e : isTextV most (.str z) = false := by
          rw [isTextV, isText, decide_eq_false (by rw [← TL.len_tl]; omega), Bool.false_and]
        rw [e] at q
        exact q H (Same.refl H)
      · have c' : z.length ≤ most := by
          by_cases g : z.length ≤ most
          · exact g
          · exact absurd (decide_eq_true (by omega)) c
        refine ⟨_, rfl, z, rfl, fun D hD => lc_filter (fun c => !decide (c ∈ signs)) (Nat.lt_succ_self 2) bd.ok (fun c H2 R r => ⟨_, rfl, c, mkS signs, rfl, rfl, _, rfl, r⟩) ?_⟩
        refine ⟨by decide, fun p hp => ⟨D, p, _, rfl, rfl, inNil hp upd_same, ?_⟩⟩
        have e : isTextV most (.str z) = (List.map (fun c => V.str ⟨#[c]⟩) (List.filter (fun c => !decide (c ∈ signs)) z.cps.toList)).isEmpty := by
          rw [List.isEmpty_map, filter_nil, isTextV, isText, decide_eq_true (by rw [← TL.len_tl]; exact c'), Bool.true_and]
          exact List.all_congr rfl fun c => by rw [Bool.not_not]
        rw [e] at q
        exact q _ ((same_upd hD).trans (same_upd hp))
    | _ => exact iteT (q H (Same.refl H)))
end
end Ms

set_option Elab.async false
set_option linter.all false
set_option maxRecDepth 100000
set_option maxHeartbeats 4000000
/-! # Plain laws of texts and slices; loops -/
namespace Ms
open PySem PySem.Spec PyProof.Rows L2
theorem cut_nn {z : Str} {a b : Nat} : TL.tl (cutS z (some (a : Int)) (some (b : Int))) = ((TL.tl z).drop a).take (b - a) := by
  have hl := TL.len_tl z
  show ((TL.tl z).drop _).take _ = _
  rw [HT.sIx_nat, HT.sIx_nat]
  by_cases h1 : a ≤ z.length
  · rw [Nat.min_eq_left h1]
    by_cases h2 : b ≤ z.length
    · rw [Nat.min_eq_left h2]
    · rw [Nat.min_eq_right (by omega), List.take_of_length_le (by rw [List.length_drop]; omega), List.take_of_length_le (by rw [List.length_drop]; omega)]
  · rw [Nat.min_eq_right (by omega : z.length ≤ a), List.drop_of_length_le (by omega), List.drop_of_length_le (by omega)]
    rw [List.take_nil, List.take_nil]
theorem cut_0n {z : Str} {b : Nat} : TL.tl (cutS z none (some (b : Int))) = (TL.tl z).take b := by
  have hl := TL.len_tl z
  show ((TL.tl z).drop 0).take _ = _
  rw [HT.sIx_nat]
  show (TL.tl z).take (min b z.length - 0) = _
  rw [Nat.sub_zero]
  by_cases h2 : b ≤ z.length
  · rw [Nat.min_eq_left h2]
  · rw [Nat.min_eq_right (by omega), List.take_of_length_le (by omega), List.take_of_length_le (by omega)]
theorem cut_n {z : Str} {a : Nat} : TL.tl (cutS z (some (a : Int)) none) = (TL.tl z).drop a := by
  have hl := TL.len_tl z
  show ((TL.tl z).drop _).take _ = _
  rw [HT.sIx_nat, HT.sIx_none]
  by_cases h1 : a ≤ z.length
  · rw [Nat.min_eq_left h1, List.take_of_length_le (by rw [List.length_drop]; omega)]
  · rw [Nat.min_eq_right (by omega), List.drop_of_length_le (by omega), List.drop_of_length_le (by omega), List.take_nil]
theorem cut_1m {z : Str} (h : 1 ≤ z.length) : TL.tl (cutS z (some (1 : Int)) (some (-1))) = ((TL.tl z).drop 1).dropLast := by
  have hl := TL.len_tl z
  have e1 : HT.sIx z.length 0 (some (1 : Int)) = 1 := by
    have e := HT.sIx_nat z.length 0 1
    have e' : min 1 z.length = 1 := Nat.min_eq_left h
    rw [e'] at e
    exact e
  have e2 : HT.sIx z.length z.length (some (-1)) = z.length - 1 := by
    show (if (-1 : Int) < 0 then ((-1 : Int) + (z.length : Int)).toNat else min (-1 : Int).toNat z.length) = _
    rw [if_pos (by decide)]
    omega
  show ((TL.tl z).drop _).take _ = _
  rw [e1, e2, List.dropLast_eq_take, List.length_drop, ← hl]
theorem cut_len {z : Str} {lo hi : Option Int} (h : Bd (.str z)) : Bd (.str (cutS z lo hi)) := fun y e => by
  cases e
  exact Nat.le_trans (cutS_length z lo hi) (h z rfl)
theorem bd_mkS {l : Cs} (h : l.length ≤ 4000000) : Bd (.str (mkS l)) := fun y e => by
  cases e
  rw [len_mkS]
  exact h
theorem atI_neg1 {α : Type} {l : List α} {v : α} (h : l.getLast? = some v) : atI l (-1) = some v := by
  obtain ⟨i, e⟩ := List.getLast?_eq_some_iff.mp h
  rw [e]
  exact atI_last _ _
theorem str_eq {a b : Str} : decide (V.str a = V.str b) = decide (TL.tl a = TL.tl b) := by
  by_cases h : a = b
  · subst h
    rw [decide_eq_true rfl, decide_eq_true rfl]
  · rw [decide_eq_false (fun e => h (by injection e)), decide_eq_false (fun e => h (TL.ext_tl e))]
theorem sg_eq {c : Nat} {s : String} {d : Nat} (hs : cd s = [d]) : decide (V.str ⟨#[c]⟩ = V.str (S s)) = decide (c = d) := by
  rw [str_eq, tl_S, hs]
  show decide ([c] = [d]) = _
  by_cases h : c = d
  · subst h
    rw [decide_eq_true rfl, decide_eq_true rfl]
  · rw [decide_eq_false (fun e => h (by injection e)), decide_eq_false h]
theorem digits_lt : ∀ l : Cs, PySem.NumText.AllDigits l → valD l < 10 ^ l.length := by
  have go : ∀ (l : Cs) (a k : Nat), PySem.NumText.AllDigits l → a < 10 ^ k → l.foldl (fun a c => a * 10 + (c - 48)) a < 10 ^ (k + l.length) := by
    intro l
    induction l with
    | nil => intro a k _ h; exact h
    | cons c r ih =>
      intro a k hd h
      rw [List.foldl_cons, List.length_cons]
      have := ih (a * 10 + (c - 48)) (k + 1) hd.tail (by
        have := hd c List.mem_cons_self
        rw [Nat.pow_succ]
        omega)
      rw [show k + (r.length + 1) = k + 1 + r.length by omega]
      exact this
  intro l h
  have := go l 0 0 h (by decide)
  rw [Nat.zero_add] at this
  exact this
theorem log_ok {n : Nat} (h : n < 10 ^ 20) : ((n : Int)).natAbs.log2 < 1920 := by
  rw [Int.natAbs_natCast]
  by_cases h0 : n = 0
  · subst h0
    decide
  · have := (Nat.log2_lt h0).mpr (show n < 2 ^ 1920 from Nat.lt_of_lt_of_le h (by decide +kernel))
    exact this
theorem mCount_spec (l : Cs) : mCount l = if l = [] ∨ 20 < l.length ∨ l.all isFig = false then none else if TL.numL (valD l) = l then some (valD l) else none := rfl
/-! ### scanning -/
theorem tw_next {p : Nat → Bool} : ∀ {l : Cs} {j : Nat} {c : Nat}, j ≤ (l.takeWhile p).length → l[j]? = some c → p c = true → j + 1 ≤ (l.takeWhile p).length
  | [], _, _, _, e, _ => by simp at e
  | d :: r, 0, c, _, e, h => by
    simp at e
    subst e
    rw [List.takeWhile_cons, if_pos h, List.length_cons]
    omega
  | d :: r, j + 1, c, hj, e, h => by
    rw [List.takeWhile_cons] at hj ⊢
    by_cases hd : p d = true
    · rw [if_pos hd] at hj ⊢
      rw [List.length_cons] at hj ⊢
      have := tw_next (l := r) (j := j) (c := c) (by omega) (by simpa using e) h
      omega
    · rw [if_neg hd] at hj
      simp at hj
theorem tw_stop {p : Nat → Bool} : ∀ {l : Cs} {j : Nat}, j ≤ (l.takeWhile p).length → (∀ c, l[j]? = some c → p c = false) → j = (l.takeWhile p).length
  | [], j, hj, _ => by simp at hj; simp [hj]
  | d :: r, 0, _, h => by
    have := h d rfl
    rw [List.takeWhile_cons, if_neg (by rw [this]; exact Bool.false_ne_true)]
    rfl
  | d :: r, j + 1, hj, h => by
    rw [List.takeWhile_cons] at hj ⊢
    by_cases hd : p d = true
    · rw [if_pos hd] at hj ⊢
      rw [List.length_cons] at hj ⊢
      rw [tw_stop (l := r) (j := j) (by omega) (fun c hc => h c (by simpa using hc))]
    · rw [if_neg hd] at hj
      simp at hj
theorem tw_le {p : Nat → Bool} (l : Cs) : (l.takeWhile p).length ≤ l.length := (List.takeWhile_sublist p).length_le
theorem while_scan {c : TT} {tb : TS} {D : Ends} {x y : V} {H : Hp} {l : Cs} (p : Nat → Bool) (b0 : Nat)
    (hc : ∀ j (R : Bool → Hp → Prop), j ≤ l.length → (∀ b, (∀ c, l[j]? = some c → p c = b) → (l[j]? = none → b = false) → R b H) → c [some x, some y, some (.int (b0 + j : Nat))] H R)
    (hb : ∀ j (E : Ends), E.nx [some x, some y, some (.int (b0 + j + 1 : Nat))] H → tb E [some x, some y, some (.int (b0 + j : Nat))] H)
    (q : D.nx [some x, some y, some (.int (b0 + (l.takeWhile p).length : Nat))] H) : tWhile c tb D [some x, some y, some (.int (b0 : Nat))] H := by
  refine ⟨fun m σ' H' => ∃ j, σ' = [some x, some y, some (.int (b0 + j : Nat))] ∧ H' = H ∧ j ≤ (l.takeWhile p).length ∧ m = l.length - j, ⟨_, 0, rfl, rfl, Nat.zero_le _, rfl⟩, ?_⟩
  rintro m σ' H' ⟨j, rfl, rfl, hj, rfl⟩
  have hl := tw_le (p := p) l
  refine hc j _ (by omega) fun b h1 h2 => ?_
  cases b with
  | true =>
    refine iteT ?_
    cases e : l[j]? with
    | none => exact absurd (h2 e) (by decide)
    | some c =>
      have hn := tw_next hj e (h1 c e)
      exact ⟨fun σ2 H2 => σ2 = [some x, some y, some (.int (b0 + j + 1 : Nat))] ∧ H2 = H', fun σ2 H2 ⟨e1, e2⟩ => ⟨l.length - (j + 1), by omega, j + 1, e1, e2, hn, rfl⟩, hb j _ ⟨rfl, rfl⟩⟩
  | false =>
    refine iteF ?_
    have := tw_stop hj fun c hc => h1 c hc
    rw [this]
    exact q
end Ms

set_option Elab.async false
set_option linter.all false
set_option maxRecDepth 100000
set_option maxHeartbeats 4000000
/-! # The walk, 1: is_value, is_key, word_end, count_in, text_in, value_in, word_of_value, words_of -/
namespace Ms
open PySem PySem.Spec PyProof.Rows L2
section
variable {P : Program} {w : World} {K : PySem.W.Frag} {mg : Str → Option Value} {base : Heap} {a : Ad} {k : Nat}
abbrev sIsValue : Stmt := topS 11
theorem scIsValue : FnScope ["value"] ["value"] (defScope sIsValue) := ⟨rfl, rfl, rfl, by decide +kernel, rfl, by decide +kernel, by decide +kernel⟩
abbrev sIsKey : Stmt := topS 14
theorem scIsKey : FnScope ["value"] ["value"] (defScope sIsKey) := ⟨rfl, rfl, rfl, by decide +kernel, rfl, by decide +kernel, by decide +kernel⟩
def spIsValue : Sp := fun vs H Q _ => ∃ v, vs = [v] ∧ flatV v = true ∧ Bd v ∧ ∀ H', Same H H' → Q (.bl (isValueV v)) H'
def spIsKey : Sp := fun vs H Q _ => ∃ v, vs = [v] ∧ flatV v = true ∧ Bd v ∧ ∀ H', Same H H' → Q (.bl (isKeyV v)) H'
theorem ok_is_value (F : DefX K mg "is_value" sIsValue ["value"]) (B : Bu P w K mg a) (c_is_in : Cl P w K mg base CX0 k "is_in" spIsIn) (c_is_text : Cl P w K mg base CX0 k "is_text" spIsText) : Cl P w K mg base CX0 (k + 1) "is_value" spIsValue :=
  cl0 F scIsValue (fun vs H Q E h => by obtain ⟨_, e, _⟩ := h; rw [e]; rfl) (fun f cdv A outer s H vs Q E hr h => by
    obtain ⟨v, rfl, fl, bd, q⟩ := h
    refine ⟨_, (pss_cons (ps_if (PW.pt (pw_or (pt_cmpR op_isN (pv 0) pe_non (nomark _)) (pw_or1 (pt_val (pc0 c_is_text hr (Nat.le_refl _) rfl (pa_cons (pv 0) (pa_cons (C8.pe_gc rfl B.c_MOST_SIGNS) pa_nil))))))) (pss_one (ps_ret pe_bl)) pss_nil)
    (pss_one (ps_ret (pc0 c_is_in hr (Nat.le_refl _) rfl (pa_cons (pv 0) (pa_cons (pe_un un_neg (C8.pe_gc rfl B.c_MOST_NUMBER)) (pa_cons (C8.pe_gc rfl B.c_MOST_NUMBER) pa_nil))))))), ?_⟩
    refine ⟨v, rfl, rfl, _, rfl, ite2 (fun c => ?_) (fun c => ?_)⟩
    · cases of_decide_eq_true c
      exact iteT (q H (Same.refl H))
    · refine ⟨v, rfl, v, 200, rfl, fl, bd, fun H' hs => ⟨_, rfl, ite2 (fun c2 => ?_) (fun c2 => ?_)⟩⟩
      · have e : isValueV v = true := by
          cases v with
          | str z => exact c2
          | _ => cases c2
        rw [e] at q
        exact q H' hs
      · refine ⟨v, rfl, _, rfl, v, -(2 ^ 40), 2 ^ 40, rfl, fl, ?_⟩
        have e : isValueV v = isInV (-(2 ^ 40)) (2 ^ 40) v := by
          cases v with
          | non => exact absurd rfl c
          | str z => exact Bool.eq_false_iff.mpr c2
          | _ => rfl
        rw [e] at q
        exact q H' hs)
theorem ok_is_key (F : DefX K mg "is_key" sIsKey ["value"]) (B : Bu P w K mg a) (c_is_text : Cl P w K mg base CX0 k "is_text" spIsText) : Cl P w K mg base CX0 (k + 1) "is_key" spIsKey :=
  cl0 F scIsKey (fun vs H Q E h => by obtain ⟨_, e, _⟩ := h; rw [e]; rfl) (fun f cdv A outer s H vs Q E hr h => by
    obtain ⟨v, rfl, fl, bd, q⟩ := h
    refine ⟨_, (pss_one (ps_ret (pe_and (pc0 c_is_text hr (Nat.le_refl _) rfl (pa_cons (pv 0) (pa_cons (C8.pe_gc rfl B.c_MOST_KEY) pa_nil))) (pe_one (pe_cmpR op_ne (pv 0) pe_str (nomark _)))))), ?_⟩
    refine ⟨v, rfl, v, 40, rfl, fl, bd, fun H' hs => ⟨_, rfl, ite2 (fun c2 => ?_) (fun c2 => ?_)⟩⟩
    · cases v with
      | str z =>
        refine ⟨_, rfl, rfl, ?_⟩
        have e : isKeyV (.str z) = !decide (V.str z = V.str (S "")) := by
          have c2' : isText 40 (TL.tl z) = true := c2
          rw [isKeyV, c2', str_eq, tl_S]
          rfl
        rw [e] at q
        exact q H' hs
      | _ => cases c2
    · have e : isKeyV v = false := by
        cases v with
        | str z =>
          have c2' : isText 40 (TL.tl z) = false := Bool.eq_false_iff.mpr c2
          rw [isKeyV, c2']
          rfl
        | _ => rfl
      rw [e] at q
      exact q H' hs)
abbrev sWordEnd : Stmt := topS 19
theorem scWordEnd : FnScope ["line", "at", "behind"] ["line", "at"] (defScope sWordEnd) := ⟨rfl, rfl, rfl, by decide +kernel, rfl, by decide +kernel, by decide +kernel⟩
def spWordEnd : Sp := fun vs H Q _ => ∃ (z : Str) (at_ : Nat), vs = [.str z, .int (at_ : Nat)] ∧ at_ < z.length ∧ Bd (.str z) ∧ Q (.int (at_ + wlen ((TL.tl z).drop at_) : Nat)) H
theorem ok_word_end (F : DefX K mg "word_end" sWordEnd ["line", "at"]) (B : Bu P w K mg a)  : Cl P w K mg base CX0 (k + 1) "word_end" spWordEnd :=
  cl0 F scWordEnd (fun vs H Q E h => by obtain ⟨_, _, e, _⟩ := h; rw [e]; rfl) (fun f cdv A outer s H vs Q E hr h => by
    obtain ⟨z, n, rfl, hn, bd, q⟩ := h
    refine ⟨_, (pss_cons (ps_if (pt_cmpR op_eq (pe_ix ix_str (pv 0) (pv 1) (fun _ _ => rfl)) (C8.pe_gc rfl B.c_QUOTE) (nomark _)) (pss_cons (ps_set (i := 2) scWordEnd.nd rfl (Or.inl rfl) (pe_op op_add (pv 1) pe_int))
    (pss_cons (ps_while PassesOwn.never (PW.pt (pw_and (pt_cmpR op_lt (pv 2) (pe_callB call_len_str (by rfl) B.b_len bt_len (pa_cons (pv 0) pa_nil)) (nomark _)) (pw_and1 (pt_cmpR op_ne (pe_ix ix_str (pv 0) (pv 2) (fun _ _ => rfl)) (C8.pe_gc rfl B.c_QUOTE) (nomark _))))) (pss_one (ps_aug (i := 2) scWordEnd.nd rfl (Or.inl rfl) pe_int ip_add)))
    (pss_one (ps_ret (pe_callB (call_min2 rfl) (by rfl) B.b_min bt_min (pa_cons (pe_op op_add (pv 2) pe_int) (pa_cons (pe_callB call_len_str (by rfl) B.b_len bt_len (pa_cons (pv 0) pa_nil)) pa_nil))))))) pss_nil)
    (pss_cons (ps_set (i := 2) scWordEnd.nd rfl (Or.inl rfl) (pv 1))
    (pss_cons (ps_while PassesOwn.never (PW.pt (pw_and (pt_cmpR op_lt (pv 2) (pe_callB call_len_str (by rfl) B.b_len bt_len (pa_cons (pv 0) pa_nil)) (nomark _)) (pw_and1 (pt_cmpR op_ne (pe_ix ix_str (pv 0) (pv 2) (fun _ _ => rfl)) pe_str (nomark _))))) (pss_one (ps_aug (i := 2) scWordEnd.nd rfl (Or.inl rfl) pe_int ip_add)))
    (pss_one (ps_ret (pv 2)))))), ?_⟩
    have hl := TL.len_tl z
    obtain ⟨c0, hd⟩ := TL.getElem_drop_cons (L := TL.tl z) (a := n) (by omega)
    have hc0 : (TL.tl z)[n]? = some c0 := by
      have : ((TL.tl z).drop n)[0]? = some c0 := by rw [hd]; rfl
      rw [List.getElem?_drop] at this
      simpa using this
    refine ⟨_, rfl, _, rfl, z, n, c0, rfl, rfl, bd.ok, atI_nat hc0, rfl, _, rfl, ite2 (fun c => ?_) (fun c => ?_)⟩
    · rw [sg_eq (d := 39) (by decide)] at c
      have c' := of_decide_eq_true c
      refine ⟨_, rfl, _, _, rfl, rfl, ?_⟩
      show tWhile _ _ _ [some (.str z), some (.int n), some (.int (n + 1))] H
      refine while_scan (l := (TL.tl z).drop (n + 1)) (fun c => decide (c ≠ 39)) (n + 1) (fun j R hj r => ?_) (fun j E h => ?_) ?_
      · refine ⟨_, rfl, _, rfl, z, rfl, bd.ok, _, _, rfl, rfl, _, rfl, ite2 (fun g => ?_) (fun g => ?_)⟩
        · have g' : n + 1 + j < z.length := by have := of_decide_eq_true g; omega
          have e := List.getElem?_eq_getElem (l := TL.tl z) (i := n + 1 + j) (by omega)
          refine ⟨_, rfl, _, rfl, z, _, _, rfl, rfl, bd.ok, atI_nat e, rfl, _, rfl, ?_⟩
          refine r _ (fun c hc => ?_) (fun hc => ?_)
          · rw [List.getElem?_drop, e] at hc
            cases hc
            rw [sg_eq (d := 39) (by decide), decide_not]
          · rw [List.getElem?_drop, e] at hc
            cases hc
        · refine r false (fun c hc => ?_) (fun _ => rfl)
          have : ¬ n + 1 + j < z.length := fun h => g (decide_eq_true (by omega))
          rw [List.getElem?_drop, List.getElem?_eq_none (by omega)] at hc
          cases hc
      · exact ⟨_, rfl, _, _, rfl, rfl, h⟩
      · refine ⟨_, rfl, _, _, rfl, rfl, _, rfl, z, rfl, bd.ok, ?_⟩
        refine ⟨_, _, rfl, ?_⟩
        rw [hd] at q
        have hr : (TL.tl z).drop (n + 1) = ((TL.tl z).drop n).drop 1 := by rw [List.drop_drop]
        rw [hd] at hr
        have hr' : (TL.tl z).drop (n + 1) = List.drop 1 (c0 :: (TL.tl z).drop (n + 1)) := hr
        have hlen : ((TL.tl z).drop (n + 1)).length = z.length - (n + 1) := by rw [List.length_drop]; omega
        have tl := tw_le (p := fun c => decide (c ≠ 39)) ((TL.tl z).drop (n + 1))
        rw [wlen, if_pos c'] at q
        refine cast (congrArg (fun i => Q (V.int i) H) ?_) q
        rw [hlen] at *
        split <;> omega
    · rw [sg_eq (d := 39) (by decide)] at c
      have c' : c0 ≠ 39 := fun h => c (decide_eq_true h)
      refine ⟨_, rfl, ?_⟩
      show tWhile _ _ _ [some (.str z), some (.int n), some (.int (n : Nat))] H
      refine while_scan (l := (TL.tl z).drop n) (fun c => decide (c ≠ 32)) n (fun j R hj r => ?_) (fun j E h => ?_) ?_
      · refine ⟨_, rfl, _, rfl, z, rfl, bd.ok, _, _, rfl, rfl, _, rfl, ite2 (fun g => ?_) (fun g => ?_)⟩
        · have g' : n + j < z.length := by have := of_decide_eq_true g; omega
          have e := List.getElem?_eq_getElem (l := TL.tl z) (i := n + j) (by omega)
          refine ⟨_, rfl, _, rfl, z, _, _, rfl, rfl, bd.ok, atI_nat e, rfl, _, rfl, ?_⟩
          refine r _ (fun c hc => ?_) (fun hc => ?_)
          · rw [List.getElem?_drop, e] at hc
            cases hc
            have := sg_eq (c := (TL.tl z)[n + j]) (s := " ") (d := 32) (by decide)
            rw [decide_not]
            exact congrArg Bool.not this.symm
          · rw [List.getElem?_drop, e] at hc
            cases hc
        · refine r false (fun c hc => ?_) (fun _ => rfl)
          have : ¬ n + j < z.length := fun h => g (decide_eq_true (by omega))
          rw [List.getElem?_drop, List.getElem?_eq_none (by omega)] at hc
          cases hc
      · exact ⟨_, rfl, _, _, rfl, rfl, h⟩
      · refine ⟨_, rfl, ?_⟩
        rw [hd] at q ⊢
        rw [wlen, if_neg c'] at q
        exact q)
end
end Ms


set_option Elab.async false
set_option linter.all false
set_option maxRecDepth 100000
set_option maxHeartbeats 4000000
/-! # The walk, 2: count_in, text_in, value_in, word_of_value, words_of -/
namespace Ms
open PySem PySem.Spec PyProof.Rows L2
/-- a count as a value -/
def cntV : Option Nat → V
  | none => .non
  | some n => .int n
theorem no_not {l : Cs} : (l.filter fun c => !decide (c ∈ (S "0123456789").cps.toList)).isEmpty = l.all isFig := by
  rw [filter_nil]
  refine List.all_congr rfl fun c => ?_
  rw [Bool.not_not]
  exact congrArg (fun s => decide (c ∈ s)) (tl_S "0123456789")
def txtV : Option Cs → List V
  | none => []
  | some t => [.str (mkS t)]
def valV : Option V → List V
  | none => []
  | some v => [v]
theorem head_cut {z : Str} {s : String} {d : Nat} (hs : cd s = [d]) : decide (V.str (cutS z none (some (1 : Int))) = V.str (S s)) = decide ((TL.tl z).head? = some d) := by
  have e := cut_0n (z := z) (b := 1)
  rw [str_eq, tl_S, hs]
  rw [show TL.tl (cutS z none (some (1 : Int))) = (TL.tl z).take 1 from e]
  cases TL.tl z with
  | nil => rfl
  | cons c r =>
    show decide ([c] = [d]) = decide (some c = some d)
    by_cases h : c = d
    · subst h
      rw [decide_eq_true rfl, decide_eq_true rfl]
    · rw [decide_eq_false (fun e => h (by injection e)), decide_eq_false (fun e => h (by injection e))]
theorem head_cut2 {z : Str} {s : String} {d : Nat} (hs : cd s = [d]) : decide (V.str (cutS z (some (1 : Int)) (some (2 : Int))) = V.str (S s)) = decide (((TL.tl z).drop 1).head? = some d) := by
  have e := cut_nn (z := z) (a := 1) (b := 2)
  rw [str_eq, tl_S, hs]
  rw [show TL.tl (cutS z (some (1 : Int)) (some (2 : Int))) = ((TL.tl z).drop 1).take 1 from e]
  cases (TL.tl z).drop 1 with
  | nil => rfl
  | cons c r =>
    show decide ([c] = [d]) = decide (some c = some d)
    by_cases h : c = d
    · subst h
      rw [decide_eq_true rfl, decide_eq_true rfl]
    · rw [decide_eq_false (fun e => h (by injection e)), decide_eq_false (fun e => h (by injection e))]
theorem sz {n : Nat} (h : Nat.ble n 4000000 = true) : n ≤ sizeLine := Nat.le_trans (Nat.le_of_ble_eq_true h) (by decide)
theorem val_flat {v : V} (h : isValueV v = true) : flatV v = true := by
  cases v <;> first | rfl | cases h
theorem len_int {i : Int} (h : -(2 ^ 40) ≤ i ∧ i ≤ 2 ^ 40) : (Str.ofString (toString i)).length ≤ 100 := by
  rw [TL.len_tl]
  by_cases h0 : 0 ≤ i
  · obtain ⟨n, rfl⟩ := Int.eq_ofNat_of_zero_le h0
    rw [tl_int_nn]
    have := TL.numL_len (n := n) (k := 20) (by decide) (by omega)
    omega
  · obtain ⟨n, hn⟩ : ∃ n : Nat, i = -(n : Int) := ⟨i.natAbs, by omega⟩
    subst hn
    rw [tl_int_neg n (by omega), List.length_cons]
    have := TL.numL_len (n := n) (k := 20) (by decide) (by omega)
    omega
theorem not_eq_t {b : Bool} (h : (!b) = true) : b = false := by cases b <;> first | rfl | cases h
theorem not_ne_t {b : Bool} (h : ¬ (!b) = true) : b = true := by
  cases b
  · exact absurd rfl h
  · rfl
abbrev strV (l : Cs) : V := .str (mkS l)
theorem wlen_le : ∀ l : Cs, wlen l ≤ l.length
  | [] => Nat.le_refl _
  | c :: r => by
    rw [wlen, List.length_cons]
    by_cases h : c = 39
    · rw [if_pos h]
      exact Nat.min_le_right _ _
    · rw [if_neg h]
      have := tw_le (p := fun x => decide (x ≠ 32)) (c :: r)
      rw [List.length_cons] at this
      exact this
section
variable {P : Program} {w : World} {K : PySem.W.Frag} {mg : Str → Option Value} {base : Heap} {a : Ad} {k : Nat}
abbrev sCountIn : Stmt := topS 21
theorem scCountIn : FnScope ["word", "sign"] ["word"] (defScope sCountIn) := ⟨rfl, rfl, rfl, by decide +kernel, rfl, by decide +kernel, by decide +kernel⟩
def spCountIn : Sp := fun vs H Q _ => ∃ z : Str, vs = [.str z] ∧ Bd (.str z) ∧ ∀ H', Same H H' → Q (cntV (mCount (TL.tl z))) H'
theorem ok_count_in (F : DefX K mg "count_in" sCountIn ["word"]) (B : Bu P w K mg a)  : Cl P w K mg base CX0 (k + 1) "count_in" spCountIn :=
  cl0 F scCountIn (fun vs H Q E h => by obtain ⟨_, e, _⟩ := h; rw [e]; rfl) (fun f cdv A outer s H vs Q E hr h => by
    obtain ⟨z, rfl, bd, q⟩ := h
    refine ⟨_, (pss_cons (ps_if (PW.pt (pw_or (pt_cmpR op_eq (pv 0) pe_str (nomark _)) (pw_or (pt_cmpR op_gt (pe_callB call_len_str (by rfl) B.b_len bt_len (pa_cons (pv 0) pa_nil)) (C8.pe_gc rfl B.c_MOST_FIGURES) (nomark _)) (pw_or1 (pt_cmpR (op_neE hr.units) (pe_lc (own := [("sign", 1)]) (g := (gName 1)) rfl scCountIn.nd (pi_str (pv 0)) (blkOk_by (own := [("sign", 1)]) (N := ["word", "sign"]) (sc := defScope sCountIn) (by decide +kernel)) (fun _ _ _ _ _ => (pg_name (i := 1) scCountIn.nd rfl (Or.inl rfl))) (fun _ _ _ _ _ => (pts_one (pt_cmpR op_notIn_sign (pv 1) (C8.pe_gc rfl B.c_FIGURES) (by rfl)))) (fun _ _ _ _ _ => (pv 1))) (pe_lst pa_nil) (nomark _)))))) (pss_one (ps_ret pe_non)) pss_nil)
    (pss_one (ps_ret (pe_ifExp (pt_cmpR op_eq (pe_callTy call_str_int (by rfl) B.b_str bt_str (pa_cons (pe_callTy call_int_str (by rfl) B.b_int bt_int (pa_cons (pv 0) pa_nil)) pa_nil)) (pv 0) (nomark _)) (pe_callTy call_int_str (by rfl) B.b_int bt_int (pa_cons (pv 0) pa_nil)) pe_non)))), ?_⟩
    have hl := TL.len_tl z
    have none_of : ∀ H', Same H H' → (TL.tl z = [] ∨ 20 < (TL.tl z).length ∨ (TL.tl z).all isFig = false) → Q .non H' := fun H' hs h => by
      have e : mCount (TL.tl z) = none := by rw [mCount_spec, if_pos h]
      rw [e] at q
      exact q H' hs
    refine ⟨_, rfl, rfl, _, rfl, ite2 (fun c => ?_) (fun c => ?_)⟩
    · have c' := of_decide_eq_true c
      exact iteT (none_of H (Same.refl H) (.inl (S_iff.mp (by injection c'))))
    · have c' : TL.tl z ≠ [] := fun e => c (decide_eq_true (congrArg V.str (S_iff.mpr e)))
      refine ⟨_, rfl, z, rfl, bd.ok, _, _, rfl, rfl, _, rfl, ite2 (fun c2 => ?_) (fun c2 => ?_)⟩
      · have := of_decide_eq_true c2
        exact iteT (none_of H (Same.refl H) (.inr (.inl (by omega))))
      · have c2' : z.length ≤ 20 := by
          by_cases g : z.length ≤ 20
          · exact g
          · exact absurd (decide_eq_true (by omega)) c2
        refine ⟨_, rfl, z, rfl, fun D hD => lc_filter (fun c => !decide (c ∈ (S "0123456789").cps.toList)) (Nat.lt_succ_self 1) bd.ok (fun c H2 R r => ⟨_, rfl, c, S "0123456789", rfl, rfl, _, rfl, r⟩) ?_⟩
        refine ⟨by decide, fun p hp => ⟨D, p, _, rfl, rfl, inNil hp upd_same, ?_⟩⟩
        have hs : Same H (upd (upd H D (.lst (List.map (fun c => V.str ⟨#[c]⟩) (List.filter (fun c => !decide (c ∈ (S "0123456789").cps.toList)) z.cps.toList)))) p (.lst [])) := (same_upd hD).trans (same_upd hp)
        refine ⟨_, rfl, ite2 (fun c3 => ?_) (fun c3 => ?_)⟩
        · have c3' : (!(List.map (fun c => V.str ⟨#[c]⟩) (List.filter (fun c => !decide (c ∈ (S "0123456789").cps.toList)) z.cps.toList)).isEmpty) = true := c3
          rw [List.isEmpty_map, no_not] at c3'
          exact none_of _ hs (.inr (.inr (by simpa using c3')))
        · have c3' : ¬ (!(List.map (fun c => V.str ⟨#[c]⟩) (List.filter (fun c => !decide (c ∈ (S "0123456789").cps.toList)) z.cps.toList)).isEmpty) = true := c3
          rw [List.isEmpty_map, no_not] at c3'
          have hf : (TL.tl z).all isFig = true := by
            cases h : (TL.tl z).all isFig with
            | true => rfl
            | false => exact absurd (by rw [show z.cps.toList.all isFig = false from h]; rfl) c3'
          have hd := all_figs hf
          have hi : intText? z = some ((valD (TL.tl z) : Nat) : Int) := PySem.intText_digits hd c' (by omega)
          have hv := digits_lt _ hd
          have hv2 : valD (TL.tl z) < 10 ^ 20 := Nat.lt_of_lt_of_le hv (Nat.pow_le_pow_right (by decide) (by omega))
          have ee : mCount (TL.tl z) = if TL.numL (valD (TL.tl z)) = TL.tl z then some (valD (TL.tl z)) else none := by
            rw [mCount_spec, if_neg (by
              rintro (h | h | h)
              · exact c' h
              · omega
              · rw [hf] at h; cases h)]
          refine ⟨_, rfl, z, _, rfl, hi, by omega, _, rfl, log_ok hv2, _, rfl, rfl, _, rfl, ite2 (fun c4 => ?_) (fun c4 => ?_)⟩
          · rw [str_eq] at c4
            have c4' := of_decide_eq_true c4
            rw [show TL.tl (Str.ofString (toString ((valD (TL.tl z) : Nat) : Int))) = TL.numL (valD (TL.tl z)) from TL.tl_num _] at c4'
            rw [ee, if_pos c4'] at q
            exact ⟨_, rfl, z, _, rfl, hi, by omega, q _ hs⟩
          · rw [str_eq] at c4
            have c4' : TL.numL (valD (TL.tl z)) ≠ TL.tl z := fun h => c4 (decide_eq_true (by
              rw [show TL.tl (Str.ofString (toString ((valD (TL.tl z) : Nat) : Int))) = TL.numL (valD (TL.tl z)) from TL.tl_num _]
              exact h))
            rw [ee, if_neg c4'] at q
            exact q _ hs)
abbrev sTextIn : Stmt := topS 22
theorem scTextIn : FnScope ["word"] ["word"] (defScope sTextIn) := ⟨rfl, rfl, rfl, by decide +kernel, rfl, by decide +kernel, by decide +kernel⟩
def spTextIn : Sp := fun vs H Q _ => ∃ z : Str, vs = [.str z] ∧ Bd (.str z) ∧ ∀ p H', Same H H' → H' p = some (.tup (txtV (mText (TL.tl z)))) → Q (.ref p) H'
theorem ok_text_in (F : DefX K mg "text_in" sTextIn ["word"]) (B : Bu P w K mg a) (c_is_text : Cl P w K mg base CX0 k "is_text" spIsText) : Cl P w K mg base CX0 (k + 1) "text_in" spTextIn :=
  cl0 F scTextIn (fun vs H Q E h => by obtain ⟨_, e, _⟩ := h; rw [e]; rfl) (fun f cdv A outer s H vs Q E hr h => by
    obtain ⟨z, rfl, bd, q⟩ := h
    refine ⟨_, (pss_cons (ps_if (PW.pt (pw_or (pt_cmpR op_lt (pe_callB call_len_str (by rfl) B.b_len bt_len (pa_cons (pv 0) pa_nil)) pe_int (nomark _)) (pw_or (pt_cmpR op_ne (pe_ix ix_str (pv 0) pe_int (fun _ _ => rfl)) (C8.pe_gc rfl B.c_QUOTE) (nomark _)) (pw_or1 (pt_cmpR op_ne (pe_ix ix_str (pv 0) (pe_un un_neg pe_int) (fun _ _ => rfl)) (C8.pe_gc rfl B.c_QUOTE) (nomark _)))))) (pss_one (ps_ret (pe_tup pa_nil))) pss_nil)
    (pss_one (ps_ret (pe_ifExp (pt_val (pc0 c_is_text hr (Nat.le_refl _) rfl (pa_cons (pe_slice sl_str (pv 0) (po_some pe_int) (po_some (pe_un un_neg pe_int))) (pa_cons (C8.pe_gc rfl B.c_MOST_SIGNS) pa_nil)))) (pe_tup (pa_cons (pe_slice sl_str (pv 0) (po_some pe_int) (po_some (pe_un un_neg pe_int))) pa_nil)) (pe_tup pa_nil))))), ?_⟩
    have hl := TL.len_tl z
    have none_of : ∀ p, H p = none → ((TL.tl z).length < 2 ∨ (TL.tl z).head? ≠ some 39 ∨ (TL.tl z).getLast? ≠ some 39) → Q (.ref p) (upd H p (.tup [])) := fun p hp h => by
      have e : mText (TL.tl z) = none := by rw [mText, if_pos h]
      rw [e] at q
      exact q p _ (same_upd hp) upd_same
    refine ⟨_, rfl, z, rfl, bd.ok, _, _, rfl, rfl, _, rfl, ite2 (fun c => ?_) (fun c => ?_)⟩
    · have := of_decide_eq_true c
      exact iteT ⟨by decide, fun p hp => none_of p hp (.inl (by omega))⟩
    · have c' : 2 ≤ z.length := by
        by_cases g : 2 ≤ z.length
        · exact g
        · exact absurd (decide_eq_true (by omega)) c
      have h0 := List.getElem?_eq_getElem (l := TL.tl z) (i := 0) (by omega)
      have hh : (TL.tl z).head? = some (TL.tl z)[0] := by rw [List.head?_eq_getElem?]; exact h0
      have hla := List.getLast?_eq_some_getLast (l := TL.tl z) (by intro e; rw [e] at hl; simp at hl; omega)
      refine ⟨_, rfl, z, 0, _, rfl, rfl, bd.ok, atI_nat h0, rfl, _, rfl, ite2 (fun c2 => ?_) (fun c2 => ?_)⟩
      · rw [sg_eq (d := 39) (by decide)] at c2
        refine iteT ⟨by decide, fun p hp => none_of p hp (.inr (.inl ?_))⟩
        rw [hh]
        simpa using c2
      · rw [sg_eq (d := 39) (by decide)] at c2
        have c2' : (TL.tl z).head? = some 39 := by
          rw [hh]
          simpa using c2
        refine ⟨_, rfl, _, rfl, z, -1, _, rfl, rfl, bd.ok, atI_neg1 hla, rfl, _, rfl, ite2 (fun c3 => ?_) (fun c3 => ?_)⟩
        · rw [sg_eq (d := 39) (by decide)] at c3
          refine ⟨by decide, fun p hp => none_of p hp (.inr (.inr ?_))⟩
          rw [hla]
          simpa using c3
        · rw [sg_eq (d := 39) (by decide)] at c3
          have c3' : (TL.tl z).getLast? = some 39 := by
            rw [hla]
            simpa using c3
          have e1 : mText (TL.tl z) = if isText 200 (((TL.tl z).drop 1).dropLast) then some (((TL.tl z).drop 1).dropLast) else none := by
            rw [mText, if_neg (by
              rintro (h | h | h)
              · omega
              · exact h c2'
              · exact h c3')]
          have e2 := cut_1m (z := z) (by omega)
          refine ⟨_, rfl, _, rfl, _, rfl, _, rfl, z, rfl, bd.ok, _, 200, rfl, rfl, cut_len bd, fun H' hs => ⟨_, rfl, ite2 (fun c4 => ?_) (fun c4 => ?_)⟩⟩
          · have c4' : isText 200 (TL.tl (cutS z (some 1) (some (-1)))) = true := c4
            rw [e2] at c4'
            rw [e1, if_pos c4'] at q
            refine ⟨_, rfl, _, rfl, _, rfl, _, rfl, z, rfl, bd.ok, sz rfl, fun p hp => q p _ (hs.trans (same_upd hp)) ?_⟩
            rw [upd_same]
            refine congrArg (fun x => some (HO.tup [V.str x])) ?_
            exact TL.ext_tl (by rw [tl_mkS]; exact e2)
          · have c4' : isText 200 (TL.tl (cutS z (some 1) (some (-1)))) ≠ true := c4
            rw [e2] at c4'
            rw [e1, if_neg c4'] at q
            exact ⟨by decide, fun p hp => q p _ (hs.trans (same_upd hp)) upd_same⟩)
abbrev sValueIn : Stmt := topS 23
theorem scValueIn : FnScope ["word", "is_below", "count"] ["word"] (defScope sValueIn) := ⟨rfl, rfl, rfl, by decide +kernel, rfl, by decide +kernel, by decide +kernel⟩
def spValueIn : Sp := fun vs H Q _ => ∃ z : Str, vs = [.str z] ∧ Bd (.str z) ∧ ∀ p H', Same H H' → H' p = some (.tup (valV (mValue (TL.tl z)))) → Q (.ref p) H'
theorem ok_value_in (F : DefX K mg "value_in" sValueIn ["word"]) (B : Bu P w K mg a) (c_text_in : Cl P w K mg base CX0 k "text_in" spTextIn) (c_count_in : Cl P w K mg base CX0 k "count_in" spCountIn) (c_is_in : Cl P w K mg base CX0 k "is_in" spIsIn) : Cl P w K mg base CX0 (k + 1) "value_in" spValueIn :=
  cl0 F scValueIn (fun vs H Q E h => by obtain ⟨_, e, _⟩ := h; rw [e]; rfl) (fun f cdv A outer s H vs Q E hr h => by
    obtain ⟨z, rfl, bd, q⟩ := h
    refine ⟨_, (pss_cons (ps_if (pt_cmpR op_eq (pv 0) pe_str (nomark _)) (pss_one (ps_ret (pe_tup (pa_cons pe_non pa_nil)))) pss_nil)
    (pss_cons (ps_if (pt_cmpR op_eq (pe_slice sl_str (pv 0) po_none (po_some pe_int)) pe_str (nomark _)) (pss_cons (ps_set (i := 1) scValueIn.nd rfl (Or.inl rfl) (pe_cmpR op_eq (pe_slice sl_str (pv 0) (po_some pe_int) (po_some pe_int)) pe_str (nomark _)))
    (pss_cons (ps_set (i := 2) scValueIn.nd rfl (Or.inl rfl) (pc0 c_count_in hr (Nat.le_refl _) rfl (pa_cons (pe_ifExp (pt_val (pv 1)) (pe_slice sl_str (pv 0) (po_some pe_int) po_none) (pe_slice sl_str (pv 0) (po_some pe_int) po_none)) pa_nil)))
    (pss_cons (ps_if (PW.pt (pw_or (pt_cmpR op_isN (pv 2) pe_non (nomark _)) (pw_or (pt_not (pt_val (pc0 c_is_in hr (Nat.le_refl _) rfl (pa_cons (pv 2) (pa_cons pe_int (pa_cons (C8.pe_gc rfl B.c_MOST_NUMBER) pa_nil)))))) (pw_or1 (PW.pt (pw_and (pt_val (pv 1)) (pw_and1 (pt_cmpR op_eq (pv 2) pe_int (nomark _))))))))) (pss_one (ps_ret (pe_tup pa_nil))) pss_nil)
    (pss_one (ps_ret (pe_tup (pa_cons (pe_ifExp (pt_val (pv 1)) (pe_un un_neg (pv 2)) (pv 2)) pa_nil))))))) pss_nil)
    (pss_one (ps_ret (pc0 c_text_in hr (Nat.le_refl _) rfl (pa_cons (pv 0) pa_nil)))))), ?_⟩
    refine ⟨_, rfl, rfl, _, rfl, ite2 (fun c => ?_) (fun c => ?_)⟩
    · have c' : TL.tl z = cd "none" := S_iff.mp (by injection of_decide_eq_true c)
      refine ⟨by decide, fun p hp => q p _ (same_upd hp) ?_⟩
      rw [upd_same, mValue, if_pos c']
      rfl
    · have c' : TL.tl z ≠ cd "none" := fun e => c (decide_eq_true (congrArg V.str (S_iff.mpr e)))
      refine ⟨_, rfl, _, rfl, z, rfl, bd.ok, rfl, _, rfl, ite2 (fun c2 => ?_) (fun c2 => ?_)⟩
      · rw [head_cut (d := 35) (by decide)] at c2
        have c2' := of_decide_eq_true c2
        refine ⟨_, rfl, _, rfl, _, rfl, z, rfl, bd.ok, rfl, ?_⟩
        rw [head_cut2 (d := 45) (by decide)]
        rw [mValue, if_neg c', if_pos c2'] at q
        refine ⟨_, rfl, _, rfl, ite2 (fun c3 => ?_) (fun c3 => ?_)⟩
        · have c3' := of_decide_eq_true c3
          rw [if_pos c3'] at q
          refine ⟨_, rfl, _, rfl, z, rfl, bd.ok, _, rfl, cut_len bd, fun H' hs => ?_⟩
          rw [show TL.tl (cutS z (some (2 : Int)) none) = (TL.tl z).drop 2 from cut_n (a := 2)]
          cases hm : mCount ((TL.tl z).drop 2) with
          | none =>
            rw [hm] at q
            exact ⟨_, rfl, rfl, _, rfl, iteT (iteT ⟨by decide, fun p hp => q p _ (hs.trans (same_upd hp)) upd_same⟩)⟩
          | some n =>
            rw [hm] at q
            dsimp only at q
            refine ⟨_, rfl, rfl, _, rfl, iteF ⟨_, rfl, .int n, 0, 2 ^ 40, rfl, rfl, _, rfl, ?_⟩⟩
            have ei : isInV 0 (2 ^ 40) (.int n) = decide (n ≤ 2 ^ 40) := by
              rw [isInV, decide_eq_true (by omega : (0 : Int) ≤ n), Bool.true_and]
              exact decide_eq_decide.mpr (by omega)
            rw [ei]
            by_cases h : n ≤ 2 ^ 40
            · rw [decide_eq_true h]
              refine iteF ⟨_, rfl, _, rfl, ite2 (fun c5 => ?_) (fun c5 => absurd c3 c5)⟩
              refine ⟨_, rfl, rfl, _, rfl, ite2 (fun c7 => ?_) (fun c7 => ?_)⟩
              · have h0 : (n : Int) = 0 := by injection (show V.int n = V.int 0 from of_decide_eq_true c7)
                refine ⟨by decide, fun p hp => q p _ (hs.trans (same_upd hp)) ?_⟩
                rw [upd_same, if_neg (by omega)]
                rfl
              · have h0 : n ≠ 0 := fun e => c7 (decide_eq_true (by rw [e]; rfl))
                refine ⟨_, rfl, _, rfl, ite2 (fun _ => ?_) (fun c6 => absurd c3 c6)⟩
                refine ⟨_, rfl, _, rfl, sz rfl, fun p hp => q p _ (hs.trans (same_upd hp)) ?_⟩
                rw [upd_same, if_pos ⟨h, h0⟩]
                rfl
            · rw [decide_eq_false h]
              refine iteT (iteT ⟨by decide, fun p hp => q p _ (hs.trans (same_upd hp)) ?_⟩)
              rw [upd_same, if_neg (fun g => h g.1)]
              rfl
        · have c3' : ((TL.tl z).drop 1).head? ≠ some 45 := fun e => c3 (decide_eq_true e)
          have c3f : decide (((TL.tl z).drop 1).head? = some 45) = false := decide_eq_false c3'
          rw [if_neg c3'] at q
          refine ⟨_, rfl, _, rfl, z, rfl, bd.ok, _, rfl, cut_len bd, fun H' hs => ?_⟩
          rw [show TL.tl (cutS z (some (1 : Int)) none) = (TL.tl z).drop 1 from cut_n (a := 1)]
          cases hm : mCount ((TL.tl z).drop 1) with
          | none =>
            rw [hm] at q
            exact ⟨_, rfl, rfl, _, rfl, iteT (iteT ⟨by decide, fun p hp => q p _ (hs.trans (same_upd hp)) upd_same⟩)⟩
          | some n =>
            rw [hm] at q
            dsimp only at q
            refine ⟨_, rfl, rfl, _, rfl, iteF ⟨_, rfl, .int n, 0, 2 ^ 40, rfl, rfl, _, rfl, ?_⟩⟩
            have ei : isInV 0 (2 ^ 40) (.int n) = decide (n ≤ 2 ^ 40) := by
              rw [isInV, decide_eq_true (by omega : (0 : Int) ≤ n), Bool.true_and]
              exact decide_eq_decide.mpr (by omega)
            rw [ei]
            by_cases h : n ≤ 2 ^ 40
            · rw [decide_eq_true h]
              refine iteF ⟨_, rfl, _, rfl, ite2 (fun c5 => absurd c5 c3) (fun c5 => ?_)⟩
              refine iteF ⟨_, rfl, _, rfl, ite2 (fun c6 => absurd c6 c3) (fun c6 => ?_)⟩
              refine ⟨_, rfl, sz rfl, fun p hp => q p _ (hs.trans (same_upd hp)) ?_⟩
              rw [upd_same, if_pos h]
              rfl
            · rw [decide_eq_false h]
              refine iteT (iteT ⟨by decide, fun p hp => q p _ (hs.trans (same_upd hp)) ?_⟩)
              rw [upd_same, if_neg h]
              rfl
      · rw [head_cut (d := 35) (by decide)] at c2
        have c2' : (TL.tl z).head? ≠ some 35 := fun e => c2 (decide_eq_true e)
        rw [mValue, if_neg c', if_neg c2'] at q
        refine ⟨_, rfl, z, rfl, bd, fun p H' hs hp => q p H' hs ?_⟩
        rw [hp]
        cases mText (TL.tl z) <;> rfl)
abbrev sWordOfValue : Stmt := topS 24
theorem scWordOfValue : FnScope ["value"] ["value"] (defScope sWordOfValue) := ⟨rfl, rfl, rfl, by decide +kernel, rfl, by decide +kernel, by decide +kernel⟩
def spWordOfValue : Sp := fun vs H Q _ => ∃ v, vs = [v] ∧ isValueV v = true ∧ Q (.str (mkS (valW v))) H
theorem ok_word_of_value (F : DefX K mg "word_of_value" sWordOfValue ["value"]) (B : Bu P w K mg a)  : Cl P w K mg base CX0 (k + 1) "word_of_value" spWordOfValue :=
  cl0 F scWordOfValue (fun vs H Q E h => by obtain ⟨_, e, _⟩ := h; rw [e]; rfl) (fun f cdv A outer s H vs Q E hr h => by
    obtain ⟨v, rfl, fl, q⟩ := h
    refine ⟨_, (pss_cons (ps_if (pt_cmpR op_isN (pv 0) pe_non (nomark _)) (pss_one (ps_ret pe_str)) pss_nil)
    (pss_one (ps_ret (pe_ifExp (pt_val (pe_callB call_isi (by rfl) B.b_isinstance bt_isinstance (pa_cons (pv 0) (pa_cons (pe_bltn (v := .ty "str") (by rfl) B.b_str bt_str rfl) pa_nil)))) (pe_op op_add_str (pe_op op_add_str (C8.pe_gc rfl B.c_QUOTE) (pv 0)) (C8.pe_gc rfl B.c_QUOTE)) (pe_op op_add_str pe_str (pe_callTy call_str_int (by rfl) B.b_str bt_str (pa_cons (pv 0) pa_nil))))))), ?_⟩
    obtain ⟨t1, y1, k1⟩ := isi_str (K := K) (H := H) (val_flat fl)
    refine ⟨v, rfl, rfl, _, rfl, ite2 (fun c => ?_) (fun c => ?_)⟩
    · cases of_decide_eq_true c
      exact q
    · refine ⟨v, rfl, _, _, _, _, _, rfl, .ty _, y1, k1, _, rfl, ?_⟩
      cases v with
      | str z =>
        have hz : z.length ≤ 200 := by
          have h : isText 200 (TL.tl z) = true := fl
          rw [isText, Bool.and_eq_true] at h
          have := of_decide_eq_true h.1
          rw [TL.len_tl]
          exact this
        refine iteT ⟨_, rfl, _, _, rfl, rfl, sz (Nat.ble_eq_true_of_le ?_), _, _, rfl, rfl, sz (Nat.ble_eq_true_of_le ?_), ?_⟩
        · show 1 + z.length ≤ _
          omega
        · rw [Str.length_append]
          show 1 + z.length + 1 ≤ _
          omega
        · have e : S "'" ++ z ++ S "'" = mkS (valW (.str z)) := TL.ext_tl (by rw [TL.tl_append, TL.tl_append, tl_mkS]; rfl)
          rw [← e] at q
          exact q
      | int i =>
        have hb : -(2 ^ 40) ≤ i ∧ i ≤ 2 ^ 40 := by
          have h : (decide (-(2 ^ 40) ≤ i) && decide (i ≤ 2 ^ 40)) = true := fl
          rw [Bool.and_eq_true] at h
          exact ⟨of_decide_eq_true h.1, of_decide_eq_true h.2⟩
        have hlog : i.natAbs.log2 < 1920 := by
          have := log_ok (n := i.natAbs) (by omega)
          rw [Int.natAbs_natCast] at this
          exact this
        refine iteF ⟨_, rfl, _, rfl, hlog, _, _, rfl, rfl, sz (Nat.ble_eq_true_of_le ?_), ?_⟩
        · have h := len_int hb
          show 1 + (Str.ofString (toString i)).length ≤ _
          omega
        · have e : S "#" ++ Str.ofString (toString i) = mkS (valW (.int i)) := TL.ext_tl (by rw [TL.tl_append, tl_mkS]; rfl)
          rw [← e] at q
          exact q
      | non => exact absurd rfl c
      | _ => cases fl)
abbrev sWordsOf : Stmt := topS 20
theorem scWordsOf : FnScope ["line", "found", "at", "behind"] ["line"] (defScope sWordsOf) := ⟨rfl, rfl, rfl, by decide +kernel, rfl, by decide +kernel, by decide +kernel⟩
def spWordsOf : Sp := fun vs H Q _ => ∃ z : Str, vs = [.str z] ∧ Bd (.str z) ∧ (mWords (TL.tl z) = none → ∀ H', Same H H' → Q .non H') ∧ ∀ ws, mWords (TL.tl z) = some ws → ∀ D H', Same H H' → H D = none → H' D = some (.lst (ws.map strV)) → Q (.ref D) H'
theorem ok_words_of (F : DefX K mg "words_of" sWordsOf ["line"]) (B : Bu P w K mg a) (c_word_end : Cl P w K mg base CX0 k "word_end" spWordEnd) : Cl P w K mg base CX0 (k + 1) "words_of" spWordsOf :=
  cl0 F scWordsOf (fun vs H Q E h => by obtain ⟨_, e, _⟩ := h; rw [e]; rfl) (fun f cdv A outer s H vs Q E hr h => by
    obtain ⟨z, rfl, bd, qn, qs⟩ := h
    refine ⟨_, (pss_cons (ps_par (by rfl) scWordsOf.nd (i := 1) (j := 2) rfl rfl (by decide) rfl rfl (pa_cons (pe_lst pa_nil) (pa_cons pe_int pa_nil)) (by rfl))
    (pss_cons (ps_while PassesOwn.never (pt_cmpR op_lt (pv 2) (pe_callB call_len_str (by rfl) B.b_len bt_len (pa_cons (pv 0) pa_nil)) (nomark _)) (pss_cons (ps_set (i := 3) scWordsOf.nd rfl (Or.inl rfl) (pc0 c_word_end hr (Nat.le_refl _) rfl (pa_cons (pv 0) (pa_cons (pv 2) pa_nil))))
    (pss_cons (ps_expr (pe_bm PySem.F.plainAttrs_list PySem.F.slot_list_append PySem.F.type_list_append mt_append (pv 1) (pa_cons (pe_slice sl_str (pv 0) (po_some (pv 2)) (po_some (pv 3))) pa_nil)))
    (pss_cons (ps_if (pt_cmpR op_eq (pv 3) (pe_callB call_len_str (by rfl) B.b_len bt_len (pa_cons (pv 0) pa_nil)) (nomark _)) (pss_one (ps_ret (pe_ifExp (pt_cmpR op_gt (pv 3) (pv 2) (nomark _)) (pv 1) pe_non))) pss_nil)
    (pss_cons (ps_if (PW.pt (pw_or (pt_cmpR op_ne (pe_ix ix_str (pv 0) (pv 3) (fun _ _ => rfl)) pe_str (nomark _)) (pw_or1 (pt_cmpR op_eq (pv 3) (pv 2) (nomark _))))) (pss_one (ps_ret pe_non)) pss_nil)
    (pss_one (ps_set (i := 2) scWordsOf.nd rfl (Or.inl rfl) (pe_op op_add (pv 3) pe_int))))))))
    (pss_one (ps_ret pe_non)))), ?_⟩
    have hl := TL.len_tl z
    refine ⟨by decide, fun D hD => ⟨_, _, rfl, ?_⟩⟩
    refine ⟨fun m σ' H' => ∃ (n at_ : Nat) (acc : List Cs) (o : Option V), σ' = [some (.str z), some (.ref D), some (.int (at_ : Nat)), o] ∧ H' = upd H D (.lst (acc.map strV)) ∧ acc.length ≤ at_ ∧ at_ ≤ z.length ∧
      (TL.tl z).length - at_ < n ∧ mWords (TL.tl z) = (wordsF n ((TL.tl z).drop at_)).map (acc ++ ·) ∧ m = z.length - at_, ⟨_, (TL.tl z).length + 1, 0, [], none, rfl, rfl, Nat.zero_le _, Nat.zero_le _, by omega, ?_, rfl⟩, ?_⟩
    · show wordsF _ _ = Option.map (fun x => [] ++ x) (wordsF _ _)
      rw [List.drop_zero]
      cases wordsF ((TL.tl z).length + 1) (TL.tl z) <;> rfl
    rintro m σ' H' ⟨n, at_, acc, o, rfl, rfl, hacc, hat, hn, hw, rfl⟩
    have hsame : Same H (upd H D (.lst (acc.map strV))) := same_upd hD
    refine ⟨_, rfl, _, rfl, z, rfl, bd.ok, _, _, rfl, rfl, _, rfl, ite2 (fun c => ?_) (fun c => ?_)⟩
    · have c' : at_ < z.length := by have := of_decide_eq_true c; omega
      obtain ⟨n, rfl⟩ : ∃ k, n = k + 1 := ⟨n - 1, by omega⟩
      obtain ⟨c0, hd⟩ := TL.getElem_drop_cons (L := TL.tl z) (a := at_) (by omega)
      have hwl : wlen ((TL.tl z).drop at_) ≤ ((TL.tl z).drop at_).length := wlen_le _
      rw [List.length_drop] at hwl
      refine ⟨_, fun _ _ h => h, _, rfl, _, rfl, z, at_, rfl, c', bd, ?_⟩
      generalize hwd : wlen ((TL.tl z).drop at_) = wd at *
      have hcut : TL.tl (cutS z (some ((at_ : Nat) : Int)) (some ((at_ + wd : Nat) : Int))) = ((TL.tl z).drop at_).take wd := by
        rw [cut_nn, Nat.add_sub_cancel_left]
      have hap : (acc.map strV) ++ [V.str (cutS z (some ((at_ : Nat) : Int)) (some ((at_ + wd : Nat) : Int)))] = (acc ++ [((TL.tl z).drop at_).take wd]).map strV := by
        rw [List.map_append, ← hcut]
        exact congrArg (fun x => acc.map strV ++ [V.str x]) (mkS_tl _).symm
      refine ⟨_, rfl, .inl ⟨rfl, _, .inl (.inl upd_same)⟩, _, rfl, _, rfl, _, rfl, _, rfl, _, rfl, z, rfl, bd.ok, D, _, _, rfl, rfl, upd_same, ?_, ?_⟩
      · rw [List.length_map]
        have := bd z rfl
        have e : (4000000 : Nat) < sizeLine := by decide
        omega
      rw [upd_upd, hap]
      have hsame2 : Same H (upd H D (.lst ((acc ++ [((TL.tl z).drop at_).take wd]).map strV))) := same_upd hD
      have hw2 : mWords (TL.tl z) = (match ((TL.tl z).drop at_).drop wd with
        | [] => if 0 < wd then some [((TL.tl z).drop at_).take wd] else none
        | d :: r' => if d ≠ 32 ∨ wd = 0 then none else (wordsF n r').map (((TL.tl z).drop at_).take wd :: ·)).map (acc ++ ·) := by
        rw [hw, hd]
        rw [hd] at hwd
        show Option.map _ (match (c0 :: (TL.tl z).drop (at_ + 1)).drop (wlen (c0 :: (TL.tl z).drop (at_ + 1))) with
          | [] => _
          | d :: r' => _) = _
        rw [hwd]
      rw [List.drop_drop] at hw2
      refine ⟨_, rfl, _, rfl, z, rfl, bd.ok, rfl, _, rfl, ite2 (fun c2 => ?_) (fun c2 => ?_)⟩
      · rw [dec_int] at c2
        have c2' : at_ + wd = z.length := by have := of_decide_eq_true c2; omega
        rw [List.drop_of_length_le (by omega)] at hw2
        refine ⟨_, rfl, _, rfl, _, _, rfl, rfl, _, rfl, ite2 (fun c3 => ?_) (fun c3 => ?_)⟩
        · have c3' := of_decide_eq_true c3
          dsimp only at hw2
          rw [if_pos (by omega)] at hw2
          exact ⟨_, rfl, qs _ hw2 D _ hsame2 hD upd_same⟩
        · have c3' : ¬ ((at_ : Int) < (at_ + wd : Nat)) := fun h => c3 (decide_eq_true h)
          dsimp only at hw2
          rw [if_neg (by omega)] at hw2
          exact qn hw2 _ hsame2
      · rw [dec_int] at c2
        have c2' : at_ + wd < z.length := by
          have : ¬ (at_ + wd = z.length) := fun h => c2 (by rw [h]; exact beq_self_eq_true _)
          omega
        have e := List.getElem?_eq_getElem (l := TL.tl z) (i := at_ + wd) (by omega)
        have ed := List.drop_eq_getElem_cons (l := TL.tl z) (i := at_ + wd) (by omega)
        rw [ed] at hw2
        dsimp only at hw2
        refine ⟨_, rfl, _, rfl, z, _, _, rfl, rfl, bd.ok, atI_nat e, rfl, _, rfl, ite2 (fun c3 => ?_) (fun c3 => ?_)⟩
        · have c3' : decide (V.str ⟨#[(TL.tl z)[at_ + wd]]⟩ = V.str (S " ")) = false := not_eq_t c3
          rw [sg_eq (d := 32) (by decide)] at c3'
          rw [if_pos (.inl (of_decide_eq_false c3'))] at hw2
          exact iteT (qn hw2 _ hsame2)
        · have c3' : decide (V.str ⟨#[(TL.tl z)[at_ + wd]]⟩ = V.str (S " ")) = true := not_ne_t c3
          rw [sg_eq (d := 32) (by decide)] at c3'
          have c3'' := of_decide_eq_true c3'
          refine ⟨_, rfl, _, rfl, rfl, _, rfl, ite2 (fun c4 => ?_) (fun c4 => ?_)⟩
          · rw [dec_int] at c4
            have c4' : wd = 0 := by have : ((at_ + wd : Nat) : Int) = (at_ : Nat) := by simpa using c4
                                    omega
            rw [if_pos (.inr c4')] at hw2
            exact qn hw2 _ hsame2
          · rw [dec_int] at c4
            have c4' : wd ≠ 0 := fun h => c4 (by rw [h]; exact beq_self_eq_true _)
            rw [if_neg (by rintro (h | h); exact h c3''; exact c4' h)] at hw2
            refine ⟨_, rfl, _, _, rfl, rfl, z.length - (at_ + wd + 1), by omega, n, at_ + wd + 1, acc ++ [((TL.tl z).drop at_).take wd], _, rfl, rfl, ?_, c2', by omega, ?_, rfl⟩
            · rw [List.length_append]
              show acc.length + 1 ≤ _
              omega
            · rw [hw2, Option.map_map]
              refine congrArg (fun g => Option.map g _) (funext fun x => ?_)
              show acc ++ (_ :: x) = acc ++ [_] ++ x
              rw [List.append_assoc]
              rfl
    · have c' : at_ = z.length := by
        have : ¬ at_ < z.length := fun h => c (decide_eq_true (by omega))
        omega
      refine qn ?_ _ hsame
      rw [hw, List.drop_of_length_le (by omega)]
      cases n <;> rfl)
end
end Ms


set_option Elab.async false
set_option linter.all false
set_option maxRecDepth 100000
set_option maxHeartbeats 4000000
/-! # The walk, 3: comprehensions; are_links, link_in, world_in -/
namespace Ms
open PySem PySem.Spec PyProof.Rows L2
theorem Same.upd {H H1 : Hp} {D : Addr} {o : HO} (h : Same H H1) (hD : H D = none) : Same H (L2.upd H1 D o) := fun b x e => by
  rw [upd_ne (ne_of_none e hD)]
  exact h b x e
/-- a comprehension whose items come one by one; Kp: what a turn keeps -/
theorem lc_map {J : It} {n : Nat} {G : Hp → Prop} {Y : Nat → Hp → V → Hp → Prop} {g : TG} {te : TE} {vs : List Nat} {σ : L2.St} {H : Hp} {D : Addr} {Qd : Hp → Prop} (w : Walk J n G Y) (Xr : Nat → V → Prop) (Kp : Hp → Hp → Prop) (F : Nat → V → Hp → Prop)
    (hn : n ≤ 4000000) (hY : ∀ i H x H', Y i H x H' → H' = H ∧ Xr i x) (rf : Kp H H) (tr : ∀ A B C, Kp A B → Kp B C → Kp A C) (hU : ∀ H1 o, Kp H H1 → Kp H (upd H1 D o)) (hDk : ∀ H1 H2 acc, Kp H H1 → Kp H1 H2 → H1 D = some (.lst acc) → H2 D = some (.lst acc))
    (hG : ∀ H1, Kp H H1 → G H1) (hT : ∀ H1 H2, Kp H H1 → Kp H1 H2 → TupK H1 H2) (Fk : ∀ j y H1 H2, F j y H1 → TupK H1 H2 → F j y H2)
    (hs : ∀ j x H1 (R : VK), j < n → Xr j x → Kp H H1 → (∀ y H2, Kp H1 H2 → F j y H2 → R y H2) → g x (wipe σ vs) H1 fun σ2 H2 => wipe σ2 vs = wipe σ vs ∧ te σ2 H2 R)
    (q : ∀ ys H2, Kp H H2 → H2 D = some (.lst ys) → ys.length = n → (∀ j y, ys[j]? = some y → F j y H2) → Qd H2) :
    ∃ W : Nat → Nat → Hp → Prop, (∃ m, W 0 m (upd H D (.lst []))) ∧ ∀ i m H, W i m H →
      (J.stop i H ∧ Qd H) ∨ (J.go i H ∧ ∃ Nx : Hp → Prop, (∀ H', Nx H' → ∃ m', m' < m ∧ W (i + 1) m' H') ∧ ∀ x H', J.yld i H x H' → g x (wipe σ vs) H' fun σ2 H2 => wipe σ2 vs = wipe σ vs ∧ tYes σ2 H2 fun b H3 =>
        if b = true then te σ2 H3 fun y H4 => ∃ acc, H4 D = some (.lst acc) ∧ acc.length < sizeLine ∧ Nx (upd H4 D (.lst (acc ++ [y]))) else Nx H3) := by
  refine lc_it w (fun k H' => ∃ ys, ys.length = k ∧ Kp H H' ∧ H' D = some (.lst ys) ∧ ∀ j y, ys[j]? = some y → F j y H') ⟨[], rfl, hU _ _ rf, upd_same, fun j y h => by simp at h⟩ (fun i H1 _ ⟨_, _, h, _⟩ => hG H1 h) ?_ ?_
  · rintro k x H1 H2 hk ⟨ys, hl, hkp, hD, hF⟩ hy
    obtain ⟨rfl, hx⟩ := hY _ _ _ _ hy
    refine hs k x H2 _ hk hx hkp fun y H3 h3 hf => ⟨ys, hDk _ _ _ hkp h3 hD, ?_, ys ++ [y], ?_, hU _ _ (tr _ _ _ hkp h3), upd_same, ?_⟩
    · have : (4000000 : Nat) < sizeLine := by decide
      omega
    · rw [List.length_append, hl]
      rfl
    · have hD3 := hDk _ _ _ hkp h3 hD
      have tk : TupK H3 (upd H3 D (.lst (ys ++ [y]))) := fun b xs e => by
        rw [upd_ne (fun h => by rw [h, hD3] at e; cases e)]
        exact e
      intro j v hj
      by_cases hjl : j < ys.length
      · rw [List.getElem?_append_left hjl] at hj
        exact Fk _ _ _ _ (Fk _ _ _ _ (hF j v hj) (hT _ _ hkp h3)) tk
      · rw [List.getElem?_append_right (by omega)] at hj
        have hj0 : j - ys.length = 0 := by
          cases h : j - ys.length with
          | zero => rfl
          | succ m => rw [h] at hj; simp at hj
        rw [hj0] at hj
        cases hj
        have e : j = k := by omega
        subst e
        exact Fk _ _ _ _ hf tk
  · rintro H' ⟨ys, hl, hkp, hD, hF⟩
    exact q ys H' hkp hD hl hF
/-- .. where all is kept -/
theorem lc_mapS {J : It} {n : Nat} {G : Hp → Prop} {Y : Nat → Hp → V → Hp → Prop} {g : TG} {te : TE} {vs : List Nat} {σ : L2.St} {H : Hp} {D : Addr} {Qd : Hp → Prop} (w : Walk J n G Y) (Xr : Nat → V → Prop) (F : Nat → V → Hp → Prop)
    (hn : n ≤ 4000000) (hD : H D = none) (hY : ∀ i H x H', Y i H x H' → H' = H ∧ Xr i x)
    (hG : ∀ H1, Same H H1 → G H1) (Fk : ∀ j y H1 H2, F j y H1 → TupK H1 H2 → F j y H2)
    (hs : ∀ j x H1 (R : VK), j < n → Xr j x → Same H H1 → (∀ y H2, Same H1 H2 → F j y H2 → R y H2) → g x (wipe σ vs) H1 fun σ2 H2 => wipe σ2 vs = wipe σ vs ∧ te σ2 H2 R)
    (q : ∀ ys H2, Same H H2 → H2 D = some (.lst ys) → ys.length = n → (∀ j y, ys[j]? = some y → F j y H2) → Qd H2) :
    ∃ W : Nat → Nat → Hp → Prop, (∃ m, W 0 m (upd H D (.lst []))) ∧ ∀ i m H, W i m H →
      (J.stop i H ∧ Qd H) ∨ (J.go i H ∧ ∃ Nx : Hp → Prop, (∀ H', Nx H' → ∃ m', m' < m ∧ W (i + 1) m' H') ∧ ∀ x H', J.yld i H x H' → g x (wipe σ vs) H' fun σ2 H2 => wipe σ2 vs = wipe σ vs ∧ tYes σ2 H2 fun b H3 =>
        if b = true then te σ2 H3 fun y H4 => ∃ acc, H4 D = some (.lst acc) ∧ acc.length < sizeLine ∧ Nx (upd H4 D (.lst (acc ++ [y]))) else Nx H3) :=
  lc_map w Xr Same F hn hY (Same.refl H) (fun _ _ _ a b => a.trans b) (fun H1 o h => Same.upd h hD) (fun H1 H2 acc _ h e => h _ _ e) hG (fun H1 H2 _ h => Same.tk h) Fk hs q
theorem map_of {α : Type} {ys : List V} {ws : List α} {f : α → V} (hl : ys.length = ws.length) (h : ∀ (j : Nat) (y : V), ys[j]? = some y → ∃ w, ws[j]? = some w ∧ y = f w) : ys = ws.map f := by
  refine List.ext_getElem? fun j => ?_
  rw [List.getElem?_map]
  cases e : ys[j]? with
  | none =>
    have := List.getElem?_eq_none_iff.mp e
    rw [List.getElem?_eq_none (by omega)]
    rfl
  | some y =>
    obtain ⟨w, hw, rfl⟩ := h j y e
    rw [hw]
    rfl
theorem wipe1 {σ : L2.St} {i : Nat} {v : Option V} : wipe ((wipe σ [i]).set i v) [i] = wipe σ [i] := by
  show ((wipe σ []).set i none |>.set i _).set i none = (wipe σ []).set i none
  rw [List.set_set, List.set_set]
theorem slot1 {σ : L2.St} {i : Nat} {v : V} (h : i < σ.length) : ((wipe σ [i]).set i (some v))[i]? = some (some v) := List.getElem?_set_self (by rw [wipe_length]; exact h)
/-- the signs of a tuple's items that a test takes -/
theorem lc_filterT {K : PySem.W.Frag} {l : Addr} {xs : List V} {i : Nat} {tt : TT} {σ : L2.St} {H : Hp} {D : Addr} {Qd : Hp → Prop} (p : V → Bool) (hi : i < σ.length) (hz : xs.length ≤ 4000000) (hl : ∀ H1, Same H H1 → SqT K H1 l xs) (hD : H D = none)
    (ht : ∀ x H2 (R : Bool → Hp → Prop), x ∈ xs → R (p x) H2 → tt ((wipe σ [i]).set i (some x)) H2 R)
    (q : Qd (upd H D (.lst (xs.filter p)))) :
    ∃ W : Nat → Nat → Hp → Prop, (∃ m, W 0 m (upd H D (.lst []))) ∧ ∀ j m H, W j m H →
      ((Itt K l).stop j H ∧ Qd H) ∨ ((Itt K l).go j H ∧ ∃ Nx : Hp → Prop, (∀ H', Nx H' → ∃ m', m' < m ∧ W (j + 1) m' H') ∧ ∀ x H', (Itt K l).yld j H x H' → gName i x (wipe σ [i]) H' fun σ2 H2 => wipe σ2 [i] = wipe σ [i] ∧ tt σ2 H2 fun b H3 =>
        if b = true then tVar i σ2 H3 fun y H4 => ∃ acc, H4 D = some (.lst acc) ∧ acc.length < sizeLine ∧ Nx (upd H4 D (.lst (acc ++ [y]))) else Nx H3) := by
  refine lc_it walk_tup (fun k H' => H' = upd H D (.lst ((xs.take k).filter p))) rfl (fun i H1 _ e => by rw [e]; exact hl _ (same_upd hD)) ?_ ?_
  · rintro k x H1 H2 hk rfl ⟨rfl, hx⟩
    have tk : xs.take (k + 1) = xs.take k ++ [x] := by rw [List.take_succ, hx]; rfl
    refine ⟨wipe1, ht x _ _ (List.mem_of_getElem? hx) ?_⟩
    cases hp : p x with
    | true =>
      refine iteT ⟨_, slot1 hi, _, upd_same, ?_, ?_⟩
      · have h1 : ((xs.take k).filter p).length ≤ k := Nat.le_trans (List.length_filter_le _ _) (by rw [List.length_take]; omega)
        have : (4000000 : Nat) < sizeLine := by decide
        omega
      · rw [upd_upd, tk, List.filter_append]
        have e : List.filter p [x] = [x] := by rw [List.filter_cons, if_pos hp]; rfl
        rw [e]
    | false =>
      refine iteF ?_
      rw [tk, List.filter_append]
      have e : List.filter p [x] = [] := by rw [List.filter_cons, if_neg (by rw [hp]; exact Bool.false_ne_true)]; rfl
      rw [e, List.append_nil]
  · rintro H' rfl
    rw [List.take_length]
    exact q
/-! ### pieces -/
theorem par_len {S : Cs} : ∀ {l acc x y : Cs}, TL.par S acc l = some (x, y) → x.length + y.length ≤ acc.length + l.length
  | [], acc, x, y, h => by
    unfold TL.par at h
    cases h
  | c :: r, acc, x, y, h => by
    cases e : TL.pre S (c :: r) with
    | true =>
      rw [TL.par_hit e] at h
      cases h
      rw [List.length_drop]
      omega
    | false =>
      rw [TL.par_miss e] at h
      have := par_len h
      rw [List.length_append] at this
      rw [List.length_cons]
      have e1 : [c].length = 1 := rfl
      omega
theorem cutV_1n {xs : List V} {m : Nat} : cutV xs (some (1 : Int)) (some (1 + (m : Int))) = (xs.drop 1).take m := by
  show (xs.drop (HT.sIx xs.length 0 (some ((1 : Nat) : Int)))).take _ = _
  have e1 := HT.sIx_nat xs.length 0 1
  have e2 := HT.sIx_nat xs.length xs.length (1 + m)
  have e3 : HT.sIx xs.length xs.length (some (1 + (m : Int))) = min (1 + m) xs.length := by
    rw [← e2]
    congr 2
  show (xs.drop (HT.sIx xs.length 0 (some ((1 : Nat) : Int)))).take (HT.sIx xs.length xs.length (some (1 + (m : Int))) - HT.sIx xs.length 0 (some ((1 : Nat) : Int))) = _
  rw [e1, e3]
  by_cases h1 : 1 ≤ xs.length
  · rw [Nat.min_eq_left h1]
    by_cases h2 : 1 + m ≤ xs.length
    · rw [Nat.min_eq_left h2]
      congr 1
      omega
    · rw [Nat.min_eq_right (by omega), List.take_of_length_le (by rw [List.length_drop]; omega), List.take_of_length_le (by rw [List.length_drop]; omega)]
  · rw [Nat.min_eq_right (by omega : xs.length ≤ 1), List.drop_of_length_le (by omega), List.drop_of_length_le (by omega), List.take_nil, List.take_nil]
theorem cutV_n {xs : List V} {i : Int} {m : Nat} (e : i = (m : Int)) : cutV xs (some i) none = xs.drop m := by
  subst e
  show (xs.drop (HT.sIx xs.length 0 (some ((m : Nat) : Int)))).take (HT.sIx xs.length xs.length none - HT.sIx xs.length 0 (some ((m : Nat) : Int))) = _
  rw [HT.sIx_nat, HT.sIx_none]
  by_cases h1 : m ≤ xs.length
  · rw [Nat.min_eq_left h1, List.take_of_length_le (by rw [List.length_drop]; omega)]
  · rw [Nat.min_eq_right (by omega), List.drop_of_length_le (by omega), List.drop_of_length_le (by omega), List.take_nil]
theorem dict_more {σ : L2.St} {H : Hp} {Q : VK} {i more : Nat} (hm : more = 0 ∨ more = 1 ∨ more = 2) (e : σ[i]? = some (some (.str (S (kindS more))))) (q : ∀ H', Same H H' → Q (.int more) H') :
    tDGet (tDisp [(tC (.str ""), tC (.int 0)), (tC (.str "key"), tC (.int 1)), (tC (.str "value"), tC (.int 2))]) (tVar i) σ H Q := by
  refine fun p hp => ⟨upd_same, [(.inr "", .int 0), (.inr "key", .int 1), (.inr "value", .int 2)], rfl, by decide, _, e, p, _, rfl, .inl ⟨_, .inr (S (kindS more)), .inl upd_same, rfl, ?_⟩, q _ (by rw [upd_upd]; exact same_upd hp)⟩
  rcases hm with rfl | rfl | rfl <;> decide +kernel
/-- t + u, the first not empty -/
theorem cat_tup {K : PySem.W.Frag} {H : Hp} {Q : VK} {a b : Addr} {xs ys : List V} (ha : SqT K H a xs) (hb : SqT K H b ys) (hx : xs ≠ []) (hz : xs.length + ys.length ≤ 4000000)
    (h0 : ys = [] → Q (.ref a) H) (h1 : ys ≠ [] → ∀ p, H p = none → Q (.ref p) (upd H p (.tup (xs ++ ys)))) : rCatA K (.ref a) (.ref b) H Q :=
  ⟨a, b, xs, ys, rfl, rfl, ha, hb, Nat.le_trans hz (by decide), fun e => absurd e hx, fun _ e => h0 e, fun _ e => h1 e⟩
def LinkR (H : Hp) (v : V) : Option (Nat × Nat) → Prop
  | none => v = .non
  | some p => ∃ b, v = .ref b ∧ PairAt H b p
theorem LinkR.keep {H H' : Hp} {v : V} {o : Option (Nat × Nat)} (h : LinkR H v o) (k : TupK H H') : LinkR H' v o := by
  cases o with
  | none => exact h
  | some p =>
    obtain ⟨b, e, h⟩ := h
    exact ⟨b, e, h.keep k⟩
theorem noT_cnt {K : PySem.W.Frag} {H : Hp} (o : Option Nat) : NoT K H (cntV o) := by
  cases o with
  | none => exact .inl rfl
  | some n => exact .inr (.inl ⟨_, rfl⟩)
section
variable {P : Program} {w : World} {K : PySem.W.Frag} {mg : Str → Option Value} {base : Heap} {a : Ad} {k : Nat}
abbrev sAreLinks : Stmt := topS 33
theorem scAreLinks : FnScope ["value", "link"] ["value"] (defScope sAreLinks) := ⟨rfl, rfl, rfl, by decide +kernel, rfl, by decide +kernel, by decide +kernel⟩
def okP (p : Nat × Nat) : Bool := decide (p.1 ≤ 2 ^ 20) && decide (p.2 ≤ 2 ^ 20)
theorem inV_nat (n : Nat) : isInV 0 (2 ^ 20) (.int n) = decide (n ≤ 2 ^ 20) := by
  rw [isInV, decide_eq_true (by omega : (0 : Int) ≤ n), Bool.true_and]
  exact decide_eq_decide.mpr (by omega)
def spAreLinks : Sp := fun vs H Q _ => ∃ l ls, vs = [.ref l] ∧ LinksAt H l ls ∧ Q (.bl (ls.all okP)) H
theorem ok_are_links (F : DefX K mg "are_links" sAreLinks ["value"]) (B : Bu P w K mg a) (c_is_in : Cl P w K mg base CX0 k "is_in" spIsIn) : Cl P w K mg base CX0 (k + 1) "are_links" spAreLinks :=
  cl0 F scAreLinks (fun vs H Q E h => by obtain ⟨_, _, e, _⟩ := h; rw [e]; rfl) (fun f cdv A outer s H vs Q E hr h => by
    obtain ⟨l, ls, rfl, ⟨bs, hl, hp⟩, q⟩ := h
    refine ⟨_, (pss_cons (ps_if (pt_not (pt_val (pe_callB call_isi (by rfl) B.b_isinstance bt_isinstance (pa_cons (pv 0) (pa_cons (pe_bltn (v := .ty "tuple") (by rfl) B.b_tuple bt_tuple rfl) pa_nil))))) (pss_one (ps_ret pe_bl)) pss_nil)
    (pss_cons (ps_for PassesOwn.never rfl (pi_tup (pv 0)) (pg_name (i := 1) scAreLinks.nd rfl (Or.inl rfl))
    (pss_cons (ps_if (PW.pt (pw_or (pt_not (pt_val (pe_callB call_isi (by rfl) B.b_isinstance bt_isinstance (pa_cons (pv 1) (pa_cons (pe_bltn (v := .ty "tuple") (by rfl) B.b_tuple bt_tuple rfl) pa_nil))))) (pw_or1 (pt_cmpR op_ne (pe_callB call_len_seq (by rfl) B.b_len bt_len (pa_cons (pv 1) pa_nil)) pe_int (nomark _))))) (pss_one (ps_ret pe_bl)) pss_nil)
    (pss_one (ps_if (PW.pt (pw_or (pt_not (pt_val (pc0 c_is_in hr (Nat.le_refl _) rfl (pa_cons (pe_ix ix_tup (pv 1) pe_int (fun _ _ => rfl)) (pa_cons pe_int (pa_cons (C8.pe_gc rfl B.c_MOST_ARGUMENT) pa_nil)))))) (pw_or1 (pt_not (pt_val (pc0 c_is_in hr (Nat.le_refl _) rfl (pa_cons (pe_ix ix_tup (pv 1) pe_int (fun _ _ => rfl)) (pa_cons pe_int (pa_cons (C8.pe_gc rfl B.c_MOST_ARGUMENT) pa_nil))))))))) (pss_one (ps_ret pe_bl)) pss_nil))))
    (pss_one (ps_ret pe_bl)))), ?_⟩
    obtain ⟨t1, y1, k1⟩ := isi_tup (K := K) hl
    refine ⟨_, rfl, _, _, _, _, _, rfl, .ty _, y1, k1, _, rfl, iteF ?_⟩
    refine ⟨_, rfl, l, rfl, ⟨_, .inl (.inl hl)⟩, ?_⟩
    have hlen := Paired.len hp
    refine for_tup (xs := bs.map V.ref) (fun i σ' H' => H' = H ∧ (∃ o, σ' = [some (.ref l), o]) ∧ (ls.take i).all okP = true) ⟨rfl, ⟨_, rfl⟩, rfl⟩ (fun i σ' H' _ e => by rw [e.1]; exact .inl (.inl hl)) ?_ ?_
    · rintro i x σ' H' hx ⟨rfl, ⟨o, rfl⟩, hall⟩
      obtain ⟨b, hb, rfl⟩ : ∃ b, bs[i]? = some b ∧ x = .ref b := by
        rw [List.getElem?_map] at hx
        cases e : bs[i]? with
        | none => rw [e] at hx; cases hx
        | some b => rw [e] at hx; exact ⟨b, rfl, by injection hx with h; exact h.symm⟩
      obtain ⟨p, hpi, hpa⟩ := Paired.at_ hp hb
      obtain ⟨t2, y2, k2⟩ := isi_tup (K := K) hpa
      have tk : ls.take (i + 1) = ls.take i ++ [p] := by rw [List.take_succ, hpi]; rfl
      have hmem : p ∈ ls := List.mem_of_getElem? hpi
      have fail : okP p = false → Q (.bl false) H' := fun h => by
        have e : ls.all okP = false := by
          rw [Bool.eq_false_iff]
          intro g
          rw [List.all_eq_true.mp g p hmem] at h
          cases h
        rw [e] at q
        exact q
      refine ⟨_, rfl, _, _, _, _, _, rfl, .ty _, y2, k2, _, rfl, iteF ?_⟩
      refine ⟨_, rfl, b, _, rfl, .inr (.inl (.inl hpa)), rfl, _, rfl, iteF ?_⟩
      refine ⟨_, rfl, b, _, 0, _, rfl, rfl, .inl (.inl hpa), rfl, .int p.1, 0, 2 ^ 20, rfl, rfl, _, rfl, ?_⟩
      rw [inV_nat]
      cases h1 : decide (p.1 ≤ 2 ^ 20) with
      | false => exact iteT (iteT (fail (by rw [okP, h1]; rfl)))
      | true =>
        refine iteF ⟨_, rfl, b, _, 1, _, rfl, rfl, .inl (.inl hpa), rfl, .int p.2, 0, 2 ^ 20, rfl, rfl, _, rfl, ?_⟩
        rw [inV_nat]
        cases h2 : decide (p.2 ≤ 2 ^ 20) with
        | false => exact iteT (fail (by rw [okP, h1, h2]; rfl))
        | true =>
          refine iteF ⟨rfl, ⟨_, rfl⟩, ?_⟩
          rw [tk, List.all_append, hall]
          show (okP p && true) = true
          rw [okP, h1, h2]
          rfl
    · rintro σ' H' ⟨rfl, _, hall⟩
      rw [List.length_map, hlen, List.take_length] at hall
      rw [hall] at q
      exact q)
abbrev sLinkIn : Stmt := topS 30
theorem scLinkIn : FnScope ["word", "link", "one", "mark", "two"] ["word"] (defScope sLinkIn) := ⟨rfl, rfl, rfl, by decide +kernel, rfl, by decide +kernel, by decide +kernel⟩
def spLinkIn : Sp := fun vs H Q _ => ∃ z : Str, vs = [.str z] ∧ Bd (.str z) ∧ ∀ v H', Same H H' → LinkR H' v (mLink (TL.tl z)) → Q v H'
theorem ok_link_in (F : DefX K mg "link_in" sLinkIn ["word"]) (B : Bu P w K mg a) (c_count_in : Cl P w K mg base CX0 k "count_in" spCountIn) : Cl P w K mg base CX0 (k + 1) "link_in" spLinkIn :=
  cl0 F scLinkIn (fun vs H Q E h => by obtain ⟨_, e, _⟩ := h; rw [e]; rfl) (fun f cdv A outer s H vs Q E hr h => by
    obtain ⟨z, rfl, bd, q⟩ := h
    refine ⟨_, (pss_cons (ps_asg (pe_partition (pv 0) pe_str) (pg_tup rfl (pgs_cons (pg_name (i := 2) scLinkIn.nd rfl (Or.inl rfl)) (pgs_cons (pg_name (i := 3) scLinkIn.nd rfl (Or.inl rfl)) (pgs_cons (pg_name (i := 4) scLinkIn.nd rfl (Or.inl rfl)) pgs_nil)))))
    (pss_cons (ps_set (i := 1) scLinkIn.nd rfl (Or.inl rfl) (pe_tup (pa_cons (pc0 c_count_in hr (Nat.le_refl _) rfl (pa_cons (pv 2) pa_nil)) (pa_cons (pc0 c_count_in hr (Nat.le_refl _) rfl (pa_cons (pv 4) pa_nil)) pa_nil))))
    (pss_one (ps_ret (pe_ifExp (PW.pt (pw_or (pt_cmpR op_eq (pv 3) pe_str (nomark _)) (pw_or1 (pt_cmpR (op_noneT hr.units) pe_non (pv 1) (by rfl))))) pe_non (pv 1)))))), ?_⟩
    have hpar := TL.partition_par z (S "-") (by decide +kernel)
    have hm45 : TL.tl (S "-") = [45] := by rw [tl_S]; decide
    rw [hm45] at hpar
    refine ⟨_, rfl, ⟨_, rfl⟩, _, _, rfl, rfl, by decide +kernel, bd.ok, fun p hp => ?_⟩
    refine ⟨p, _, rfl, .inl (.inl upd_same), rfl, _, _, rfl, _, _, rfl, _, _, rfl, rfl, ?_⟩
    have s1 : Same H (upd H p (.tup [.str (Txt.partition z (S "-")).1, .str (Txt.partition z (S "-")).2.1, .str (Txt.partition z (S "-")).2.2])) := same_upd hp
    have hbd1 : Bd (.str (Txt.partition z (S "-")).1) ∧ Bd (.str (Txt.partition z (S "-")).2.2) := by
      rw [hpar]
      cases e : TL.par [45] [] (TL.tl z) with
      | none => exact ⟨bd, fun y h => by
          cases h
          exact (by decide : Str.empty.length ≤ 4000000)⟩
      | some p =>
        obtain ⟨x, y⟩ := p
        have := par_len e
        have hz := bd z rfl
        rw [TL.len_tl] at hz
        refine ⟨bd_mkS ?_, bd_mkS ?_⟩
        · have : x.length + y.length ≤ (TL.tl z).length := by simpa using this
          omega
        · have : x.length + y.length ≤ (TL.tl z).length := by simpa using this
          omega
    refine ⟨_, rfl, _, rfl, hbd1.1, fun H1 h1 => ⟨_, rfl, _, rfl, hbd1.2, fun H2 h2 => ⟨sz rfl, fun b hb => ?_⟩⟩⟩
    have s2 := (s1.trans (h1.trans h2)).trans (same_upd (o := .tup [cntV (mCount (TL.tl (Txt.partition z (S "-")).1)), cntV (mCount (TL.tl (Txt.partition z (S "-")).2.2))]) hb)
    rw [mLink, par45] at q
    cases e : TL.par [45] [] (TL.tl z) with
    | none =>
      rw [e] at q hpar
      have em : (Txt.partition z (S "-")).2.1 = S "" := by rw [hpar]; exact TL.ext_tl (by rw [tl_S]; rfl)
      refine ⟨_, rfl, rfl, _, rfl, ?_⟩
      rw [em]
      exact iteT (q _ _ s2 rfl)
    | some pr =>
      obtain ⟨x, y⟩ := pr
      rw [e] at q hpar
      dsimp only at q hpar
      have em : (Txt.partition z (S "-")).2.1 = S "-" := by rw [hpar]
      have e1 : TL.tl (Txt.partition z (S "-")).1 = x := by rw [hpar]
      have e2 : TL.tl (Txt.partition z (S "-")).2.2 = y := by rw [hpar]
      refine ⟨_, rfl, rfl, _, rfl, ?_⟩
      rw [em]
      refine iteF ⟨_, rfl, b, _, rfl, rfl, .inl (.inl upd_same), ?_, _, rfl, ?_⟩
      · intro v hv
        rcases List.mem_cons.mp hv with rfl | hv
        · exact noT_cnt _
        · rcases List.mem_cons.mp hv with rfl | hv
          · exact noT_cnt _
          · cases hv
      · rw [e1, e2] at s2 ⊢
        cases hx : mCount x with
        | none =>
          rw [hx] at q s2
          exact q _ _ s2 rfl
        | some m =>
          cases hy : mCount y with
          | none =>
            rw [hx, hy] at q s2
            exact q _ _ s2 rfl
          | some n =>
            rw [hx, hy] at q s2
            exact ⟨_, rfl, q _ _ s2 ⟨b, rfl, upd_same⟩⟩)
end
end Ms


set_option Elab.async false
set_option linter.all false
set_option maxRecDepth 100000
set_option maxHeartbeats 4000000
/-! # The walk, 4: world_in, step_in -/
namespace Ms
open PySem PySem.Spec PyProof.Rows L2
theorem wordsF_len : ∀ {n : Nat} {l : Cs} {ws : List Cs}, wordsF n l = some ws → ws ≠ [] ∧ ws.length ≤ l.length ∧ ∀ w ∈ ws, w.length ≤ l.length
  | 0, _, _, h => by cases h
  | n + 1, [], _, h => by cases h
  | n + 1, c :: r, ws, h => by
    have hw := wlen_le (c :: r)
    unfold wordsF at h
    cases e : (c :: r).drop (wlen (c :: r)) with
    | nil =>
      rw [e] at h
      dsimp only at h
      split at h
      · cases h
        refine ⟨by simp, by simp, fun w hm => ?_⟩
        rcases List.mem_cons.mp hm with rfl | hm
        · rw [List.length_take]
          exact Nat.min_le_right _ _
        · cases hm
      · cases h
    | cons d r' =>
      rw [e] at h
      dsimp only at h
      have hl : ((c :: r).drop (wlen (c :: r))).length = r'.length + 1 := by rw [e]; rfl
      rw [List.length_drop] at hl
      split at h
      · cases h
      · cases e2 : wordsF n r' with
        | none => rw [e2] at h; cases h
        | some ws' =>
          rw [e2] at h
          cases h
          obtain ⟨_, h2, h3⟩ := wordsF_len e2
          refine ⟨by simp, ?_, fun w hm => ?_⟩
          · rw [List.length_cons]
            omega
          · rcases List.mem_cons.mp hm with rfl | hm
            · rw [List.length_take]
              exact Nat.min_le_right _ _
            · have := h3 w hm
              omega
theorem mWords_len {l : Cs} {ws : List Cs} (h : mWords l = some ws) : ws ≠ [] ∧ ws.length ≤ l.length ∧ ∀ w ∈ ws, w.length ≤ l.length := wordsF_len h
theorem allSome_none {α β : Type} {f : α → Option β} : ∀ {l : List α}, allSome f l = none ↔ l.any (fun x => (f x).isNone) = true
  | [] => ⟨fun h => (by cases h), fun h => (by cases h)⟩
  | x :: r => by
    rw [List.any_cons, allSome]
    cases e : f x with
    | none => exact ⟨fun _ => rfl, fun _ => rfl⟩
    | some y =>
      show _ ↔ (false || _) = true
      rw [Bool.false_or, ← allSome_none (l := r)]
      cases allSome f r with
      | none => exact ⟨fun _ => rfl, fun _ => rfl⟩
      | some ys => exact ⟨fun h => (by cases h), fun h => (by cases h)⟩
theorem allSome_map' {α β : Type} {f : α → Option β} : ∀ {l : List α} {ys : List β}, allSome f l = some ys → l.map f = ys.map some
  | [], _, h => by cases h; rfl
  | x :: r, ys, h => by
    rw [allSome] at h
    cases e : f x with
    | none => rw [e] at h; cases h
    | some y =>
      rw [e] at h
      cases e2 : allSome f r with
      | none => rw [e2] at h; cases h
      | some zs =>
        rw [e2] at h
        cases h
        rw [List.map_cons, List.map_cons, e, allSome_map' e2]
def StepR (H : Hp) (v : V) : Option Stp → Prop
  | none => v = .non
  | some st => StepAt H v st
theorem any_cnt {ws : List Cs} : ((ws.map fun w => cntV (mCount w)).any isNonV) = ws.any (fun w => (mCount w).isNone) := by
  rw [List.any_map]
  refine List.any_congr rfl fun w => ?_
  show isNonV (cntV (mCount w)) = _
  cases mCount w <;> rfl
theorem any_link {H : Hp} : ∀ {ys : List V} {os : List (Option (Nat × Nat))}, Paired (LinkR H) ys os → ys.any isNonV = os.any Option.isNone
  | _, _, .nil => rfl
  | y :: _, o :: _, .cons h t => by
    rw [List.any_cons, List.any_cons, any_link t]
    cases o with
    | none => cases h; rfl
    | some p =>
      obtain ⟨b, rfl, _⟩ := h
      rfl
theorem noT_link {K : PySem.W.Frag} {H : Hp} : ∀ {ys : List V} {os : List (Option (Nat × Nat))}, Paired (LinkR H) ys os → ∀ v ∈ ys, NoT K H v
  | _, _, .nil => fun _ h => by cases h
  | _, o :: _, .cons h t => fun v hv => by
    rcases List.mem_cons.mp hv with rfl | hv
    · cases o with
      | none => exact .inl h
      | some p =>
        obtain ⟨b, rfl, hb⟩ := h
        exact .inr (.inr ⟨b, _, rfl, .inl (.inl hb)⟩)
    · exact noT_link t v hv
theorem links_of {H : Hp} : ∀ {ys : List V} {ps : List (Nat × Nat)}, Paired (LinkR H) ys (ps.map some) → ∃ bs : List Addr, ys = bs.map V.ref ∧ Paired (PairAt H) bs ps
  | _, [], .nil => ⟨[], rfl, .nil⟩
  | _, p :: _, .cons h t => by
    obtain ⟨b, rfl, hb⟩ := h
    obtain ⟨bs, rfl, hp⟩ := links_of t
    exact ⟨b :: bs, rfl, .cons hb hp⟩
theorem paired_of {α : Type} {F : V → α → Prop} : ∀ {ys : List V} {ws : List α}, ys.length = ws.length → (∀ (j : Nat) (y : V), ys[j]? = some y → ∃ w, ws[j]? = some w ∧ F y w) → Paired F ys ws
  | [], [], _, _ => .nil
  | [], _ :: _, h, _ => by simp at h
  | _ :: _, [], h, _ => by simp at h
  | y :: ys, w :: ws, h, g => by
    refine .cons ?_ (paired_of (by simpa using h) fun j y' hj => ?_)
    · obtain ⟨w', hw, hf⟩ := g 0 y rfl
      cases hw
      exact hf
    · obtain ⟨w', hw, hf⟩ := g (j + 1) y' (by simpa using hj)
      exact ⟨w', by simpa using hw, hf⟩
section
variable {P : Program} {w : World} {K : PySem.W.Frag} {mg : Str → Option Value} {base : Heap} {a : Ad} {k : Nat}
abbrev sWorldIn : Stmt := topS 31
theorem scWorldIn : FnScope ["words", "hosts", "links", "word"] ["words"] (defScope sWorldIn) := ⟨rfl, rfl, rfl, by decide +kernel, rfl, by decide +kernel, by decide +kernel⟩
def spWorldIn : Sp := fun vs H Q _ => ∃ (l : Addr) (w0 : Cs) (ws : List Cs), vs = [.ref l] ∧ H l = some (.lst ((w0 :: ws).map strV)) ∧ ws.length ≤ 4000000 ∧ (∀ w ∈ ws, w.length ≤ 4000000) ∧ ∀ v H', Same H H' → StepR H' v (mWorld ws) → Q v H'
theorem ok_world_in (F : DefX K mg "world_in" sWorldIn ["words"]) (B : Bu P w K mg a) (c_count_in : Cl P w K mg base CX0 k "count_in" spCountIn) (c_link_in : Cl P w K mg base CX0 k "link_in" spLinkIn) : Cl P w K mg base CX0 (k + 1) "world_in" spWorldIn :=
  cl0 F scWorldIn (fun vs H Q E h => by obtain ⟨_, _, _, e, _⟩ := h; rw [e]; rfl) (fun f cdv A outer s H vs Q E hr h => by
    obtain ⟨l, w0, ws, rfl, hl, hws, hb, q⟩ := h
    refine ⟨_, (pss_cons (ps_set (i := 1) scWorldIn.nd rfl (Or.inl rfl) (pe_ifExp (pt_cmpR op_gt (pe_callB call_len_seq (by rfl) B.b_len bt_len (pa_cons (pv 0) pa_nil)) pe_int (nomark _)) (pc0 c_count_in hr (Nat.le_refl _) rfl (pa_cons (pe_ix ix_list (pv 0) pe_int (fun _ _ => rfl)) pa_nil)) pe_non))
    (pss_cons (ps_set (i := 2) scWorldIn.nd rfl (Or.inl rfl) (pe_callTy call_tuple_of (by rfl) B.b_tuple bt_tuple (pa_cons (pe_lc (own := [("word", 3)]) (g := (gName 3)) (tt := tYes) rfl scWorldIn.nd (pi_list (pe_slice sl_list (pv 0) (po_some pe_int) po_none)) (blkOk_by (own := [("word", 3)]) (N := ["words", "hosts", "links", "word"]) (sc := defScope sWorldIn) (by decide +kernel)) (fun _ _ _ _ _ => (pg_name (i := 3) scWorldIn.nd rfl (Or.inl rfl))) (fun _ _ _ _ _ => pts_nil) (fun _ _ _ _ _ => (pc0 c_link_in hr (Nat.le_refl _) rfl (pa_cons (pv 3) pa_nil)))) pa_nil)))
    (pss_one (ps_ret (pe_ifExp (PW.pt (pw_or (pt_cmpR op_isN (pv 1) pe_non (nomark _)) (pw_or1 (pt_cmpR (op_noneT hr.units) pe_non (pv 2) (by rfl))))) pe_non (pe_tup (pa_cons pe_str (pa_cons (pv 1) (pa_cons (pv 2) pa_nil))))))))), ?_⟩
    refine ⟨_, rfl, l, _, rfl, .inl (.inl (.inl hl)), _, _, rfl, rfl, _, rfl, ite2 (fun c => ?_) (fun c => ?_)⟩
    · obtain ⟨w1, wr, rfl⟩ : ∃ w1 wr, ws = w1 :: wr := by
        cases ws with
        | nil => exact absurd (of_decide_eq_true c) (by show ¬ ((1 : Int) < ((1 : Nat) : Int)); decide)
        | cons w1 wr => exact ⟨w1, wr, rfl⟩
      refine ⟨_, rfl, l, _, 1, _, rfl, rfl, .inl (.inl hl), atI_nat (j := 1) rfl, mkS w1, rfl, bd_mkS (hb _ List.mem_cons_self), fun H1 h1 => ?_⟩
      refine ⟨_, rfl, _, rfl, l, _, rfl, .inl (.inl (h1 _ _ hl)), fun p hp => ?_⟩
      have ec : cutV (List.map strV (w0 :: w1 :: wr)) (some 2) none = wr.map strV := (cutV_n (m := 2) rfl).trans rfl
      rw [ec]
      refine ⟨p, rfl, ⟨_, .inl (.inl upd_same)⟩, fun D hD => ?_⟩
      have s1 := h1.trans (same_upd (o := .lst (wr.map strV)) hp)
      refine lc_mapS (walk_list (xs := wr.map strV)) (fun j x => (wr.map strV)[j]? = some x) (fun j y H' => ∃ w, wr[j]? = some w ∧ LinkR H' y (mLink w)) (by rw [List.length_map]; exact Nat.le_trans (Nat.le_succ _) hws) hD (fun i H x H' h => h) (fun H1 hs => .inl (.inl (hs _ _ upd_same)))
        (fun j y H1 H2 ⟨w, hw, h⟩ tk => ⟨w, hw, h.keep tk⟩) ?_ ?_
      · intro j x H2 R hj hx hs r
        rw [List.getElem?_map] at hx
        cases e : wr[j]? with
        | none => rw [e] at hx; cases hx
        | some w2 =>
          rw [e] at hx
          cases hx
          refine ⟨wipe1, _, slot1 (Nat.lt_succ_self 3), mkS w2, rfl, bd_mkS (hb _ (List.mem_cons_of_mem _ (List.mem_of_getElem? e))), fun v H3 h3 hv => r v H3 h3 ⟨w2, e, hv⟩⟩
      · intro ys H2 hs hD2 hlen hF
        rw [List.length_map] at hlen
        have hpair : Paired (LinkR H2) ys (wr.map mLink) := paired_of (by rw [List.length_map]; exact hlen) fun j y hj => by
          obtain ⟨w2, hw2, h⟩ := hF j y hj
          exact ⟨_, by rw [List.getElem?_map, hw2]; rfl, h⟩
        refine ⟨D, _, rfl, .inl ⟨.inl (.inl hD2), fun t ht => ?_⟩⟩
        have s2 := (s1.trans hs).trans (same_upd (o := .tup ys) ht)
        have tk2 := Same.tk (same_upd (o := .tup ys) ht)
        rw [show TL.tl (mkS w1) = w1 from rfl]
        rw [mWorld] at q
        cases hm : mCount w1 with
        | none =>
          rw [hm] at q
          exact ⟨_, rfl, rfl, _, rfl, iteT (q _ _ s2 rfl)⟩
        | some n =>
          rw [hm] at q
          refine ⟨_, rfl, rfl, _, rfl, iteF ⟨_, rfl, t, _, rfl, rfl, .inl (.inl upd_same), ?_, _, rfl, ?_⟩⟩
          · exact fun v hv => noT_link (L2.Paired.mapP hpair fun _ _ h => h.keep tk2) v hv
          · rw [any_link hpair, List.any_map]
            cases hal : allSome mLink wr with
            | none =>
              rw [show (wr.any (Option.isNone ∘ mLink)) = true from allSome_none.mp hal]
              rw [hal] at q
              exact iteT (q _ _ s2 rfl)
            | some ls =>
              have hno : (wr.any (Option.isNone ∘ mLink)) = false := by
                rw [Bool.eq_false_iff]
                intro h
                rw [allSome_none.mpr h] at hal
                cases hal
              rw [hno]
              rw [hal] at q
              refine iteF ⟨_, rfl, _, rfl, sz rfl, fun b hb => ?_⟩
              rw [allSome_map' hal] at hpair
              obtain ⟨bs, rfl, hbs⟩ := links_of hpair
              refine q _ _ (s2.trans (same_upd hb)) ⟨b, t, rfl, upd_same, bs, ?_, ?_⟩
              · exact same_upd hb _ _ upd_same
              · exact L2.Paired.mapP hbs fun x y h => (h.keep tk2).keep (Same.tk (same_upd hb))
    · have e0 : ws = [] := by
        cases ws with
        | nil => rfl
        | cons w1 wr => exact absurd (decide_eq_true (by rw [List.length_map, List.length_cons, List.length_cons]; omega)) c
      subst e0
      refine ⟨_, rfl, _, rfl, l, _, rfl, .inl (.inl hl), fun p hp => ?_⟩
      have ec : cutV (List.map strV [w0]) (some 2) none = ([] : List Cs).map strV := (cutV_n (m := 2) rfl).trans rfl
      rw [ec]
      refine ⟨p, rfl, ⟨_, .inl (.inl upd_same)⟩, fun D hD => ?_⟩
      have s1 := same_upd (o := .lst (([] : List Cs).map strV)) hp
      refine lc_mapS (walk_list (xs := ([] : List Cs).map strV)) (fun j x => (([] : List Cs).map strV)[j]? = some x) (fun j y H' => True) (Nat.zero_le _) hD (fun i H x H' h => h) (fun H1 hs => .inl (.inl (hs _ _ upd_same)))
        (fun _ _ _ _ _ _ => trivial) (fun j x H2 R hj => absurd hj (Nat.not_lt_zero _)) ?_
      intro ys H2 hs hD2 hlen hF
      refine ⟨D, _, rfl, .inl ⟨.inl (.inl hD2), fun t ht => ?_⟩⟩
      exact ⟨_, rfl, rfl, _, rfl, iteT (q _ _ ((s1.trans hs).trans (same_upd ht)) rfl)⟩)
end
end Ms


set_option Elab.async false
set_option linter.all false
set_option maxRecDepth 100000
set_option maxHeartbeats 4000000
/-! # The walk, 5: step_in -/
namespace Ms
open PySem PySem.Spec PyProof.Rows L2
theorem cmd_facts {z : Cs} {many more : Nat} (h : cmd z = some (many, more)) : many ≤ 3 ∧ (more = 0 ∨ more = 1 ∨ more = 2) ∧ (more ≠ 0 → many = 1) := by
  have := cmds_ok _ (cmd_mem h)
  exact ⟨this.2.2.2.1, this.2.2.2.2.1, this.2.2.2.2.2.1⟩
theorem len_two {α : Type} : ∀ {l : List α}, l.length = 2 → ∃ x y, l = [x, y]
  | [x, y], _ => ⟨x, y, rfl⟩
  | [], h => by cases h
  | [_], h => by cases h
  | _ :: _ :: _ :: _, h => by simp at h
theorem kv0 : decide (V.str (S (kindS 0)) = V.str (S "value")) = false := by decide +kernel
theorem kv1 : decide (V.str (S (kindS 1)) = V.str (S "value")) = false := by decide +kernel
theorem kv2 : decide (V.str (S (kindS 2)) = V.str (S "value")) = true := by decide +kernel
section
variable {P : Program} {w : World} {K : PySem.W.Frag} {mg : Str → Option Value} {base : Heap} {a : Ad} {k : Nat}
abbrev sStepIn : Stmt := topS 29
theorem scStepIn : FnScope ["line", "words", "counts", "rest", "key", "value", "many", "more", "word"] ["line"] (defScope sStepIn) := ⟨rfl, rfl, rfl, by decide +kernel, rfl, by decide +kernel, by decide +kernel⟩
def spStepIn : Sp := fun vs H Q _ => ∃ z : Str, vs = [.str z] ∧ Bd (.str z) ∧ ∀ v H', Same H H' → StepR H' v (mStep (TL.tl z)) → Q v H'
theorem ok_step_in (F : DefX K mg "step_in" sStepIn ["line"]) (B : Bu P w K mg a) (c_words_of : Cl P w K mg base CX0 k "words_of" spWordsOf) (c_world_in : Cl P w K mg base CX0 k "world_in" spWorldIn) (c_text_in : Cl P w K mg base CX0 k "text_in" spTextIn) (c_value_in : Cl P w K mg base CX0 k "value_in" spValueIn) (c_count_in : Cl P w K mg base CX0 k "count_in" spCountIn) : Cl P w K mg base CX0 (k + 1) "step_in" spStepIn :=
  cl0 F scStepIn (fun vs H Q E h => by obtain ⟨_, e, _⟩ := h; rw [e]; rfl) (fun f cdv A outer s H vs Q E hr h => by
    obtain ⟨z, rfl, bd, q⟩ := h
    refine ⟨_, (pss_cons (ps_set (i := 1) scStepIn.nd rfl (Or.inl rfl) (pc0 c_words_of hr (Nat.le_refl _) rfl (pa_cons (pv 0) pa_nil)))
    (pss_cons (ps_if (pt_cmpR op_isN (pv 1) pe_non (nomark _)) (pss_one (ps_ret pe_non)) pss_nil)
    (pss_cons (ps_if (pt_cmpR op_eq (pe_ix ix_list (pv 1) pe_int (fun _ _ => rfl)) pe_str (nomark _)) (pss_one (ps_ret (pc0 c_world_in hr (Nat.le_refl _) rfl (pa_cons (pv 1) pa_nil)))) pss_nil)
    (pss_cons (ps_if (pt_cmpR (op_notIn_kd B.cmdD) (pe_ix ix_list (pv 1) pe_int (fun _ _ => rfl)) (C8.pe_gc rfl B.c_COMMANDS) (by rfl)) (pss_one (ps_ret pe_non)) pss_nil)
    (pss_cons (ps_asg (pe_ix ix_kdict (C8.pe_gc rfl B.c_COMMANDS) (pe_ix ix_list (pv 1) pe_int (fun _ _ => rfl)) (fun _ _ => rfl)) (pg_tup rfl (pgs_cons (pg_name (i := 6) scStepIn.nd rfl (Or.inl rfl)) (pgs_cons (pg_name (i := 7) scStepIn.nd rfl (Or.inl rfl)) pgs_nil))))
    (pss_cons (ps_set (i := 2) scStepIn.nd rfl (Or.inl rfl) (pe_callTy call_tuple_of (by rfl) B.b_tuple bt_tuple (pa_cons (pe_lc (own := [("word", 8)]) (g := (gName 8)) (tt := tYes) rfl scStepIn.nd (pi_list (pe_slice sl_list (pv 1) (po_some pe_int) (po_some (pe_op op_add pe_int (pv 6))))) (blkOk_by (own := [("word", 8)]) (N := ["line", "words", "counts", "rest", "key", "value", "many", "more", "word"]) (sc := defScope sStepIn) (by decide +kernel)) (fun _ _ _ _ _ => (pg_name (i := 8) scStepIn.nd rfl (Or.inl rfl))) (fun _ _ _ _ _ => pts_nil) (fun _ _ _ _ _ => (pc0 c_count_in hr (Nat.le_refl _) rfl (pa_cons (pv 8) pa_nil)))) pa_nil)))
    (pss_cons (ps_set (i := 3) scStepIn.nd rfl (Or.inl rfl) (pe_slice sl_list (pv 1) (po_some (pe_op op_add pe_int (pv 6))) po_none))
    (pss_cons (ps_if (PW.pt (pw_or (pt_cmpR op_lt (pe_callB call_len_seq (by rfl) B.b_len bt_len (pa_cons (pv 2) pa_nil)) (pv 6) (nomark _)) (pw_or (pt_cmpR (op_noneT hr.units) pe_non (pv 2) (by rfl)) (pw_or1 (pt_cmpR op_ne (pe_callB call_len_seq (by rfl) B.b_len bt_len (pa_cons (pv 3) pa_nil)) (pe_dget (hu_of hr) (pe_disp (pps_cons pe_str pe_int (pps_cons pe_str pe_int (pps_cons pe_str pe_int pps_nil))) (by rfl) (by rfl) (fun z => by cases z) (by decide)) (pv 7) (fun _ _ => rfl)) (nomark _)))))) (pss_one (ps_ret pe_non)) pss_nil)
    (pss_cons (ps_set (i := 4) scStepIn.nd rfl (Or.inl rfl) (pe_ifExp (pt_cmpR (op_neE hr.units) (pv 3) (pe_lst pa_nil) (nomark _)) (pc0 c_text_in hr (Nat.le_refl _) rfl (pa_cons (pe_ix ix_list (pv 3) pe_int (fun _ _ => rfl)) pa_nil)) (pe_tup pa_nil)))
    (pss_cons (ps_set (i := 5) scStepIn.nd rfl (Or.inl rfl) (pe_ifExp (pt_cmpR op_eq (pv 7) pe_str (nomark _)) (pc0 c_value_in hr (Nat.le_refl _) rfl (pa_cons (pe_ix ix_list (pv 3) pe_int (fun _ _ => rfl)) pa_nil)) (pe_tup pa_nil)))
    (pss_cons (ps_if (PW.pt (pw_or (pt_cmpR op_lt (pe_callB call_len_seq (by rfl) B.b_len bt_len (pa_cons (pv 4) pa_nil)) (pe_callB (call_min2 rfl) (by rfl) B.b_min bt_min (pa_cons pe_int (pa_cons (pe_callB call_len_seq (by rfl) B.b_len bt_len (pa_cons (pv 3) pa_nil)) pa_nil))) (nomark _)) (pw_or1 (PW.pt (pw_and (pt_cmpR op_eq (pv 7) pe_str (nomark _)) (pw_and1 (pt_cmpR (op_eqE hr.units) (pv 5) (pe_tup pa_nil) (nomark _)))))))) (pss_one (ps_ret pe_non)) pss_nil)
    (pss_one (ps_ret (pe_op op_catA (pe_op op_catA (pe_op op_catA (pe_tup (pa_cons (pe_ix ix_list (pv 1) pe_int (fun _ _ => rfl)) pa_nil)) (pv 2)) (pv 4)) (pv 5))))))))))))))), ?_⟩
    have hz := bd z rfl
    rw [TL.len_tl] at hz
    refine ⟨_, rfl, z, rfl, bd, fun hno H1 s1 => ?_, fun ws hws l H1 s1 hl0 hl => ?_⟩
    · rw [mStep, hno] at q
      exact ⟨_, rfl, rfl, _, rfl, iteT (q _ _ s1 rfl)⟩
    obtain ⟨hne, hwl, hwb⟩ := mWords_len hws
    obtain ⟨w0, wr, rfl⟩ : ∃ w0 wr, ws = w0 :: wr := by
      cases ws with
      | nil => exact absurd rfl hne
      | cons w0 wr => exact ⟨w0, wr, rfl⟩
    rw [mStep, hws] at q
    dsimp only at q
    rw [List.length_cons] at hwl
    refine ⟨_, rfl, rfl, _, rfl, iteF ?_⟩
    refine ⟨_, rfl, l, _, 0, _, rfl, rfl, .inl (.inl hl), atI_nat (j := 0) rfl, rfl, _, rfl, ite2 (fun c => ?_) (fun c => ?_)⟩
    · have c' : w0 = cd "world" := by
        have e : mkS w0 = S "world" := V.str.inj (of_decide_eq_true c)
        have := S_iff.mp e
        exact this
      rw [if_pos c'] at q
      exact ⟨_, rfl, l, w0, wr, rfl, hl, by omega, fun w hm => Nat.le_trans (hwb w (List.mem_cons_of_mem _ hm)) hz, fun v H' hs hr => q v H' (s1.trans hs) hr⟩
    have c' : w0 ≠ cd "world" := fun e => c (decide_eq_true (congrArg V.str (S_iff.mpr e)))
    rw [if_neg c'] at q
    cases hcmd : cmd w0 with
    | none =>
      rw [hcmd] at q
      have hk := B.cmdN (mkS w0) hcmd
      exact ⟨_, rfl, l, _, 0, _, rfl, rfl, .inl (.inl hl), atI_nat (j := 0) rfl, mkS w0, _, rfl, rfl, hk, _, rfl, iteT (q _ _ s1 rfl)⟩
    | some mm =>
    obtain ⟨many, more⟩ := mm
    rw [hcmd] at q
    dsimp only at q
    obtain ⟨hmany, hmore, hm1⟩ := cmd_facts hcmd
    obtain ⟨pp, hk, hpp⟩ := B.cmdS (mkS w0) many more hcmd
    refine ⟨_, rfl, l, _, 0, _, rfl, rfl, .inl (.inl hl), atI_nat (j := 0) rfl, mkS w0, _, rfl, rfl, hk, _, rfl, iteF ?_⟩
    refine ⟨_, rfl, l, _, 0, _, rfl, rfl, .inl (.inl hl), atI_nat (j := 0) rfl, a.DC, mkS w0, .ref pp, rfl, rfl, ⟨a.es, a.n, .ref pp, B.cmdD.at_, B.cmdD.lit, hk, rfl⟩, pp, _, rfl, hpp H1, rfl, _, _, rfl, _, _, rfl, rfl, ?_⟩
    refine ⟨_, rfl, _, rfl, _, rfl, _, _, rfl, rfl, _, rfl, l, _, rfl, .inl (.inl hl), fun p hp => ?_⟩
    have ec : cutV (List.map strV (w0 :: wr)) (some 1) (some (1 + (many : Int))) = (wr.take many).map strV := by
      rw [cutV_1n]
      show ((wr.map strV).take many) = _
      rw [List.map_take]
    rw [ec]
    refine ⟨p, rfl, ⟨_, .inl (.inl upd_same)⟩, fun D hD => ?_⟩
    have s2 := s1.trans (same_upd (o := .lst ((wr.take many).map strV)) hp)
    have hl2 := same_upd (o := .lst ((wr.take many).map strV)) hp _ _ hl
    refine lc_mapS (walk_list (xs := (wr.take many).map strV)) (fun j x => ((wr.take many).map strV)[j]? = some x) (fun j y H' => ∃ w, (wr.take many)[j]? = some w ∧ y = cntV (mCount w)) (by rw [List.length_map, List.length_take]; omega) hD (fun i H x H' h => h) (fun H1 hs => .inl (.inl (hs _ _ upd_same)))
      (fun j y H1 H2 h tk => h) ?_ ?_
    · intro j x H2 R hj hx hs r
      rw [List.getElem?_map] at hx
      cases e : (wr.take many)[j]? with
      | none => rw [e] at hx; cases hx
      | some w2 =>
        rw [e] at hx
        cases hx
        have hm : w2 ∈ wr := List.mem_of_mem_take (List.mem_of_getElem? e)
        exact ⟨wipe1, _, slot1 (Nat.lt_succ_self 8), mkS w2, rfl, bd_mkS (Nat.le_trans (hwb _ (List.mem_cons_of_mem _ hm)) hz), fun H3 h3 => r _ H3 h3 ⟨w2, e, rfl⟩⟩
    intro ys H3 s3 hD3 hlen hF
    rw [List.length_map] at hlen
    have hys : ys = (wr.take many).map fun w => cntV (mCount w) := map_of hlen hF
    subst hys
    refine ⟨D, _, rfl, .inl ⟨.inl (.inl hD3), fun t ht => ?_⟩⟩
    have s4 := (s2.trans s3).trans (same_upd (o := .tup ((wr.take many).map fun w => cntV (mCount w))) ht)
    have hl4 := same_upd (o := .tup ((wr.take many).map fun w => cntV (mCount w))) ht _ _ (s3 _ _ hl2)
    refine ⟨_, rfl, _, rfl, _, _, rfl, rfl, _, rfl, l, _, rfl, .inl (.inl hl4), fun r hr => ?_⟩
    have er : cutV (List.map strV (w0 :: wr)) (some (1 + (many : Int))) none = (wr.drop many).map strV := by
      rw [cutV_n (m := many + 1) (by omega)]
      show (wr.map strV).drop many = _
      rw [List.map_drop]
    rw [er]
    have s5 := s4.trans (same_upd (o := .lst ((wr.drop many).map strV)) hr)
    have ht5 := same_upd (o := .lst ((wr.drop many).map strV)) hr _ _ (upd_same (H := H3) (a := t) (o := .tup ((wr.take many).map fun w => cntV (mCount w))))
    have hl5 := same_upd (o := .lst ((wr.drop many).map strV)) hr _ _ hl4
    have hr5 := upd_same (H := upd H3 t (.tup ((wr.take many).map fun w => cntV (mCount w)))) (a := r) (o := .lst ((wr.drop many).map strV))
    generalize upd (upd H3 t (.tup ((wr.take many).map fun w => cntV (mCount w)))) r (.lst ((wr.drop many).map strV)) = H5 at s5 ht5 hl5 hr5 ⊢
    have fail : (allSome mCount (wr.take many) = none ∨ (wr.take many).length < many ∨ (wr.drop many).length ≠ more) → ∀ H', Same H5 H' → Q .non H' := fun h H' hs => by
      have e : (match allSome mCount (wr.take many) with
          | none => none
          | some cs => if cs.length < many ∨ (wr.drop many).length ≠ more then none else
            match more, wr.drop many with
            | 0, _ => some (Stp.flat w0 (cs.map fun (n : Nat) => V.int (n : Int)))
            | 1, k :: _ => (mText k).map fun t => Stp.flat w0 (cs.map (fun (n : Nat) => V.int (n : Int)) ++ [.str (mkS t)])
            | _, k :: v :: _ => (match mText k, mValue v with
              | some t, some y => some (Stp.flat w0 (cs.map (fun (n : Nat) => V.int (n : Int)) ++ [.str (mkS t), y]))
              | _, _ => none)
            | _, _ => none) = none := by
        cases hal : allSome mCount (wr.take many) with
        | none => rfl
        | some cs =>
          have hcl : cs.length = (wr.take many).length := by
            have := congrArg List.length (allSome_map' hal)
            rw [List.length_map, List.length_map] at this
            exact this.symm
          rcases h with h | h | h
          · rw [hal] at h; cases h
          · exact if_pos (.inl (by omega))
          · exact if_pos (.inr h)
      have q' := q .non H' (s5.trans hs)
      refine q' ?_
      show StepR H' .non (match allSome mCount (wr.take many) with
          | none => none
          | some cs => if cs.length < many ∨ (wr.drop many).length ≠ more then none else
            match more, wr.drop many with
            | 0, _ => some (Stp.flat w0 (cs.map fun (n : Nat) => V.int (n : Int)))
            | 1, k :: _ => (mText k).map fun t => Stp.flat w0 (cs.map (fun (n : Nat) => V.int (n : Int)) ++ [.str (mkS t)])
            | _, k :: v :: _ => (match mText k, mValue v with
              | some t, some y => some (Stp.flat w0 (cs.map (fun (n : Nat) => V.int (n : Int)) ++ [.str (mkS t), y]))
              | _, _ => none)
            | _, _ => none)
      rw [e]
      rfl
    refine ⟨_, rfl, t, _, rfl, .inr (.inl (.inl ht5)), _, rfl, _, _, rfl, rfl, _, rfl, ite2 (fun c1 => ?_) (fun c1 => ?_)⟩
    · have c1' := of_decide_eq_true c1
      rw [List.length_map] at c1'
      exact iteT (fail (.inr (.inl (by omega))) _ (Same.refl _))
    have c1' : (wr.take many).length = many := by
      have : ¬ (((wr.take many).map fun w => cntV (mCount w)).length : Int) < (many : Nat) := fun h => c1 (decide_eq_true h)
      rw [List.length_map] at this
      have := List.length_take_le many wr
      omega
    refine ⟨_, rfl, t, _, rfl, rfl, .inl (.inl ht5), fun v hv => ?_, _, rfl, ?_⟩
    · obtain ⟨w2, _, rfl⟩ := List.mem_map.mp hv
      exact noT_cnt _
    rw [any_cnt]
    cases hal : allSome mCount (wr.take many) with
    | none =>
      rw [allSome_none.mp hal]
      exact iteT (iteT (fail (.inl hal) _ (Same.refl _)))
    | some cs =>
    have hno : ((wr.take many).any fun w => (mCount w).isNone) = false := by
      rw [Bool.eq_false_iff]
      intro h
      rw [allSome_none.mpr h] at hal
      cases hal
    rw [hno]
    have hcl : cs.length = many := by
      have := congrArg List.length (allSome_map' hal)
      rw [List.length_map, List.length_map] at this
      omega
    have hcs : ((wr.take many).map fun w => cntV (mCount w)) = cs.map fun (n : Nat) => V.int (n : Int) := by
      have := congrArg (List.map cntV) (allSome_map' hal)
      rw [List.map_map, List.map_map] at this
      exact this
    rw [hcs] at ht5
    refine iteF ⟨_, rfl, r, _, rfl, .inl (.inl (.inl hr5)), ?_⟩
    refine dict_more hmore rfl fun H6 s6 => ⟨rfl, _, rfl, ite2 (fun c2 => ?_) (fun c2 => ?_)⟩
    · rw [dec_int, List.length_map] at c2
      exact fail (.inr (.inr fun e => by rw [e] at c2; simp at c2)) _ s6
    rw [dec_int, List.length_map] at c2
    have c2' : (wr.drop many).length = more := by
      have : ((wr.drop many).length : Int) = (more : Nat) := by simpa using c2
      omega
    rw [hal] at q
    dsimp only at q
    rw [if_neg (by omega)] at q
    have s7 := s5.trans s6
    have ht6 := s6 _ _ ht5
    have hl6 := s6 _ _ hl5
    have hr6 := s6 _ _ hr5
    clear s1 s2 s3 s4 s5 s6 ht5 hl5 hr5 fail
    rcases hmore with rfl | rfl | rfl
    · have e0 : wr.drop many = [] := List.length_eq_zero_iff.mp c2'
      rw [e0] at hr6
      refine ⟨_, rfl, by decide, fun e1 he1 => ⟨r, e1, _, rfl, rfl, inNil he1 hr6, _, rfl, iteF ?_⟩⟩
      have s8 := s7.trans (same_upd (o := .lst []) he1)
      have s8' := same_upd (H := H6) (o := .lst []) he1
      refine ⟨by decide, fun ky hky => ?_⟩
      have s9 := s8.trans (same_upd (o := .tup []) hky)
      have s9' := s8'.trans (same_upd (o := .tup []) hky)
      refine ⟨_, rfl, rfl, _, rfl, iteF ⟨by decide, fun vy hvy => ?_⟩⟩
      have s10 := s9.trans (same_upd (o := .tup []) hvy)
      have s10' := s9'.trans (same_upd (o := .tup []) hvy)
      have hky10 := same_upd (o := .tup []) hvy _ _ (upd_same (H := upd H6 e1 (.lst [])) (a := ky) (o := .tup []))
      have hvy10 := upd_same (H := upd (upd H6 e1 (.lst [])) ky (.tup [])) (a := vy) (o := .tup [])
      generalize upd (upd (upd H6 e1 (.lst [])) ky (.tup [])) vy (.tup []) = H10 at s10 s10' hky10 hvy10 ⊢
      refine ⟨_, rfl, ky, _, rfl, .inr (.inl (.inl hky10)), _, rfl, r, _, rfl, .inl (.inl (.inl (s10' _ _ hr6))), _, _, rfl, _, _, rfl, rfl, _, rfl, iteF ?_⟩
      refine ⟨_, rfl, rfl, _, rfl, iteF (iteF ?_)⟩
      refine ⟨_, rfl, l, _, 0, _, rfl, rfl, .inl (.inl (s10' _ _ hl6)), atI_nat (j := 0) rfl, sz rfl, fun t1 ht1 => ?_⟩
      have s11' := s10'.trans (same_upd (o := .tup [strV w0]) ht1)
      have s11 := s10.trans (same_upd (o := .tup [strV w0]) ht1)
      have k11 := same_upd (o := .tup [strV w0]) ht1 _ _ hky10
      have v11 := same_upd (o := .tup [strV w0]) ht1 _ _ hvy10
      refine ⟨_, rfl, cat_tup (.inl (.inl upd_same)) (.inl (.inl (s11' _ _ ht6))) (by simp) (by rw [List.length_map]; simp; omega) (fun e => ?_) (fun e t2 ht2 => ?_)⟩
      · refine ⟨_, rfl, cat_tup (.inl (.inl upd_same)) (.inl (.inl k11)) (by simp) (by simp) (fun _ => ?_) (fun h => absurd rfl h)⟩
        refine ⟨_, rfl, cat_tup (.inl (.inl upd_same)) (.inl (.inl v11)) (by simp) (by simp) (fun _ => ?_) (fun h => absurd rfl h)⟩
        refine q _ _ s11 ⟨t1, rfl, ?_⟩
        rw [e]
        exact upd_same
      · have s12 := same_upd (o := .tup ([strV w0] ++ cs.map fun (n : Nat) => V.int (n : Int))) ht2
        refine ⟨_, rfl, cat_tup (.inl (.inl upd_same)) (.inl (.inl (s12 _ _ k11))) (by simp) (by simp; omega) (fun _ => ?_) (fun h => absurd rfl h)⟩
        refine ⟨_, rfl, cat_tup (.inl (.inl upd_same)) (.inl (.inl (s12 _ _ v11))) (by simp) (by simp; omega) (fun _ => ?_) (fun h => absurd rfl h)⟩
        exact q _ _ (s11.trans s12) ⟨t2, rfl, upd_same⟩
    · obtain ⟨kw, e0⟩ := List.length_eq_one_iff.mp c2'
      rw [e0] at hr6 q
      replace q : ∀ v H', Same H H' → StepR H' v ((mText kw).map fun t => Stp.flat w0 (cs.map (fun (n : Nat) => V.int (n : Int)) ++ [V.str (mkS t)])) → Q v H' := q
      have hone : many = 1 := hm1 (by decide)
      have hcne : (cs.map fun (n : Nat) => V.int (n : Int)) ≠ [] := fun e => by
        have := congrArg List.length e
        rw [List.length_map, hcl, hone] at this
        cases this
      have hkm : kw ∈ wr := List.mem_of_mem_drop (i := many) (by rw [e0]; exact List.mem_cons_self)
      refine ⟨_, rfl, by decide, fun e1 he1 => ⟨r, e1, _, rfl, rfl, inNil he1 hr6, _, rfl, iteT ?_⟩⟩
      have s8 := s7.trans (same_upd (o := .lst []) he1)
      have s8' := same_upd (H := H6) (o := .lst []) he1
      refine ⟨_, rfl, r, _, 0, _, rfl, rfl, .inl (.inl (s8' _ _ hr6)), atI_nat (j := 0) rfl, mkS kw, rfl, bd_mkS (Nat.le_trans (hwb _ (List.mem_cons_of_mem _ hkm)) hz), fun ky H9 h9 hky => ?_⟩
      rw [show TL.tl (mkS kw) = kw from rfl] at hky
      have s9 := s8.trans h9
      have s9' := s8'.trans h9
      refine ⟨_, rfl, rfl, _, rfl, ite2 (fun g => absurd (kv1.symm.trans g) (by decide)) (fun _ => ⟨by decide, fun vy hvy => ?_⟩)⟩
      have s10 := s9.trans (same_upd (o := .tup []) hvy)
      have s10' := s9'.trans (same_upd (o := .tup []) hvy)
      have hky10 := same_upd (o := .tup []) hvy _ _ hky
      have hvy10 := upd_same (H := H9) (a := vy) (o := .tup [])
      generalize upd H9 vy (.tup []) = H10 at s10 s10' hky10 hvy10 ⊢
      refine ⟨_, rfl, ky, _, rfl, .inr (.inl (.inl hky10)), _, rfl, r, _, rfl, .inl (.inl (.inl (s10' _ _ hr6))), _, _, rfl, _, _, rfl, rfl, _, rfl, ?_⟩
      cases hmt : mText kw with
      | none =>
        rw [hmt] at q
        exact iteT (iteT (q _ _ s10 rfl))
      | some kt =>
      rw [hmt] at q hky10
      refine iteF ⟨_, rfl, rfl, _, rfl, ite2 (fun g => absurd (kv1.symm.trans g) (by decide)) (fun _ => iteF ?_)⟩
      refine ⟨_, rfl, l, _, 0, _, rfl, rfl, .inl (.inl (s10' _ _ hl6)), atI_nat (j := 0) rfl, sz rfl, fun t1 ht1 => ?_⟩
      have s11' := s10'.trans (same_upd (o := .tup [strV w0]) ht1)
      have s11 := s10.trans (same_upd (o := .tup [strV w0]) ht1)
      have k11 := same_upd (o := .tup [strV w0]) ht1 _ _ hky10
      have v11 := same_upd (o := .tup [strV w0]) ht1 _ _ hvy10
      refine ⟨_, rfl, cat_tup (.inl (.inl upd_same)) (.inl (.inl (s11' _ _ ht6))) (by simp) (by rw [List.length_map]; simp; omega) (fun e => absurd e hcne) (fun e t2 ht2 => ?_)⟩
      have s12 := same_upd (o := .tup ([strV w0] ++ cs.map fun (n : Nat) => V.int (n : Int))) ht2
      refine ⟨_, rfl, cat_tup (.inl (.inl upd_same)) (.inl (.inl (s12 _ _ k11))) (by simp) (by simp [txtV]; omega) (fun e => by cases e) (fun _ t3 ht3 => ?_)⟩
      have s13 := same_upd (o := .tup ([strV w0] ++ (cs.map fun (n : Nat) => V.int (n : Int)) ++ txtV (some kt))) ht3
      refine ⟨_, rfl, cat_tup (.inl (.inl upd_same)) (.inl (.inl (s13 _ _ (s12 _ _ v11)))) (by simp) (by simp [txtV]; omega) (fun _ => ?_) (fun h => absurd rfl h)⟩
      exact q _ _ ((s11.trans s12).trans s13) ⟨t3, rfl, upd_same⟩
    · obtain ⟨kw, vw, e0⟩ := len_two c2'
      rw [e0] at hr6 q
      replace q : ∀ v H', Same H H' → StepR H' v (match mText kw, mValue vw with
              | some t, some y => some (Stp.flat w0 (cs.map (fun (n : Nat) => V.int (n : Int)) ++ [.str (mkS t), y]))
              | _, _ => none) → Q v H' := q
      have hone : many = 1 := hm1 (by decide)
      have hcne : (cs.map fun (n : Nat) => V.int (n : Int)) ≠ [] := fun e => by
        have := congrArg List.length e
        rw [List.length_map, hcl, hone] at this
        cases this
      have hkm : kw ∈ wr := List.mem_of_mem_drop (i := many) (by rw [e0]; exact List.mem_cons_self)
      have hvm : vw ∈ wr := List.mem_of_mem_drop (i := many) (by rw [e0]; exact List.mem_cons_of_mem _ List.mem_cons_self)
      refine ⟨_, rfl, by decide, fun e1 he1 => ⟨r, e1, _, rfl, rfl, inNil he1 hr6, _, rfl, iteT ?_⟩⟩
      have s8 := s7.trans (same_upd (o := .lst []) he1)
      have s8' := same_upd (H := H6) (o := .lst []) he1
      refine ⟨_, rfl, r, _, 0, _, rfl, rfl, .inl (.inl (s8' _ _ hr6)), atI_nat (j := 0) rfl, mkS kw, rfl, bd_mkS (Nat.le_trans (hwb _ (List.mem_cons_of_mem _ hkm)) hz), fun ky H9 h9 hky => ?_⟩
      rw [show TL.tl (mkS kw) = kw from rfl] at hky
      have s9 := s8.trans h9
      have s9' := s8'.trans h9
      refine ⟨_, rfl, rfl, _, rfl, ite2 (fun _ => ?_) (fun g => absurd kv2 g)⟩
      refine ⟨_, rfl, r, _, 1, _, rfl, rfl, .inl (.inl (s9' _ _ hr6)), atI_nat (j := 1) rfl, mkS vw, rfl, bd_mkS (Nat.le_trans (hwb _ (List.mem_cons_of_mem _ hvm)) hz), fun vy H10 h10 hvy10 => ?_⟩
      rw [show TL.tl (mkS vw) = vw from rfl] at hvy10
      have s10 := s9.trans h10
      have s10' := s9'.trans h10
      have hky10 := h10 _ _ hky
      refine ⟨_, rfl, ky, _, rfl, .inr (.inl (.inl hky10)), _, rfl, r, _, rfl, .inl (.inl (.inl (s10' _ _ hr6))), _, _, rfl, _, _, rfl, rfl, _, rfl, ?_⟩
      cases hmt : mText kw with
      | none =>
        rw [hmt] at q
        exact iteT (iteT (q _ _ s10 rfl))
      | some kt =>
      rw [hmt] at q hky10
      refine iteF ⟨_, rfl, rfl, _, rfl, ite2 (fun _ => ?_) (fun g => absurd kv2 g)⟩
      refine ⟨_, rfl, by decide, fun ee hee => ⟨vy, ee, _, rfl, rfl, .inr ⟨.inl (.inl (same_upd hee _ _ hvy10)), .inl (.inl upd_same)⟩, _, rfl, ?_⟩⟩
      have sE := same_upd (o := .tup []) hee
      cases hmv : mValue vw with
      | none =>
        rw [hmv] at q
        exact iteT (q _ _ (s10.trans sE) rfl)
      | some vv =>
      rw [hmv] at q hvy10
      refine iteF ?_
      refine ⟨_, rfl, l, _, 0, _, rfl, rfl, .inl (.inl (sE _ _ (s10' _ _ hl6))), atI_nat (j := 0) rfl, sz rfl, fun t1 ht1 => ?_⟩
      have s11' := (s10'.trans sE).trans (same_upd (o := .tup [strV w0]) ht1)
      have s11 := (s10.trans sE).trans (same_upd (o := .tup [strV w0]) ht1)
      have k11 := same_upd (o := .tup [strV w0]) ht1 _ _ (sE _ _ hky10)
      have v11 := same_upd (o := .tup [strV w0]) ht1 _ _ (sE _ _ hvy10)
      refine ⟨_, rfl, cat_tup (.inl (.inl upd_same)) (.inl (.inl (s11' _ _ ht6))) (by simp) (by rw [List.length_map]; simp; omega) (fun e => absurd e hcne) (fun e t2 ht2 => ?_)⟩
      have s12 := same_upd (o := .tup ([strV w0] ++ cs.map fun (n : Nat) => V.int (n : Int))) ht2
      refine ⟨_, rfl, cat_tup (.inl (.inl upd_same)) (.inl (.inl (s12 _ _ k11))) (by simp) (by simp [txtV]; omega) (fun e => by cases e) (fun _ t3 ht3 => ?_)⟩
      have s13 := same_upd (o := .tup ([strV w0] ++ (cs.map fun (n : Nat) => V.int (n : Int)) ++ txtV (some kt))) ht3
      refine ⟨_, rfl, cat_tup (.inl (.inl upd_same)) (.inl (.inl (s13 _ _ (s12 _ _ v11)))) (by simp) (by simp [txtV, valV]; omega) (fun e => by cases e) (fun _ t4 ht4 => ?_)⟩
      refine q _ _ (((s11.trans s12).trans s13).trans (same_upd ht4)) ⟨t4, rfl, ?_⟩
      rw [upd_same, List.append_assoc, List.append_assoc]
      rfl)
end
end Ms


set_option Elab.async false
set_option linter.all false
set_option maxRecDepth 100000
set_option maxHeartbeats 4000000
/-! # The walk, 6: is_step -/
namespace Ms
open PySem PySem.Spec PyProof.Rows L2
/-- what a step on the heap must be like -/
def okS : Stp → Prop
  | .flat w xs => w ≠ cd "world" ∧ xs.all flatV = true ∧ (∀ x ∈ xs, Bd x) ∧ xs.length ≤ 100
  | .world _ ls => ls.length ≤ 4000000
theorem filter_nilV {p : V → Bool} : ∀ {l : List V}, (l.filter p).isEmpty = l.all (fun c => !p c)
  | [] => rfl
  | c :: r => by
    rw [List.filter_cons, List.all_cons]
    cases h : p c with
    | true => rfl
    | false => exact filter_nilV
theorem len_three {α : Type} : ∀ {l : List α}, l.length = 3 → ∃ x y z, l = [x, y, z]
  | [x, y, z], _ => ⟨x, y, z, rfl⟩
  | [], h => by cases h
  | [_], h => by cases h
  | [_, _], h => by cases h
  | _ :: _ :: _ :: _ :: _, h => by simp at h
theorem kn0 : decide (V.str (S (kindS 0)) = V.str (S "")) = true := by decide +kernel
theorem kn1 : decide (V.str (S (kindS 1)) = V.str (S "")) = false := by decide +kernel
theorem kn2 : decide (V.str (S (kindS 2)) = V.str (S "")) = false := by decide +kernel
section
variable {P : Program} {w : World} {K : PySem.W.Frag} {mg : Str → Option Value} {base : Heap} {a : Ad} {k : Nat}
abbrev sIsStep : Stmt := topS 32
theorem scIsStep : FnScope ["step", "many", "more", "count"] ["step"] (defScope sIsStep) := ⟨rfl, rfl, rfl, by decide +kernel, rfl, by decide +kernel, by decide +kernel⟩
def spIsStep : Sp := fun vs H Q _ => ∃ v st, vs = [v] ∧ StepAt H v st ∧ okS st ∧ ∀ H', Same H H' → Q (.bl (mIsStep st)) H'
theorem ok_is_step (F : DefX K mg "is_step" sIsStep ["step"]) (B : Bu P w K mg a) (c_is_value : Cl P w K mg base CX0 k "is_value" spIsValue) (c_is_in : Cl P w K mg base CX0 k "is_in" spIsIn) (c_are_links : Cl P w K mg base CX0 k "are_links" spAreLinks) (c_is_key : Cl P w K mg base CX0 k "is_key" spIsKey) : Cl P w K mg base CX0 (k + 1) "is_step" spIsStep :=
  cl0 F scIsStep (fun vs H Q E h => by obtain ⟨_, _, e, _⟩ := h; rw [e]; rfl) (fun f cdv A outer s H vs Q E hr h => by
    obtain ⟨v, st, rfl, hst, hok, q⟩ := h
    refine ⟨_, (pss_cons (ps_if (PW.pt (pw_or (pt_not (pt_val (pe_callB call_isi (by rfl) B.b_isinstance bt_isinstance (pa_cons (pv 0) (pa_cons (pe_bltn (v := .ty "tuple") (by rfl) B.b_tuple bt_tuple rfl) pa_nil))))) (pw_or (pt_cmpR (op_eqE hr.units) (pv 0) (pe_tup pa_nil) (nomark _)) (pw_or1 (pt_not (pt_val (pe_callB call_isi (by rfl) B.b_isinstance bt_isinstance (pa_cons (pe_ix ix_tup (pv 0) pe_int (fun _ _ => rfl)) (pa_cons (pe_bltn (v := .ty "str") (by rfl) B.b_str bt_str rfl) pa_nil))))))))) (pss_one (ps_ret pe_bl)) pss_nil)
    (pss_cons (ps_if (pt_cmpR op_eq (pe_ix ix_tup (pv 0) pe_int (fun _ _ => rfl)) pe_str (nomark _)) (pss_one (ps_ret (pe_and (pe_cmpR op_eq (pe_callB call_len_seq (by rfl) B.b_len bt_len (pa_cons (pv 0) pa_nil)) pe_int (nomark _)) (pe_and (pc0 c_is_in hr (Nat.le_refl _) rfl (pa_cons (pe_ix ix_tup (pv 0) pe_int (fun _ _ => rfl)) (pa_cons pe_int (pa_cons (C8.pe_gc rfl B.c_MOST_ARGUMENT) pa_nil)))) (pe_one (pc0 c_are_links hr (Nat.le_refl _) rfl (pa_cons (pe_ix ix_tup (pv 0) pe_int (fun _ _ => rfl)) pa_nil))))))) pss_nil)
    (pss_cons (ps_if (pt_cmpR (op_notIn_kd B.cmdD) (pe_ix ix_tup (pv 0) pe_int (fun _ _ => rfl)) (C8.pe_gc rfl B.c_COMMANDS) (by rfl)) (pss_one (ps_ret pe_bl)) pss_nil)
    (pss_cons (ps_asg (pe_ix ix_kdict (C8.pe_gc rfl B.c_COMMANDS) (pe_ix ix_tup (pv 0) pe_int (fun _ _ => rfl)) (fun _ _ => rfl)) (pg_tup rfl (pgs_cons (pg_name (i := 1) scIsStep.nd rfl (Or.inl rfl)) (pgs_cons (pg_name (i := 2) scIsStep.nd rfl (Or.inl rfl)) pgs_nil))))
    (pss_cons (ps_if (pt_cmpR op_ne (pe_callB call_len_seq (by rfl) B.b_len bt_len (pa_cons (pv 0) pa_nil)) (pe_op op_add (pe_op op_add pe_int (pv 1)) (pe_dget (hu_of hr) (pe_disp (pps_cons pe_str pe_int (pps_cons pe_str pe_int (pps_cons pe_str pe_int pps_nil))) (by rfl) (by rfl) (fun z => by cases z) (by decide)) (pv 2) (fun _ _ => rfl))) (nomark _)) (pss_one (ps_ret pe_bl)) pss_nil)
    (pss_cons (ps_if (pt_cmpR (op_neE hr.units) (pe_lc (own := [("count", 3)]) (g := (gName 3)) rfl scIsStep.nd (pi_tup (pe_slice sl_tupA (pv 0) (po_some pe_int) (po_some (pe_op op_add pe_int (pv 1))))) (blkOk_by (own := [("count", 3)]) (N := ["step", "many", "more", "count"]) (sc := defScope sIsStep) (by decide +kernel)) (fun _ _ _ _ _ => (pg_name (i := 3) scIsStep.nd rfl (Or.inl rfl))) (fun _ _ _ _ _ => (pts_one (pt_not (pt_val (pc0 c_is_in hr (Nat.le_refl _) rfl (pa_cons (pv 3) (pa_cons pe_int (pa_cons (C8.pe_gc rfl B.c_MOST_ARGUMENT) pa_nil)))))))) (fun _ _ _ _ _ => (pv 3))) (pe_lst pa_nil) (nomark _)) (pss_one (ps_ret pe_bl)) pss_nil)
    (pss_cons (ps_if (PW.pt (pw_and (pt_cmpR op_ne (pv 2) pe_str (nomark _)) (pw_and1 (pt_not (pt_val (pc0 c_is_key hr (Nat.le_refl _) rfl (pa_cons (pe_ix ix_tup (pv 0) (pe_op op_add pe_int (pv 1)) (fun _ _ => rfl)) pa_nil))))))) (pss_one (ps_ret pe_bl)) pss_nil)
    (pss_one (ps_ret (pe_or (pe_cmpR op_ne (pv 2) pe_str (nomark _)) (pe_one (pc0 c_is_value hr (Nat.le_refl _) rfl (pa_cons (pe_ix ix_tup (pv 0) (pe_op op_add pe_int (pv 1)) (fun _ _ => rfl)) pa_nil))))))))))))), ?_⟩
    cases st with
    | world n ls =>
      obtain ⟨b, l, rfl, hb, hls⟩ := hst
      obtain ⟨t1, y1, k1⟩ := isi_tup (K := K) hb
      refine ⟨_, rfl, _, _, _, _, _, rfl, .ty _, y1, k1, _, rfl, iteF ?_⟩
      refine ⟨_, rfl, by decide, fun e he => ⟨b, e, _, rfl, rfl, .inr ⟨.inl (.inl (same_upd he _ _ hb)), .inl (.inl upd_same)⟩, _, rfl, iteF ?_⟩⟩
      have s1 := same_upd (o := .tup []) he
      have hb1 := s1 _ _ hb
      obtain ⟨t2, y2, k2⟩ := isi_str (K := K) (H := upd H e (.tup [])) (v := .str (S "world")) rfl
      refine ⟨_, rfl, b, _, 0, _, rfl, rfl, .inl (.inl hb1), rfl, _, _, _, _, _, rfl, .ty _, y2, k2, _, rfl, iteF ?_⟩
      refine ⟨_, rfl, b, _, 0, _, rfl, rfl, .inl (.inl hb1), rfl, rfl, _, rfl, iteT ?_⟩
      refine ⟨_, rfl, b, _, rfl, .inr (.inl (.inl hb1)), rfl, _, rfl, iteT ?_⟩
      refine ⟨_, rfl, b, _, 1, _, rfl, rfl, .inl (.inl hb1), rfl, .int n, 0, 2 ^ 20, rfl, rfl, _, rfl, ?_⟩
      rw [inV_nat]
      have q' := q _ s1
      rw [mIsStep] at q'
      refine ite2 (fun c => ?_) (fun c => ?_)
      · rw [c, Bool.true_and] at q'
        exact ⟨_, rfl, b, _, 2, _, rfl, rfl, .inl (.inl hb1), rfl, l, ls, rfl, hls.keep (Same.tk s1), q'⟩
      · rw [Bool.eq_false_iff.mpr c, Bool.false_and] at q'
        exact q'
    | flat w0 xs =>
    obtain ⟨b, rfl, hb⟩ := hst
    obtain ⟨hw, hfl, hbd, hlen⟩ := hok
    obtain ⟨t1, y1, k1⟩ := isi_tup (K := K) hb
    refine ⟨_, rfl, _, _, _, _, _, rfl, .ty _, y1, k1, _, rfl, iteF ?_⟩
    refine ⟨_, rfl, by decide, fun e he => ⟨b, e, _, rfl, rfl, .inr ⟨.inl (.inl (same_upd he _ _ hb)), .inl (.inl upd_same)⟩, _, rfl, iteF ?_⟩⟩
    have s1 := same_upd (o := .tup []) he
    have hb1 := s1 _ _ hb
    generalize upd H e (.tup []) = H1 at s1 hb1 ⊢
    obtain ⟨t2, y2, k2⟩ := isi_str (K := K) (H := H1) (v := .str (mkS w0)) rfl
    refine ⟨_, rfl, b, _, 0, _, rfl, rfl, .inl (.inl hb1), atI_nat (j := 0) rfl, _, _, _, _, _, rfl, .ty _, y2, k2, _, rfl, iteF ?_⟩
    refine ⟨_, rfl, b, _, 0, _, rfl, rfl, .inl (.inl hb1), atI_nat (j := 0) rfl, rfl, _, rfl, ite2 (fun c => ?_) (fun c => ?_)⟩
    · have e : mkS w0 = S "world" := V.str.inj (of_decide_eq_true c)
      exact absurd (S_iff.mp e) hw
    have q1 := fun H' (hs : Same H1 H') => q H' (s1.trans hs)
    clear q
    rw [mIsStep] at q1
    cases hcmd : cmd w0 with
    | none =>
      rw [hcmd] at q1
      have hk := B.cmdN (mkS w0) hcmd
      exact ⟨_, rfl, b, _, 0, _, rfl, rfl, .inl (.inl hb1), atI_nat (j := 0) rfl, mkS w0, _, rfl, rfl, hk, _, rfl, iteT (q1 _ (Same.refl _))⟩
    | some mm =>
    obtain ⟨many, more⟩ := mm
    rw [hcmd] at q1
    dsimp only at q1
    obtain ⟨hmany, hmore, hm1⟩ := cmd_facts hcmd
    obtain ⟨pp, hk, hpp⟩ := B.cmdS (mkS w0) many more hcmd
    refine ⟨_, rfl, b, _, 0, _, rfl, rfl, .inl (.inl hb1), atI_nat (j := 0) rfl, mkS w0, _, rfl, rfl, hk, _, rfl, iteF ?_⟩
    refine ⟨_, rfl, b, _, 0, _, rfl, rfl, .inl (.inl hb1), atI_nat (j := 0) rfl, a.DC, mkS w0, .ref pp, rfl, rfl, ⟨a.es, a.n, .ref pp, B.cmdD.at_, B.cmdD.lit, hk, rfl⟩, pp, _, rfl, hpp H1, rfl, _, _, rfl, _, _, rfl, rfl, ?_⟩
    refine ⟨_, rfl, b, _, rfl, .inr (.inl (.inl hb1)), _, rfl, _, _, rfl, rfl, ?_⟩
    refine dict_more hmore rfl fun H2 s2 => ⟨_, _, rfl, rfl, rfl, _, rfl, ?_⟩
    have hb2 := s2 _ _ hb1
    have q2 := fun H' (hs : Same H2 H') => q1 H' (s2.trans hs)
    clear q1
    refine ite2 (fun c2 => ?_) (fun c2 => ?_)
    · rw [dec_int] at c2
      have hne : ¬ xs.length = many + more := fun h => by
        rw [List.length_cons] at c2
        have : (((xs.length + 1 : Nat) : Int) == 1 + (many : Int) + (more : Int)) = true := by rw [beq_iff_eq]; omega
        rw [this] at c2
        cases c2
      rw [decide_eq_false hne, Bool.false_and, Bool.false_and, Bool.false_and] at q2
      exact q2 _ (Same.refl _)
    rw [dec_int] at c2
    have hxl : xs.length = many + more := by
      have := not_ne_t c2
      rw [List.length_cons, beq_iff_eq] at this
      omega
    rw [decide_eq_true hxl, Bool.true_and] at q2
    refine ⟨_, rfl, _, rfl, _, rfl, _, _, rfl, rfl, _, rfl, b, _, rfl, .inl (.inl hb2), fun h => absurd h.1 ?_, fun _ p hp => ?_⟩
    · have e1 : HT.sIx ((V.str (mkS w0) :: xs).length) 0 (some (1 : Int)) = min 1 ((V.str (mkS w0) :: xs).length) := HT.sIx_nat _ 0 1
      rw [e1, List.length_cons]
      omega
    rw [cutV_1n]
    rw [show (List.drop 1 (V.str (mkS w0) :: xs)) = xs from rfl]
    have s3 := same_upd (o := .tup (xs.take many)) hp
    refine ⟨p, rfl, ⟨_, .inl (.inl upd_same)⟩, fun D hD => lc_filterT (xs := xs.take many) (fun v => !isInV 0 (2 ^ 20) v) (Nat.lt_succ_self 3) (by rw [List.length_take]; omega) (fun H5 h5 => .inl (.inl (h5 _ _ upd_same))) hD (fun x H5 R hx r => ?_) ?_⟩
    · exact ⟨_, slot1 (Nat.lt_succ_self 3), x, 0, 2 ^ 20, rfl, List.all_eq_true.mp hfl x (List.mem_of_mem_take hx), _, rfl, r⟩
    refine ⟨by decide, fun e2 he2 => ⟨D, e2, _, rfl, rfl, inNil he2 upd_same, _, rfl, ?_⟩⟩
    have s4 := (s3.trans (same_upd (o := .lst ((xs.take many).filter fun v => !isInV 0 (2 ^ 20) v)) hD)).trans (same_upd (o := .lst []) he2)
    generalize upd (upd (upd H2 p (.tup (xs.take many))) D (.lst ((xs.take many).filter fun v => !isInV 0 (2 ^ 20) v))) e2 (.lst []) = H5 at s4 ⊢
    have hb5 := s4 _ _ hb2
    have q6 := fun H' (hs : Same H5 H') => q2 H' (s4.trans hs)
    clear q2
    have efil : ((xs.take many).filter fun v => !isInV 0 (2 ^ 20) v).isEmpty = (xs.take many).all (isInV 0 (2 ^ 20)) := by
      rw [filter_nilV]
      exact List.all_congr rfl fun c => Bool.not_not _
    refine ite2 (fun c3 => ?_) (fun c3 => ?_)
    · have c3' : (!((xs.take many).filter fun v => !isInV 0 (2 ^ 20) v).isEmpty) = true := c3
      rw [efil] at c3'
      rw [not_eq_t c3', Bool.false_and, Bool.false_and] at q6
      exact q6 _ (Same.refl _)
    have c3' : ¬ (!((xs.take many).filter fun v => !isInV 0 (2 ^ 20) v).isEmpty) = true := c3
    rw [efil] at c3'
    rw [not_ne_t c3', Bool.true_and] at q6
    rcases hmore with rfl | rfl | rfl
    · refine ⟨_, rfl, rfl, _, rfl, ite2 (fun g => absurd (kn0.symm.trans (not_eq_t g)) (by decide)) (fun _ => iteF ?_)⟩
      refine ⟨_, rfl, rfl, _, rfl, ite2 (fun _ => q6 _ (Same.refl _)) (fun g => absurd (kv0.symm.trans (not_ne_t g)) (by decide))⟩
    · have hone : many = 1 := hm1 (by decide)
      subst hone
      obtain ⟨x1, x2, rfl⟩ := len_two hxl
      refine ⟨_, rfl, rfl, _, rfl, ite2 (fun _ => ?_) (fun g => absurd (kn1.symm.trans (not_ne_t g)) (by decide))⟩
      have f2 : flatV x2 = true := List.all_eq_true.mp hfl x2 (by simp)
      refine ⟨_, rfl, _, rfl, _, _, rfl, rfl, b, _, _, x2, rfl, rfl, .inl (.inl hb5), rfl, x2, rfl, f2, hbd x2 (by simp), fun H6 s6 => ⟨_, rfl, ?_⟩⟩
      replace q5 : Q (.bl (isKeyV x2 && true)) H6 := q6 H6 s6
      refine ite2 (fun c4 => ?_) (fun c4 => ?_)
      · rw [not_eq_t c4] at q5
        exact q5
      · rw [not_ne_t c4] at q5
        exact ⟨_, rfl, rfl, _, rfl, ite2 (fun _ => q5) (fun g => absurd (kv1.symm.trans (not_ne_t g)) (by decide))⟩
    · have hone : many = 1 := hm1 (by decide)
      subst hone
      obtain ⟨x1, x2, x3, rfl⟩ := len_three hxl
      refine ⟨_, rfl, rfl, _, rfl, ite2 (fun _ => ?_) (fun g => absurd (kn2.symm.trans (not_ne_t g)) (by decide))⟩
      have f2 : flatV x2 = true := List.all_eq_true.mp hfl x2 (by simp)
      have f3 : flatV x3 = true := List.all_eq_true.mp hfl x3 (by simp)
      refine ⟨_, rfl, _, rfl, _, _, rfl, rfl, b, _, _, x2, rfl, rfl, .inl (.inl hb5), rfl, x2, rfl, f2, hbd x2 (by simp), fun H6 s6 => ⟨_, rfl, ?_⟩⟩
      replace q6 : ∀ H7, Same H6 H7 → Q (.bl (isKeyV x2 && isValueV x3)) H7 := fun H7 s7 => q6 H7 (s6.trans s7)
      have hb6 := s6 _ _ hb5
      refine ite2 (fun c4 => ?_) (fun c4 => ?_)
      · rw [not_eq_t c4] at q6
        exact q6 _ (Same.refl _)
      · rw [not_ne_t c4] at q6
        refine ⟨_, rfl, rfl, _, rfl, ite2 (fun g => absurd (kv2.symm.trans (not_eq_t g)) (by decide)) (fun _ => ?_)⟩
        exact ⟨_, rfl, _, rfl, _, _, rfl, rfl, b, _, _, x3, rfl, rfl, .inl (.inl hb6), rfl, x3, rfl, f3, hbd x3 (by simp), fun H7 s7 => q6 H7 s7⟩)
end
end Ms


set_option Elab.async false
set_option linter.all false
set_option maxRecDepth 100000
set_option maxHeartbeats 4000000
/-! # The walk, 7: line_of -/
namespace Ms
open PySem PySem.Spec PyProof.Rows L2
theorem szl {n : Nat} (h : Nat.ble n 4000000 = true) : n < sizeLine := Nat.lt_of_le_of_lt (Nat.le_of_ble_eq_true h) (by decide)
theorem join_mk {s : String} {c : Nat} (hs : cd s = [c]) {ws : List Cs} : Txt.join (S s) (ws.map mkS) = mkS (TL.joinL [c] ws) := by
  refine TL.ext_tl ?_
  rw [TL.join_eq, TL.tl_join, tl_S, hs, tl_mkS, List.map_map]
  refine congrArg (TL.joinL [c]) ?_
  exact List.map_id'' (fun w => tl_mkS w) ws
theorem sum_mk {ws : List Cs} {m n : Nat} (h : ∀ w ∈ ws, w.length ≤ m) (hn : ws.length ≤ n) (hmn : n * (m + 1) ≤ 16777216) {s : String} {c : Nat} (hs : cd s = [c]) :
    ((ws.map mkS).map (·.length)).sum + (ws.map mkS).length * (S s).length ≤ 16777216 := by
  have e1 : (ws.map mkS).map (·.length) = ws.map List.length := by
    rw [List.map_map]
    exact List.map_congr_left fun w _ => len_mkS w
  have e2 : (S s).length = 1 := by rw [TL.len_tl, tl_S, hs]; rfl
  have h1 := sum_le h
  have h2 : ws.length * m ≤ n * m := Nat.mul_le_mul_right _ hn
  rw [e1, e2, List.length_map, Nat.mul_one]
  rw [Nat.mul_add] at hmn
  omega
theorem line_join {st : Stp} (h : mIsStep st = true) (hn : nLinks st ≤ 1000) : (((lineWs st).map mkS).map (·.length)).sum + ((lineWs st).map mkS).length * (S " ").length ≤ 16777216 ∧ Txt.join (S " ") ((lineWs st).map mkS) = mkS (mLine st) := by
  obtain ⟨h1, h2⟩ := lineWs_facts h
  refine ⟨sum_mk (m := 210) (n := 1002) (fun w hw => (h1 w hw).2) ?_ (by decide) (s := " ") (c := 32) (by decide), join_mk (s := " ") (c := 32) (by decide)⟩
  cases st with
  | world n ls =>
    have : (lineWs (.world n ls)).length = ls.length + 2 := h2
    have hn' : ls.length ≤ 1000 := hn
    omega
  | flat w xs =>
    have : (lineWs (.flat w xs)).length ≤ 6 := h2
    omega
theorem str_num (n : Nat) : Str.ofString (toString ((n : Nat) : Int)) = mkS (TL.numL n) := TL.ext_tl (by rw [TL.tl_num, tl_mkS])
theorem num_le {n : Nat} (h : n < 10 ^ 20) : (mkS (TL.numL n)).length ≤ 20 := by
  rw [len_mkS]
  exact TL.numL_len (by decide) h
theorem mk_app (x y : Cs) : mkS x ++ mkS y = mkS (x ++ y) := TL.ext_tl (by rw [TL.tl_append, tl_mkS, tl_mkS, tl_mkS])
theorem S_mk (s : String) : S s = mkS (cd s) := (mkS_cd s).symm
theorem lineWs_flat {w : Cs} {xs : List V} {many more : Nat} {ns : List Nat} (hc : cmd w = some (many, more)) (hx : xs.take many = ns.map fun (n : Nat) => V.int (n : Int)) :
    lineWs (.flat w xs) = w :: (ns.map TL.numL ++ (if more = 0 then [] else [keyW (xs.getD many .non)]) ++ (if more = 2 then [valW (xs.getD (many + 1) .non)] else [])) := by
  rw [lineWs, hc]
  dsimp only
  rw [hx, List.map_map]
  rw [show (ns.map (numV ∘ fun (n : Nat) => V.int (n : Int))) = ns.map TL.numL from List.map_congr_left fun n _ => numV_nat n]
section
variable {P : Program} {w : World} {K : PySem.W.Frag} {mg : Str → Option Value} {base : Heap} {a : Ad} {k : Nat}
abbrev sLineOf : Stmt := topS 34
theorem scLineOf : FnScope ["step", "words", "many", "more", "count", "one", "two"] ["step"] (defScope sLineOf) := ⟨rfl, rfl, rfl, by decide +kernel, rfl, by decide +kernel, by decide +kernel⟩
def spLineOf : Sp := fun vs H Q _ => ∃ v st, vs = [v] ∧ StepAt H v st ∧ mIsStep st = true ∧ nLinks st ≤ 1000 ∧ (match st with | .flat w _ => w ≠ cd "world" | _ => True) ∧ ∀ H', Same H H' → Q (.str (mkS (mLine st))) H'
theorem ok_line_of (F : DefX K mg "line_of" sLineOf ["step"]) (B : Bu P w K mg a) (c_word_of_value : Cl P w K mg base CX0 k "word_of_value" spWordOfValue) : Cl P w K mg base CX0 (k + 1) "line_of" spLineOf :=
  cl0 F scLineOf (fun vs H Q E h => by obtain ⟨_, _, e, _⟩ := h; rw [e]; rfl) (fun f cdv A outer s H vs Q E hr h => by
    obtain ⟨v, st, rfl, hst, hv, hn, hw, q⟩ := h
    refine ⟨_, (pss_cons (ps_if (pt_cmpR op_eq (pe_ix ix_tup (pv 0) pe_int (fun _ _ => rfl)) pe_str (nomark _)) (pss_one (ps_ret (pe_join pe_str (pe_op op_cat (pe_lst (pa_cons pe_str (pa_cons (pe_callTy call_str_int (by rfl) B.b_str bt_str (pa_cons (pe_ix ix_tup (pv 0) pe_int (fun _ _ => rfl)) pa_nil)) pa_nil))) (pe_lc (own := [("one", 5), ("two", 6)]) (g := gTup K 2 (gCons (gName 5) (gCons (gName 6) gNil))) (tt := tYes) rfl scLineOf.nd (pi_tup (pe_ix ix_tup (pv 0) pe_int (fun _ _ => rfl))) (blkOk_by (own := [("one", 5), ("two", 6)]) (N := ["step", "words", "many", "more", "count", "one", "two"]) (sc := defScope sLineOf) (by decide +kernel)) (fun _ _ _ _ _ => (pg_tup rfl (pgs_cons (pg_name (i := 5) scLineOf.nd rfl (Or.inl rfl)) (pgs_cons (pg_name (i := 6) scLineOf.nd rfl (Or.inl rfl)) pgs_nil)))) (fun _ _ _ _ _ => pts_nil) (fun _ _ _ _ _ => (pe_op op_add_str (pe_op op_add_str (pe_callTy call_str_int (by rfl) B.b_str bt_str (pa_cons (pv 5) pa_nil)) pe_str) (pe_callTy call_str_int (by rfl) B.b_str bt_str (pa_cons (pv 6) pa_nil))))))))) pss_nil)
    (pss_cons (ps_asg (pe_ix ix_kdict (C8.pe_gc rfl B.c_COMMANDS) (pe_ix ix_tup (pv 0) pe_int (fun _ _ => rfl)) (fun _ _ => rfl)) (pg_tup rfl (pgs_cons (pg_name (i := 2) scLineOf.nd rfl (Or.inl rfl)) (pgs_cons (pg_name (i := 3) scLineOf.nd rfl (Or.inl rfl)) pgs_nil))))
    (pss_cons (ps_set (i := 1) scLineOf.nd rfl (Or.inl rfl) (pe_op op_cat (pe_lst (pa_cons (pe_ix ix_tup (pv 0) pe_int (fun _ _ => rfl)) pa_nil)) (pe_lc (own := [("count", 4)]) (g := (gName 4)) (tt := tYes) rfl scLineOf.nd (pi_tup (pe_slice sl_tupA (pv 0) (po_some pe_int) (po_some (pe_op op_add pe_int (pv 2))))) (blkOk_by (own := [("count", 4)]) (N := ["step", "words", "many", "more", "count", "one", "two"]) (sc := defScope sLineOf) (by decide +kernel)) (fun _ _ _ _ _ => (pg_name (i := 4) scLineOf.nd rfl (Or.inl rfl))) (fun _ _ _ _ _ => pts_nil) (fun _ _ _ _ _ => (pe_callTy call_str_int (by rfl) B.b_str bt_str (pa_cons (pv 4) pa_nil))))))
    (pss_cons (ps_if (pt_cmpR op_ne (pv 3) pe_str (nomark _)) (pss_one (ps_expr (pe_bm PySem.F.plainAttrs_list PySem.F.slot_list_append PySem.F.type_list_append mt_append (pv 1) (pa_cons (pe_op op_add_str (pe_op op_add_str (C8.pe_gc rfl B.c_QUOTE) (pe_ix ix_tup (pv 0) (pe_op op_add pe_int (pv 2)) (fun _ _ => rfl))) (C8.pe_gc rfl B.c_QUOTE)) pa_nil)))) pss_nil)
    (pss_cons (ps_if (pt_cmpR op_eq (pv 3) pe_str (nomark _)) (pss_one (ps_expr (pe_bm PySem.F.plainAttrs_list PySem.F.slot_list_append PySem.F.type_list_append mt_append (pv 1) (pa_cons (pc0 c_word_of_value hr (Nat.le_refl _) rfl (pa_cons (pe_ix ix_tup (pv 0) (pe_op op_add pe_int (pv 2)) (fun _ _ => rfl)) pa_nil)) pa_nil)))) pss_nil)
    (pss_one (ps_ret (pe_join pe_str (pv 1))))))))), ?_⟩
    obtain ⟨hj1, hj2⟩ := line_join hv hn
    cases st with
    | world n ls =>
      obtain ⟨b, l, rfl, hb, bs, hl, hp⟩ := hst
      have hv' := hv
      rw [mIsStep, Bool.and_eq_true] at hv'
      have hnn : n < 10 ^ 20 := by have := of_decide_eq_true hv'.1; omega
      have hls : ls.length ≤ 1000 := hn
      have hlen := Paired.len hp
      refine ⟨_, rfl, b, _, 0, _, rfl, rfl, .inl (.inl hb), rfl, rfl, _, rfl, iteT ?_⟩
      refine ⟨⟨_, rfl⟩, _, rfl, b, _, 1, _, rfl, rfl, .inl (.inl hb), rfl, _, rfl, log_ok hnn, sz rfl, fun p hp1 => ?_⟩
      have s1 := same_upd (o := .lst [V.str (S "world"), V.str (Str.ofString (toString ((n : Nat) : Int)))]) hp1
      refine ⟨_, rfl, b, _, 2, _, rfl, rfl, .inl (.inl (s1 _ _ hb)), rfl, l, rfl, ⟨_, .inl (.inl (s1 _ _ hl))⟩, fun D hD => ?_⟩
      refine lc_mapS (walk_tup (xs := bs.map V.ref)) (fun j x => (bs.map V.ref)[j]? = some x) (fun j y H' => ∃ p, ls[j]? = some p ∧ y = strV (linkW p)) (by rw [List.length_map]; omega) hD (fun i H x H' h => h) (fun H1 hs => .inl (.inl (hs _ _ (s1 _ _ hl))))
        (fun j y H1 H2 h tk => h) ?_ ?_
      · intro j x H2 R hj hx hs r
        obtain ⟨c, hc, rfl⟩ : ∃ c, bs[j]? = some c ∧ x = .ref c := by
          rw [List.getElem?_map] at hx
          cases e : bs[j]? with
          | none => rw [e] at hx; cases hx
          | some b => rw [e] at hx; exact ⟨b, rfl, by injection hx with h; exact h.symm⟩
        obtain ⟨pr, hpi, hpa⟩ := Paired.at_ hp hc
        have hok := List.all_eq_true.mp hv'.2 pr (List.mem_of_getElem? hpi)
        rw [Bool.and_eq_true] at hok
        have h1 : pr.1 < 10 ^ 20 := by have := of_decide_eq_true hok.1; omega
        have h2 : pr.2 < 10 ^ 20 := by have := of_decide_eq_true hok.2; omega
        have hpa2 : PairAt H2 c pr := hpa.keep (Same.tk (s1.trans hs))
        have l1 := num_le h1
        have l2 := num_le h2
        refine ⟨c, _, rfl, .inl (.inl hpa2), rfl, _, _, rfl, _, _, rfl, rfl, rfl, ?_⟩
        refine ⟨_, rfl, _, rfl, log_ok h1, _, _, rfl, rfl, sz (Nat.ble_eq_true_of_le ?_), _, rfl, _, rfl, log_ok h2, _, _, rfl, rfl, sz (Nat.ble_eq_true_of_le ?_), r _ H2 (Same.refl _) ⟨pr, hpi, ?_⟩⟩
        · rw [str_num]
          show _ + 1 ≤ _
          omega
        · rw [str_num, str_num, Str.length_append]
          show _ + 1 + _ ≤ _
          omega
        · rw [str_num, str_num]
          refine congrArg V.str (TL.ext_tl ?_)
          rw [TL.tl_append, TL.tl_append, tl_mkS, tl_mkS, tl_mkS, linkW, List.append_assoc]
          rfl
      · intro ys H2 s2 hD2 hlen2 hF
        rw [List.length_map, hlen] at hlen2
        have hys : ys = ls.map fun p => strV (linkW p) := map_of hlen2 hF
        subst hys
        refine ⟨p, D, _, _, rfl, rfl, s2 _ _ upd_same, hD2, ?_, fun t ht => ?_⟩
        · refine Nat.le_trans ?_ (sz (n := 2000) rfl)
          rw [List.length_map]
          show 2 + _ ≤ _
          omega
        have el : [V.str (S "world"), V.str (Str.ofString (toString ((n : Nat) : Int)))] ++ (ls.map fun p => strV (linkW p)) = ((lineWs (.world n ls)).map mkS).map V.str := by
          rw [str_num, S_mk, lineWs, List.map_cons, List.map_cons, List.map_cons, List.map_cons, List.map_map, List.map_map]
          rfl
        rw [el]
        refine ⟨_, t, _, rfl, rfl, .inl (.inl (.inl upd_same)), hj1, ?_⟩
        rw [hj2]
        exact q _ ((s1.trans s2).trans (same_upd ht))
    | flat w0 xs =>
    obtain ⟨b, rfl, hb⟩ := hst
    obtain ⟨many, more, hcmd, hmem, ns, hns, hnb, hx⟩ := flat_parts hv
    obtain ⟨hmany, hmore, hm1⟩ := cmd_facts hcmd
    have hxt : xs.take many = ns.map fun (n : Nat) => V.int (n : Int) := by
      have hl : (ns.map fun (n : Nat) => V.int (n : Int)).length = many := by rw [List.length_map, hns]
      rcases hx with ⟨_, rfl⟩ | ⟨z, _, _, ⟨_, rfl⟩ | ⟨v, _, _, rfl⟩⟩
      · exact List.take_of_length_le (by omega)
      · rw [List.take_append_of_le_length (by omega), List.take_of_length_le (by omega)]
      · rw [List.take_append_of_le_length (by omega), List.take_of_length_le (by omega)]
    have hlw := lineWs_flat hcmd hxt
    rw [hlw] at hj1 hj2
    refine ⟨_, rfl, b, _, 0, _, rfl, rfl, .inl (.inl hb), atI_nat (j := 0) rfl, rfl, _, rfl, ite2 (fun c => ?_) (fun c => ?_)⟩
    · have e : mkS w0 = S "world" := V.str.inj (of_decide_eq_true c)
      exact absurd (S_iff.mp e) hw
    obtain ⟨pp, hk, hpp⟩ := B.cmdS (mkS w0) many more hcmd
    refine ⟨_, rfl, b, _, 0, _, rfl, rfl, .inl (.inl hb), atI_nat (j := 0) rfl, a.DC, mkS w0, .ref pp, rfl, rfl, ⟨a.es, a.n, .ref pp, B.cmdD.at_, B.cmdD.lit, hk, rfl⟩, pp, _, rfl, hpp H, rfl, _, _, rfl, _, _, rfl, rfl, ?_⟩
    refine ⟨_, rfl, b, _, 0, _, rfl, rfl, .inl (.inl hb), atI_nat (j := 0) rfl, sz rfl, fun p hp => ?_⟩
    have s1 := same_upd (o := .lst [V.str (mkS w0)]) hp
    refine ⟨_, rfl, _, rfl, _, rfl, _, _, rfl, rfl, _, rfl, b, _, rfl, .inl (.inl (s1 _ _ hb)), fun h => absurd h.1 ?_, fun _ p2 hp2 => ?_⟩
    · have e1 : HT.sIx ((V.str (mkS w0) :: xs).length) 0 (some (1 : Int)) = min 1 ((V.str (mkS w0) :: xs).length) := HT.sIx_nat _ 0 1
      rw [e1, List.length_cons]
      omega
    rw [cutV_1n]
    rw [show (List.drop 1 (V.str (mkS w0) :: xs)) = xs from rfl, hxt]
    have s2 := s1.trans (same_upd (o := .tup (ns.map fun (n : Nat) => V.int (n : Int))) hp2)
    refine ⟨p2, rfl, ⟨_, .inl (.inl upd_same)⟩, fun D hD => ?_⟩
    refine lc_mapS (walk_tup (xs := ns.map fun (n : Nat) => V.int (n : Int))) (fun j x => (ns.map fun (n : Nat) => V.int (n : Int))[j]? = some x) (fun j y H' => ∃ n, ns[j]? = some n ∧ y = strV (TL.numL n)) (by rw [List.length_map]; omega) hD (fun i H x H' h => h) (fun H1 hs => .inl (.inl (hs _ _ upd_same)))
        (fun j y H1 H2 h tk => h) ?_ ?_
    · intro j x H2 R hj hx hs r
      rw [List.getElem?_map] at hx
      cases e : ns[j]? with
      | none => rw [e] at hx; cases hx
      | some n =>
        rw [e] at hx
        cases hx
        have hb := hnb n (List.mem_of_getElem? e)
        refine ⟨wipe1, _, slot1 (by show 4 < 7; decide), _, rfl, log_ok (by omega), r _ _ (Same.refl _) ⟨n, e, by rw [str_num]⟩⟩
    intro ys H3 s3 hD3 hlen hF
    rw [List.length_map] at hlen
    have hys : ys = ns.map fun n => strV (TL.numL n) := map_of hlen hF
    subst hys
    refine ⟨p, D, _, _, rfl, rfl, s3 _ _ (same_upd hp2 _ _ upd_same), hD3, ?_, fun t ht => ?_⟩
    · refine Nat.le_trans ?_ (sz (n := 2000) rfl)
      rw [List.length_map]
      show 1 + _ ≤ _
      omega
    have s4 := (s2.trans s3).trans (same_upd (o := .lst ([V.str (mkS w0)] ++ ns.map fun n => strV (TL.numL n))) ht)
    have ht4 := upd_same (H := H3) (a := t) (o := .lst ([V.str (mkS w0)] ++ ns.map fun n => strV (TL.numL n)))
    have hb4 := s4 _ _ hb
    have st4 : ∀ H1 o, Same (upd H3 t (.lst ([V.str (mkS w0)] ++ ns.map fun n => strV (TL.numL n)))) H1 → Same H (upd H1 t o) := fun H1 o h => fun b x e => by
      rw [upd_ne (fun g => ?_)]
      · exact h _ _ (s4 _ _ e)
      · rw [g] at e
        have := s3 _ _ (same_upd hp2 _ _ (s1 _ _ e))
        rw [ht] at this
        cases this
    generalize upd H3 t (.lst ([V.str (mkS w0)] ++ ns.map fun n => strV (TL.numL n))) = H4 at s4 ht4 hb4 st4 ⊢
    rcases hx with ⟨rfl, rfl⟩ | ⟨z, hz1, hz2, hx⟩
    · refine ⟨_, rfl, rfl, _, rfl, ite2 (fun g => absurd (kn0.symm.trans (not_eq_t g)) (by decide)) (fun _ => ?_)⟩
      refine ⟨_, rfl, rfl, _, rfl, ite2 (fun g => absurd (kv0.symm.trans g) (by decide)) (fun _ => ?_)⟩
      refine ⟨⟨_, rfl⟩, _, rfl, _, t, _, rfl, rfl, .inl (.inl (.inl ?_)), hj1, ?_⟩
      · rw [ht4]
        refine congrArg (fun x => some (HO.lst x)) ?_
        rw [if_pos rfl, if_neg (by decide), List.append_nil, List.append_nil, List.map_cons, List.map_cons, List.map_map, List.map_map]
        rfl
      · rw [hj2]
        exact q _ s4
    · have hz : z.length ≤ 40 := by
        rw [isText, Bool.and_eq_true] at hz1
        have := of_decide_eq_true hz1.1
        rw [TL.len_tl]
        exact this
      have hone : many = 1 := hm1 (by rcases hx with ⟨rfl, _⟩ | ⟨_, _, rfl, _⟩ <;> decide)
      subst hone
      obtain ⟨n, rfl⟩ := List.length_eq_one_iff.mp hns
      have eq1 : S "'" ++ z ++ S "'" = mkS (quo (TL.tl z)) := TL.ext_tl (by rw [TL.tl_append, TL.tl_append, tl_mkS, tl_S]; rfl)
      rcases hx with ⟨rfl, rfl⟩ | ⟨vv, hvv, rfl, rfl⟩
      · refine ⟨_, rfl, rfl, _, rfl, ite2 (fun _ => ?_) (fun g => absurd (kn1.symm.trans (not_ne_t g)) (by decide))⟩
        refine ⟨_, rfl, .inl ⟨rfl, _, .inl (.inl ht4)⟩, _, rfl, _, rfl, _, _, rfl, rfl, b, _, _, .str z, rfl, rfl, .inl (.inl hb4), rfl, _, _, rfl, rfl, sz (Nat.ble_eq_true_of_le ?_), _, _, rfl, rfl, sz (Nat.ble_eq_true_of_le ?_), t, _, _, rfl, rfl, ht4, szl rfl, ?_⟩
        · show 1 + z.length ≤ _
          omega
        · rw [Str.length_append]
          show 1 + z.length + 1 ≤ _
          omega
        refine ⟨_, rfl, rfl, _, rfl, ite2 (fun g => absurd (kv1.symm.trans g) (by decide)) (fun _ => ?_)⟩
        refine ⟨⟨_, rfl⟩, _, rfl, _, t, _, rfl, rfl, .inl (.inl (.inl ?_)), hj1, ?_⟩
        · rw [upd_same]
          refine congrArg (fun x => some (HO.lst x)) ?_
          rw [if_neg (by decide), if_neg (by decide)]
          show [V.str (mkS w0), strV (TL.numL n), V.str (S "'" ++ z ++ S "'")] = _
          rw [eq1]
          rfl
        · rw [hj2]
          exact q _ (st4 _ _ (Same.refl _))
      · refine ⟨_, rfl, rfl, _, rfl, ite2 (fun _ => ?_) (fun g => absurd (kn2.symm.trans (not_ne_t g)) (by decide))⟩
        refine ⟨_, rfl, .inl ⟨rfl, _, .inl (.inl ht4)⟩, _, rfl, _, rfl, _, _, rfl, rfl, b, _, _, .str z, rfl, rfl, .inl (.inl hb4), rfl, _, _, rfl, rfl, sz (Nat.ble_eq_true_of_le ?_), _, _, rfl, rfl, sz (Nat.ble_eq_true_of_le ?_), t, _, _, rfl, rfl, ht4, szl rfl, ?_⟩
        · show 1 + z.length ≤ _
          omega
        · rw [Str.length_append]
          show 1 + z.length + 1 ≤ _
          omega
        refine ⟨_, rfl, rfl, _, rfl, ite2 (fun _ => ?_) (fun g => absurd kv2 g)⟩
        have htb : t ≠ b := fun g => by
          rw [g, hb4] at ht4
          cases ht4
        refine ⟨_, rfl, .inl ⟨rfl, _, .inl (.inl upd_same)⟩, _, rfl, _, rfl, _, _, rfl, rfl, b, _, _, vv, rfl, rfl, .inl (.inl (by rw [upd_ne (Ne.symm htb)]; exact hb4)), rfl, vv, rfl, hvv, t, _, _, rfl, rfl, upd_same, szl rfl, ?_⟩
        rw [upd_upd]
        refine ⟨⟨_, rfl⟩, _, rfl, _, t, _, rfl, rfl, .inl (.inl (.inl ?_)), hj1, ?_⟩
        · rw [upd_same]
          refine congrArg (fun x => some (HO.lst x)) ?_
          rw [if_neg (by decide), if_pos rfl]
          show [V.str (mkS w0), strV (TL.numL n), V.str (S "'" ++ z ++ S "'"), strV (valW vv)] = _
          rw [eq1]
          rfl
        · rw [hj2]
          exact q _ (st4 _ _ (Same.refl _)))
end
end Ms


set_option Elab.async false
set_option linter.all false
set_option maxRecDepth 100000
set_option maxHeartbeats 4000000
/-! # The walk, 8: need_steps, write_script, read_script -/
namespace Ms
open PySem PySem.Spec PyProof.Rows L2
theorem world_or {w0 : Cs} (h : w0 ≠ cd "world") : decide (V.str (mkS w0) = V.str (S "world")) = false :=
  decide_eq_false fun e => h (S_iff.mp (V.str.inj e))
theorem StepAt.first {H : Hp} {v : V} {st : Stp} (h : StepAt H v st) (ok : okS st) : ∃ (b : Addr) (x0 : Str) (xs : List V), v = .ref b ∧ H b = some (.tup (.str x0 :: xs)) ∧ decide (V.str x0 = V.str (S "world")) = isWorld st := by
  cases st with
  | flat w xs =>
    obtain ⟨b, e, h⟩ := h
    exact ⟨b, _, _, e, h, world_or ok.1⟩
  | world n ls =>
    obtain ⟨b, l, e, h, g⟩ := h
    exact ⟨b, _, _, e, h, decide_eq_true rfl⟩
theorem text_bd {m : Nat} {l : Cs} (h : isText m l = true) (hm : m ≤ 1000) : Bd (.str (mkS l)) := by
  rw [isText, Bool.and_eq_true] at h
  have := of_decide_eq_true h.1
  exact bd_mkS (by omega)
theorem mText_ok {l t : Cs} (h : mText l = some t) : isText 200 t = true := by
  unfold mText at h
  split at h
  · cases h
  · split at h
    · cases h
      assumption
    · cases h
theorem bd_int (i : Int) : Bd (.int i) := fun _ e => by cases e
theorem bd_non : Bd .non := fun _ e => by cases e
theorem mValue_okV {l : Cs} {v : V} (h : mValue l = some v) : flatV v = true ∧ Bd v := by
  unfold mValue at h
  split at h
  · cases h
    exact ⟨rfl, bd_non⟩
  · split at h
    · split at h
      · split at h
        · cases h
        · split at h
          · cases h
            exact ⟨rfl, bd_int _⟩
          · cases h
      · split at h
        · cases h
        · split at h
          · cases h
            exact ⟨rfl, bd_int _⟩
          · cases h
    · cases e : mText l with
      | none => rw [e] at h; cases h
      | some t =>
        rw [e] at h
        cases h
        exact ⟨rfl, text_bd (mText_ok e) (by decide)⟩
theorem allSome_len {α β : Type} {f : α → Option β} {l : List α} {ys : List β} (h : allSome f l = some ys) : ys.length = l.length := by
  have := congrArg List.length (allSome_map' h)
  rw [List.length_map, List.length_map] at this
  exact this.symm
theorem cnts_flat (cs : List Nat) : (cs.map fun (n : Nat) => V.int (n : Int)).all flatV = true ∧ ∀ x ∈ (cs.map fun (n : Nat) => V.int (n : Int)), Bd x := by
  refine ⟨List.all_eq_true.mpr fun x hx => ?_, fun x hx => ?_⟩
  · obtain ⟨n, _, rfl⟩ := List.mem_map.mp hx
    rfl
  · obtain ⟨n, _, rfl⟩ := List.mem_map.mp hx
    exact bd_int _
theorem okS_flat {w : Cs} {cs : List Nat} {more : List V} (hw : w ≠ cd "world") (hc : cs.length ≤ 50) (hm : more.length ≤ 10) (h : ∀ x ∈ more, flatV x = true ∧ Bd x) : okS (.flat w ((cs.map fun (n : Nat) => V.int (n : Int)) ++ more)) := by
  obtain ⟨h1, h2⟩ := cnts_flat cs
  refine ⟨hw, ?_, fun x hx => ?_, ?_⟩
  · rw [List.all_append, h1, Bool.true_and]
    exact List.all_eq_true.mpr fun x hx => (h x hx).1
  · rcases List.mem_append.mp hx with hx | hx
    · exact h2 x hx
    · exact (h x hx).2
  · rw [List.length_append, List.length_map]
    omega
theorem mStep_okS {l : Cs} {st : Stp} (h : mStep l = some st) (hl : l.length ≤ 4000000) : okS st := by
  unfold mStep at h
  cases e : mWords l with
  | none => rw [e] at h; cases h
  | some ws =>
    rw [e] at h
    obtain ⟨_, hn, _⟩ := mWords_len e
    cases ws with
    | nil => cases h
    | cons w0 wr =>
      rw [List.length_cons] at hn
      dsimp only at h
      split at h
      · unfold mWorld at h
        cases wr with
        | nil => cases h
        | cons w1 wr =>
          dsimp only at h
          cases e1 : mCount w1 with
          | none => rw [e1] at h; cases h
          | some n =>
            cases e2 : allSome mLink wr with
            | none => rw [e1, e2] at h; cases h
            | some ls =>
              rw [e1, e2] at h
              cases h
              have := allSome_len e2
              show ls.length ≤ 4000000
              rw [List.length_cons] at hn
              omega
      · cases ec : cmd w0 with
        | none => rw [ec] at h; cases h
        | some mm =>
          obtain ⟨many, more⟩ := mm
          rw [ec] at h
          dsimp only at h
          have hw : w0 ≠ cd "world" := (cmds_ok _ (cmd_mem ec)).2.2.1
          obtain ⟨h3, hmore, _⟩ := cmd_facts ec
          cases ea : allSome mCount (wr.take many) with
          | none => rw [ea] at h; cases h
          | some cs =>
            rw [ea] at h
            dsimp only at h
            have hcl : cs.length ≤ 50 := by
              have := allSome_len ea
              rw [List.length_take] at this
              omega
            split at h
            · cases h
            rcases hmore with rfl | rfl | rfl
            · cases h
              have := okS_flat (more := []) hw hcl (by simp) (fun x hx => by cases hx)
              rw [List.append_nil] at this
              exact this
            · cases ed : wr.drop many with
              | nil => rw [ed] at h; cases h
              | cons kk r =>
                rw [ed] at h
                replace h : (mText kk).map (fun t => Stp.flat w0 (cs.map (fun (n : Nat) => V.int (n : Int)) ++ [V.str (mkS t)])) = some st := h
                cases ek : mText kk with
                | none => rw [ek] at h; cases h
                | some t =>
                  rw [ek] at h
                  cases h
                  refine okS_flat hw hcl (by simp) (fun x hx => ?_)
                  rcases List.mem_cons.mp hx with rfl | hx
                  · exact ⟨rfl, text_bd (mText_ok ek) (by decide)⟩
                  · cases hx
            · cases ed : wr.drop many with
              | nil => rw [ed] at h; cases h
              | cons kk r =>
                cases r with
                | nil => rw [ed] at h; cases h
                | cons vv r =>
                  rw [ed] at h
                  replace h : (match mText kk, mValue vv with
                    | some t, some y => some (Stp.flat w0 (cs.map (fun (n : Nat) => V.int (n : Int)) ++ [.str (mkS t), y]))
                    | _, _ => none) = some st := h
                  cases e1 : mText kk with
                  | none => rw [e1] at h; cases h
                  | some t =>
                    cases e2 : mValue vv with
                    | none => rw [e1, e2] at h; cases h
                    | some y =>
                      rw [e1, e2] at h
                      cases h
                      refine okS_flat hw hcl (by simp) (fun x hx => ?_)
                      rcases List.mem_cons.mp hx with rfl | hx
                      · exact ⟨rfl, text_bd (mText_ok e1) (by decide)⟩
                      · rcases List.mem_cons.mp hx with rfl | hx
                        · exact mValue_okV e2
                        · cases hx
def mWrite (sts : List Stp) : Option V := if sts.length < 1 ∨ 200 < sts.length then some .non else (mNeed 0 sts).map fun i => .int (i : Nat)
/-- an error with its index -/
abbrev ErrAt (H : Hp) (C : Addr) (v : V) (E : XK) : Prop := ∀ d H', Same H H' → H' d = some (.xd [("index", v)]) → E (.ref C) (some d) H'
section
variable {P : Program} {w : World} {K : PySem.W.Frag} {mg : Str → Option Value} {base : Heap} {a : Ad} {k : Nat}
abbrev sNeedSteps : Stmt := topS 35
theorem scNeedSteps : FnScope ["steps", "index", "step"] ["steps"] (defScope sNeedSteps) := ⟨rfl, rfl, rfl, by decide +kernel, rfl, by decide +kernel, by decide +kernel⟩
def spNeedSteps (a : Ad) : Sp := fun vs H Q E => ∃ b, vs = [.ref b] ∧ ((∃ xs, H b = some (.lst xs) ∧ ErrAt H a.CS .non E) ∨
  ∃ ws sts, H b = some (.tup ws) ∧ StepsAt H ws sts ∧ (∀ st ∈ sts, okS st) ∧ sts.length ≤ 1000 ∧ (mWrite sts = none → ∀ H', Same H H' → Q .non H') ∧ ∀ v, mWrite sts = some v → ErrAt H a.CS v E)
theorem ok_need_steps (F : DefX K mg "need_steps" sNeedSteps ["steps"]) (B : Bu P w K mg a) (c_is_step : Cl P w K mg base CX0 k "is_step" spIsStep) : Cl P w K mg base (L2.CX P w) (k + 1) "need_steps" (spNeedSteps a) :=
  clX F scNeedSteps (fun vs H Q E h => by obtain ⟨_, e, _⟩ := h; rw [e]; rfl) (fun f cdv A outer s H vs Q E hr h => by
    obtain ⟨b, rfl, h⟩ := h
    refine ⟨_, (pss_cons (ps_if (PW.pt (pw_or (pt_not (pt_val (pe_callB call_isi (by rfl) B.b_isinstance bt_isinstance (pa_cons (pv 0) (pa_cons (pe_bltn (v := .ty "tuple") (by rfl) B.b_tuple bt_tuple rfl) pa_nil))))) (pw_or1 (pt_not (pt_chain op_le op_le pe_int (pe_callB call_len_seq (by rfl) B.b_len bt_len (pa_cons (pv 0) pa_nil)) (C8.pe_gc rfl B.c_MOST_LINES)))))) (pss_one (ps_raiseBad rfl B.bs hr (takes_of rfl rfl rfl rfl) (pa_cons pe_non pa_nil))) pss_nil)
    (pss_one (ps_for (passes_of rfl) rfl (pi_enumT (by rfl) B.b_enumerate (pa_cons (pv 0) pa_nil)) (pg_tup rfl (pgs_cons (pg_name (i := 1) scNeedSteps.nd rfl (Or.inl rfl)) (pgs_cons (pg_name (i := 2) scNeedSteps.nd rfl (Or.inl rfl)) pgs_nil)))
    (pss_one (ps_if (PW.pt (pw_or (pt_not (pt_val (pc0 c_is_step hr (Nat.le_refl _) rfl (pa_cons (pv 2) pa_nil)))) (pw_or1 (pt_cmpR op_ne (pe_cmpR op_eq (pe_ix ix_tup (pv 2) pe_int (fun _ _ => rfl)) pe_str (nomark _)) (pe_cmpR op_eq (pv 1) pe_int (nomark _)) (nomark _))))) (pss_one (ps_raiseBad rfl B.bs hr (takes_of rfl rfl rfl rfl) (pa_cons (pv 1) pa_nil))) pss_nil))))), ?_⟩
    rcases h with ⟨xs, hb, he⟩ | ⟨ws, sts, hb, hst, hok, hlen, hq, he⟩
    · obtain ⟨t1, y1, k1⟩ := isi_lst (K := K) hb
      exact ⟨_, rfl, _, _, _, _, _, rfl, .ty _, y1, k1, _, rfl, iteT (iteT ⟨_, rfl, fun d hd => he d _ (same_upd hd) upd_same⟩)⟩
    obtain ⟨t1, y1, k1⟩ := isi_tup (K := K) hb
    have hl := Paired.len hst
    refine ⟨_, rfl, _, _, _, _, _, rfl, .ty _, y1, k1, _, rfl, iteF ?_⟩
    refine ⟨_, rfl, b, _, rfl, .inr (.inl (.inl hb)), _, _, rfl, rfl, _, rfl, ?_⟩
    refine ite2 (fun c => ?_) (fun c => ?_)
    · refine ⟨_, _, rfl, rfl, _, rfl, ?_⟩
      have c' := of_decide_eq_true c
      refine ite2 (fun c2 => ?_) (fun c2 => ?_)
      · have c2' := not_eq_t c2
        have c3 : ¬ ((ws.length : Int) ≤ 200) := of_decide_eq_false c2'
        exact ⟨_, rfl, fun d hd => he .non (by rw [mWrite, if_pos (.inr (by omega))]) d _ (same_upd hd) upd_same⟩
      · have c2' := not_ne_t c2
        have c3 : (ws.length : Int) ≤ 200 := of_decide_eq_true c2'
        have hw : mWrite sts = (mNeed 0 sts).map fun i => .int (i : Nat) := by rw [mWrite, if_neg (by omega)]
        rw [hw] at hq he
        refine ⟨_, rfl, b, ws, rfl, .inl (.inl hb), ?_⟩
        refine for_it walk_enumT (fun i σ' H' => Same H H' ∧ (∃ o o2, σ' = [some (.ref b), o, o2]) ∧ mNeed 0 sts = mNeed i (sts.drop i)) ⟨Same.refl H, ⟨_, _, rfl⟩, rfl⟩ (fun i σ' H' _ g => .inl (.inl (g.1 _ _ hb))) ?_ ?_
        · rintro i x σ' H1 H2 hi ⟨hs, ⟨o, o2, rfl⟩, hn⟩ ⟨T, x1, x2, rfl, hT, rfl, e1, e2⟩
          cases e1
          obtain ⟨st, hsti, hat⟩ := Paired.at_ hst e2
          have hs2 := hs.trans (same_upd (o := .tup [.int (i : Nat), x2]) hT)
          have hat2 := hat.keep (Same.tk hs2)
          have hokst := hok st (List.mem_of_getElem? hsti)
          obtain ⟨c, x0, xs, rfl, hc, hw0⟩ := hat2.first hokst
          have hdr : sts.drop i = st :: sts.drop (i + 1) := by
            have hlt : i < sts.length := (List.getElem?_eq_some_iff.mp hsti).1
            rw [List.drop_eq_getElem_cons hlt, (List.getElem?_eq_some_iff.mp hsti).2]
          rw [hdr, mNeed] at hn
          refine ⟨T, _, rfl, .inl (.inl upd_same), rfl, _, _, rfl, _, _, rfl, rfl, ?_⟩
          refine ⟨_, rfl, _, st, rfl, hat2, hokst, fun H3 h3 => ⟨_, rfl, ?_⟩⟩
          have hs3 := hs2.trans h3
          have fail : mNeed 0 sts = some i → ErrAt H a.CS (.int (i : Nat)) E := fun h => he _ (by rw [h]; rfl)
          cases hm : mIsStep st with
          | false =>
            rw [hm] at hn
            exact iteT (iteT ⟨_, rfl, _, rfl, fun d hd => fail hn d _ (hs3.trans (same_upd hd)) upd_same⟩)
          | true =>
            rw [hm] at hn
            refine iteF ⟨_, rfl, c, _, 0, _, rfl, rfl, .inl (.inl (h3 _ _ hc)), atI_nat (j := 0) rfl, rfl, _, rfl, rfl, rfl, _, rfl, ?_⟩
            rw [hw0, dec_bl, dec_int]
            have e0 : (((i : Nat) : Int) == (0 : Int)) = decide (i = 0) := by
              by_cases h : i = 0
              · subst h; rfl
              · rw [decide_eq_false h, beq_eq_false_iff_ne]
                omega
            have e0' : ((i : Int) == 0) = decide (i = 0) := e0
            rw [e0']
            have hcond : (!true || isWorld st != decide (i = 0)) = !(isWorld st == decide (i = 0)) := rfl
            rw [hcond] at hn
            refine ite2 (fun g => ?_) (fun g => ?_)
            · rw [if_pos g] at hn
              exact ⟨_, rfl, _, rfl, fun d hd => fail hn d _ (hs3.trans (same_upd hd)) upd_same⟩
            · rw [if_neg g] at hn
              exact ⟨hs3, ⟨_, _, rfl⟩, hn⟩
        · rintro σ' H' ⟨hs, _, hn⟩
          rw [List.drop_of_length_le (by omega)] at hn
          exact hq (by rw [hn]; rfl) _ hs
    · refine ⟨_, rfl, iteT ⟨_, rfl, fun d hd => he .non ?_ d _ (same_upd hd) upd_same⟩⟩
      have : ¬ ((1 : Int) ≤ ws.length) := fun h => c (decide_eq_true h)
      rw [mWrite, if_pos (.inl (by omega))])
abbrev sWriteScript : Stmt := topS 36
theorem scWriteScript : FnScope ["steps", "step"] ["steps"] (defScope sWriteScript) := ⟨rfl, rfl, rfl, by decide +kernel, rfl, by decide +kernel, by decide +kernel⟩
def spWriteScript (a : Ad) : Sp := fun vs H Q E => ∃ b, vs = [.ref b] ∧ ((∃ xs, H b = some (.lst xs) ∧ ErrAt H a.CS .non E) ∨
  ∃ ws sts, H b = some (.tup ws) ∧ StepsAt H ws sts ∧ (∀ st ∈ sts, okS st) ∧ sts.length ≤ 1000 ∧ (mWrite sts = none → (∀ st ∈ sts, mIsStep st = true ∧ nLinks st ≤ 64) ∧ sts.length ≤ 50 ∧ ∀ H', Same H H' → Q (.str (mkS (TL.joinL [10] (sts.map mLine)))) H') ∧ ∀ v, mWrite sts = some v → ErrAt H a.CS v E)
theorem ok_write_script (F : DefX K mg "write_script" sWriteScript ["steps"]) (B : Bu P w K mg a) (c_need_steps : Cl P w K mg base (L2.CX P w) k "need_steps" (spNeedSteps a)) (c_line_of : Cl P w K mg base CX0 k "line_of" spLineOf) : Cl P w K mg base (L2.CX P w) (k + 1) "write_script" (spWriteScript a) :=
  clX F scWriteScript (fun vs H Q E h => by obtain ⟨_, e, _⟩ := h; rw [e]; rfl) (fun f cdv A outer s H vs Q E hr h => by
    obtain ⟨b, rfl, h⟩ := h
    refine ⟨_, (pss_cons (ps_expr (pcX c_need_steps hr (Nat.le_refl _) (passOut (takes_of rfl rfl rfl rfl)) rfl (pa_cons (pv 0) pa_nil)))
    (pss_one (ps_ret (pe_join pe_str (pe_lc (own := [("step", 1)]) (g := (gName 1)) (tt := tYes) rfl scWriteScript.nd (pi_tup (pv 0)) (blkOk_by (own := [("step", 1)]) (N := ["steps", "step"]) (sc := defScope sWriteScript) (by decide +kernel)) (fun _ _ _ _ _ => (pg_name (i := 1) scWriteScript.nd rfl (Or.inl rfl))) (fun _ _ _ _ _ => pts_nil) (fun _ _ _ _ _ => (pc0 c_line_of hr (Nat.le_refl _) rfl (pa_cons (pv 1) pa_nil)))))))), ?_⟩
    rcases h with ⟨xs, hb, he⟩ | ⟨ws, sts, hb, hst, hok, hlen, hq, he⟩
    · exact ⟨_, rfl, b, rfl, .inl ⟨xs, hb, he⟩⟩
    have hl := Paired.len hst
    refine ⟨_, rfl, b, rfl, .inr ⟨ws, sts, hb, hst, hok, hlen, fun hno H1 h1 => ?_, he⟩⟩
    obtain ⟨hv, hl50, hq⟩ := hq hno
    refine ⟨⟨_, rfl⟩, _, rfl, b, rfl, ⟨_, .inl (.inl (h1 _ _ hb))⟩, fun D hD => ?_⟩
    refine lc_mapS (walk_tup (xs := ws)) (fun j x => ws[j]? = some x) (fun j y H' => ∃ st, sts[j]? = some st ∧ y = strV (mLine st)) (by omega) hD (fun i H x H' h => h) (fun H2 hs => .inl (.inl (hs _ _ (h1 _ _ hb))))
        (fun j y H1 H2 h tk => h) ?_ ?_
    · intro j x H2 R hj hx hs r
      obtain ⟨st, hsti, hat⟩ := Paired.at_ hst hx
      have hm := List.mem_of_getElem? hsti
      refine ⟨wipe1, x, slot1 (Nat.lt_succ_self 1), x, st, rfl, hat.keep (Same.tk (h1.trans hs)), (hv st hm).1, Nat.le_trans (hv st hm).2 (by decide), ?_, fun H3 h3 => r _ H3 h3 ⟨st, hsti, rfl⟩⟩
      have := hok st hm
      cases st with
      | flat w xs => exact this.1
      | world n ls => trivial
    · intro ys H2 s2 hD2 hlen2 hF
      have hys : ys = sts.map fun st => strV (mLine st) := map_of (by omega) hF
      subst hys
      refine ⟨_, D, (sts.map mLine).map mkS, rfl, rfl, .inl (.inl (.inl ?_)), ?_, ?_⟩
      · rw [hD2, List.map_map, List.map_map]
        rfl
      · refine sum_mk (m := 14000) (n := 50) (fun l hl => ?_) (by rw [List.length_map]; exact hl50) (by decide) (s := "\n") (c := 10) (by decide)
        obtain ⟨st, hst, rfl⟩ := List.mem_map.mp hl
        have := line_len (hv st hst).1
        have h2 : (nLinks st + 2) * 211 ≤ 66 * 211 := Nat.mul_le_mul_right _ (by have := (hv st hst).2; omega)
        omega
      · rw [join_mk (s := "\n") (c := 10) (by decide)]
        exact hq _ (h1.trans s2))
abbrev sReadScript : Stmt := topS 37
theorem scReadScript : FnScope ["text", "lines", "steps", "index", "line", "step"] ["text"] (defScope sReadScript) := ⟨rfl, rfl, rfl, by decide +kernel, rfl, by decide +kernel, by decide +kernel⟩
def lns (z : Str) : List Cs := (Txt.split z (S "\n")).map TL.tl
def spReadScript (a : Ad) : Sp := fun vs H Q E => ∃ z : Str, vs = [.str z] ∧ z.length ≤ 4000000 ∧ (∀ l ∈ lns z, l.length ≤ 4000000) ∧ (lns z).length ≤ 4000000 ∧
  (∀ sts, mRead 0 (lns z) = .ok sts → ∀ p ws H', Same H H' → H' p = some (.tup ws) → StepsAt H' ws sts → (∀ st ∈ sts, okS st) → Q (.ref p) H') ∧ ∀ i, mRead 0 (lns z) = .error i → ErrAt H a.CL (.int (i : Nat)) E
theorem ok_read_script (F : DefX K mg "read_script" sReadScript ["text"]) (B : Bu P w K mg a) (c_step_in : Cl P w K mg base CX0 k "step_in" spStepIn) (c_is_step : Cl P w K mg base CX0 k "is_step" spIsStep) : Cl P w K mg base (L2.CX P w) (k + 1) "read_script" (spReadScript a) :=
  clX F scReadScript (fun vs H Q E h => by obtain ⟨_, e, _⟩ := h; rw [e]; rfl) (fun f cdv A outer s H vs Q E hr h => by
    obtain ⟨z, rfl, hz, hzl, hzn, hq, he⟩ := h
    refine ⟨_, (pss_cons (ps_if (pt_not (pt_val (pe_callB call_isi (by rfl) B.b_isinstance bt_isinstance (pa_cons (pv 0) (pa_cons (pe_bltn (v := .ty "str") (by rfl) B.b_str bt_str rfl) pa_nil))))) (pss_one ps_never) pss_nil)
    (pss_cons (ps_set (i := 1) scReadScript.nd rfl (Or.inl rfl) (pe_split (pv 0) pe_str))
    (pss_cons (ps_set (i := 2) scReadScript.nd rfl (Or.inl rfl) (pe_lst pa_nil))
    (pss_cons (ps_for (passes_of rfl) rfl (pi_enum (by rfl) B.b_enumerate (pa_cons (pv 1) pa_nil)) (pg_tup rfl (pgs_cons (pg_name (i := 3) scReadScript.nd rfl (Or.inl rfl)) (pgs_cons (pg_name (i := 4) scReadScript.nd rfl (Or.inl rfl)) pgs_nil)))
    (pss_cons (ps_set (i := 5) scReadScript.nd rfl (Or.inl rfl) (pc0 c_step_in hr (Nat.le_refl _) rfl (pa_cons (pv 4) pa_nil)))
    (pss_cons (ps_if (PW.pt (pw_or (pt_cmpR op_eq (pv 3) (C8.pe_gc rfl B.c_MOST_LINES) (nomark _)) (pw_or (pt_cmpR op_isN (pv 5) pe_non (nomark _)) (pw_or (pt_not (pt_val (pc0 c_is_step hr (Nat.le_refl _) rfl (pa_cons (pv 5) pa_nil)))) (pw_or1 (pt_cmpR op_ne (pe_cmpR op_eq (pe_ix ix_tup (pv 5) pe_int (fun _ _ => rfl)) pe_str (nomark _)) (pe_cmpR op_eq (pv 3) pe_int (nomark _)) (nomark _))))))) (pss_one (ps_raiseBad rfl B.bl hr (takes_of rfl rfl rfl rfl) (pa_cons (pv 3) pa_nil))) pss_nil)
    (pss_one (ps_expr (pe_bm PySem.F.plainAttrs_list PySem.F.slot_list_append PySem.F.type_list_append mt_append (pv 2) (pa_cons (pv 5) pa_nil)))))))
    (pss_one (ps_ret (pe_callTy call_tuple_of (by rfl) B.b_tuple bt_tuple (pa_cons (pv 2) pa_nil)))))))), ?_⟩
    obtain ⟨t1, y1, k1⟩ := isi_str (K := K) (H := H) (v := .str z) rfl
    refine ⟨_, rfl, _, _, _, _, _, rfl, .ty _, y1, k1, _, rfl, iteF ?_⟩
    refine ⟨_, rfl, ⟨_, rfl⟩, _, _, rfl, rfl, by decide +kernel, ?_, fun l hl => ?_⟩
    · have : (4000002 : Nat) ≤ sizeLine := by decide
      omega
    refine ⟨by decide, fun sl hsl => ?_⟩
    have s0 := (same_upd (o := .lst ((Txt.split z (S "\n")).map V.str)) hl).trans (same_upd (o := .lst []) hsl)
    have hl0 := same_upd (o := .lst []) hsl _ _ (upd_same (H := H) (a := l) (o := .lst ((Txt.split z (S "\n")).map V.str)))
    have hls : sl ≠ l := fun g => by
      rw [g, upd_same] at hsl
      cases hsl
    have hHs : H sl = none := by
      rw [upd_ne hls] at hsl
      exact hsl
    refine ⟨_, rfl, l, _, rfl, .inl (.inl hl0), ?_⟩
    refine for_it walk_enum (fun i σ' H' => Same H H' ∧ H' l = some (.lst ((Txt.split z (S "\n")).map V.str)) ∧ (∃ o1 o2 o3, σ' = [some (.str z), some (.ref l), some (.ref sl), o1, o2, o3]) ∧
      ∃ ys sts, H' sl = some (.lst ys) ∧ StepsAt H' ys sts ∧ (∀ st ∈ sts, okS st) ∧ sts.length = i ∧ mRead 0 (lns z) = match mRead i ((lns z).drop i) with
        | .error j => .error j
        | .ok r => .ok (sts ++ r)) ⟨s0, hl0, ⟨_, _, _, rfl⟩, [], [], upd_same, .nil, (fun _ h => by cases h), rfl, ?_⟩ (fun i σ' H' _ g => .inl (.inl g.2.1)) ?_ ?_
    · rw [List.drop_zero]
      cases mRead 0 (lns z) <;> rfl
    · rintro i x σ' H1 H2 hi ⟨hs, hl1, ⟨o1, o2, o3, rfl⟩, ys, sts, hsl1, hst, hok, hlen, hr⟩ ⟨T, x1, x2, rfl, hT, rfl, e1, e2⟩
      cases e1
      replace e2 : ((Txt.split z (S "\n")).map V.str)[i]? = some x2 := e2
      rw [List.getElem?_map] at e2
      cases ez : (Txt.split z (S "\n"))[i]? with
      | none => rw [ez] at e2; cases e2
      | some z1 =>
      rw [ez] at e2
      cases e2
      have hz1 : TL.tl z1 ∈ lns z := List.mem_map.mpr ⟨z1, List.mem_of_getElem? ez, rfl⟩
      have hbd : Bd (.str z1) := fun y h => by
        cases h
        rw [TL.len_tl]
        exact hzl _ hz1
      have hdr : (lns z).drop i = TL.tl z1 :: (lns z).drop (i + 1) := by
        have h1 : (lns z)[i]? = some (TL.tl z1) := by rw [lns, List.getElem?_map, ez]; rfl
        have hlt : i < (lns z).length := (List.getElem?_eq_some_iff.mp h1).1
        rw [List.drop_eq_getElem_cons hlt, (List.getElem?_eq_some_iff.mp h1).2]
      rw [hdr, mRead] at hr
      have hT1 := same_upd (o := .tup [.int (i : Nat), .str z1]) hT
      refine ⟨T, _, rfl, .inl (.inl upd_same), rfl, _, _, rfl, _, _, rfl, rfl, ?_⟩
      refine ⟨_, rfl, z1, rfl, hbd, fun v H3 h3 hsr => ?_⟩
      have hs3 := (hs.trans hT1).trans h3
      have hsl3 := h3 _ _ (hT1 _ _ hsl1)
      have hl3 := h3 _ _ (hT1 _ _ hl1)
      have hst3 := (hst.keep (Same.tk hT1)).keep (Same.tk h3)
      have fail : badAt i (mStep (TL.tl z1)) = true → ErrAt H a.CL (.int (i : Nat)) E := fun h => he i (by rw [hr, if_pos h])
      refine ⟨_, rfl, rfl, _, rfl, ?_⟩
      rw [dec_int]
      have e200 : (((i : Nat) : Int) == (200 : Int)) = decide (i = 200) := by
        by_cases h : i = 200
        · subst h; rfl
        · rw [decide_eq_false h, beq_eq_false_iff_ne]
          omega
      have e0 : (((i : Nat) : Int) == (0 : Int)) = decide (i = 0) := by
        by_cases h : i = 0
        · subst h; rfl
        · rw [decide_eq_false h, beq_eq_false_iff_ne]
          omega
      rw [e200]
      cases hm : mStep (TL.tl z1) with
      | none =>
        rw [hm] at hsr fail
        cases hsr
        refine ite2 (fun c => ?_) (fun c => ?_)
        · exact iteT ⟨_, rfl, _, rfl, fun d hd => fail rfl d _ (hs3.trans (same_upd hd)) upd_same⟩
        · exact ⟨_, rfl, rfl, _, rfl, iteT (iteT ⟨_, rfl, _, rfl, fun d hd => fail rfl d _ (hs3.trans (same_upd hd)) upd_same⟩)⟩
      | some st =>
      rw [hm] at hsr fail
      replace hsr : StepAt H3 v st := hsr
      have hokst : okS st := mStep_okS hm (hzl _ hz1)
      have hbad : badAt i (some st) = (decide (i = 200) || !mIsStep st || (isWorld st != decide (i = 0))) := rfl
      refine ite2 (fun c => ?_) (fun c => ?_)
      · rw [c] at hbad
        exact iteT ⟨_, rfl, _, rfl, fun d hd => fail hbad d _ (hs3.trans (same_upd hd)) upd_same⟩
      have c' : decide (i = 200) = false := Bool.eq_false_iff.mpr c
      rw [c'] at hbad
      obtain ⟨cc, x0, xs, rfl, hc, hw0⟩ := hsr.first hokst
      refine ⟨_, rfl, rfl, _, rfl, iteF ?_⟩
      refine ⟨_, rfl, _, st, rfl, hsr, hokst, fun H4 h4 => ⟨_, rfl, ?_⟩⟩
      have hs4 := hs3.trans h4
      cases hms : mIsStep st with
      | false =>
        rw [hms] at hbad
        exact iteT (iteT ⟨_, rfl, _, rfl, fun d hd => fail hbad d _ (hs4.trans (same_upd hd)) upd_same⟩)
      | true =>
        rw [hms] at hbad
        refine iteF ⟨_, rfl, cc, _, 0, _, rfl, rfl, .inl (.inl (h4 _ _ hc)), atI_nat (j := 0) rfl, rfl, _, rfl, rfl, rfl, _, rfl, ?_⟩
        rw [hw0, dec_bl, dec_int]
        have e0' : ((i : Int) == 0) = decide (i = 0) := e0
        rw [e0']
        have hcond : (false || !true || isWorld st != decide (i = 0)) = !(isWorld st == decide (i = 0)) := rfl
        rw [hcond] at hbad
        refine ite2 (fun g => ?_) (fun g => ?_)
        · rw [g] at hbad
          exact ⟨_, rfl, _, rfl, fun d hd => fail hbad d _ (hs4.trans (same_upd hd)) upd_same⟩
        · rw [hm, if_neg (by rw [hbad]; exact g)] at hr
          have hsl4 := h4 _ _ hsl3
          have tk5 : TupK H4 (upd H4 sl (.lst (ys ++ [.ref cc]))) := fun b xs e => by
            rw [upd_ne (fun h => by rw [h, hsl4] at e; cases e)]
            exact e
          refine ⟨_, rfl, .inl ⟨rfl, _, .inl (.inl hsl4)⟩, _, rfl, sl, ys, _, rfl, rfl, hsl4, ?_, Same.upd hs4 hHs, ?_, ⟨_, _, _, rfl⟩, ys ++ [.ref cc], sts ++ [st], upd_same, ?_, ?_, ?_, ?_⟩
          · have h1 := Paired.len hst
            have h2 : i < (lns z).length := by
              have := congrArg List.length hdr
              rw [List.length_drop, List.length_cons] at this
              omega
            have h3 : (4000000 : Nat) < sizeLine := by decide
            omega
          · rw [upd_ne (Ne.symm hls)]
            exact h4 _ _ hl3
          · exact Paired.app ((hst3.keep (Same.tk h4)).keep tk5) (.cons ((hsr.keep (Same.tk h4)).keep tk5) .nil)
          · intro s hs
            rcases List.mem_append.mp hs with hs | hs
            · exact hok s hs
            · rcases List.mem_cons.mp hs with rfl | hs
              · exact hokst
              · cases hs
          · rw [List.length_append, hlen]
            rfl
          · rw [hr]
            cases mRead (i + 1) ((lns z).drop (i + 1)) with
            | error j => rfl
            | ok r =>
              show Except.ok (sts ++ (st :: r)) = Except.ok (sts ++ [st] ++ r)
              rw [List.append_assoc]
              rfl
    · rintro σ' H' ⟨hs, hl1, ⟨o1, o2, o3, rfl⟩, ys, sts, hsl1, hst, hok, hlen, hr⟩
      rw [List.drop_of_length_le (by rw [lns]; simp), mRead] at hr
      dsimp only at hr
      rw [List.append_nil] at hr
      refine ⟨_, rfl, sl, _, rfl, .inl ⟨.inl (.inl hsl1), fun p hp => ?_⟩⟩
      exact hq sts hr p ys _ (hs.trans (same_upd hp)) upd_same (hst.keep (Same.tk (same_upd hp))) hok)
end
end Ms


set_option Elab.async false
set_option linter.all false
set_option maxRecDepth 100000
set_option maxHeartbeats 4000000
/-! # The walk, 9: what the law draws -/
namespace Ms
open PySem PySem.Spec PyProof.Rows L2
/-- the row at r: the given list at p, three numbers -/
structure Row where
  r : Addr
  p : Addr
  xs : List Int
def RowOk (K : PySem.W.Frag) (R : Row) (H : Hp) : Prop := ∃ i s t : Int, H R.r = some (.lst [.ref R.p, .int i, .int s, .int t]) ∧ SqL K H R.p (R.xs.map V.int) ∧ 0 ≤ i
def KpR (K : PySem.W.Frag) (R : Row) (H H' : Hp) : Prop := (∀ b o, b ≠ R.r → H b = some o → H' b = some o) ∧ (RowOk K R H → RowOk K R H')
theorem sql_ne {K : PySem.W.Frag} {H H' : Hp} {p : Addr} {xs : List V} (h : SqL K H p xs) (k : ∀ o, H p = some o → (o = .lst xs ∨ ∃ u, o = .frz u (.lst xs)) → H' p = some o) : SqL K H' p xs := by
  rcases h with (h | ⟨o, h⟩) | h
  · exact .inl (.inl (k _ h (.inl rfl)))
  · exact .inl (.inr ⟨o, k _ h (.inr ⟨_, rfl⟩)⟩)
  · exact .inr h
theorem row_ne {H : Hp} {r p : Addr} {ns : List Int} {rest : List V} {o : HO} (hr : H r = some (.lst (.ref p :: rest))) (e : H p = some o) (ho : o = .lst (ns.map V.int) ∨ ∃ u, o = .frz u (.lst (ns.map V.int))) : p ≠ r := fun h => by
  rw [h, hr] at e
  cases e
  rcases ho with ho | ⟨u, ho⟩
  · injection ho with ho
    cases ns with
    | nil => cases ho
    | cons n ns => rw [List.map_cons] at ho; injection ho with h1 _; cases h1
  · cases ho
section
variable {K : PySem.W.Frag} {R : Row} {H H1 H2 : Hp}
theorem KpR.refl (H : Hp) : KpR K R H H := ⟨fun _ _ _ e => e, id⟩
theorem KpR.trans (a : KpR K R H H1) (b : KpR K R H1 H2) : KpR K R H H2 := ⟨fun c o n e => b.1 c o n (a.1 c o n e), fun h => b.2 (a.2 h)⟩
theorem KpR.upd {D : Addr} {o : HO} (k : KpR K R H H1) (ok : RowOk K R H) (hD : H D = none) : KpR K R H (L2.upd H1 D o) := by
  refine ⟨fun b o' hb e => ?_, fun h => ?_⟩
  · rw [upd_ne (ne_of_none e hD)]
    exact k.1 b o' hb e
  · obtain ⟨i, s, t, h1, h2, h3⟩ := k.2 h
    obtain ⟨i', s', t', g1, g2, g3⟩ := ok
    have hr : R.r ≠ D := fun e => by rw [e, hD] at g1; cases g1
    exact ⟨i, s, t, by rw [upd_ne hr]; exact h1, sql_ne g2 fun o' e ho => by rw [upd_ne (ne_of_none e hD)]; exact k.1 _ _ (row_ne g1 e ho) e, h3⟩
theorem KpR.new {D : Addr} {o : HO} (ok : RowOk K R H) (hD : H D = none) : KpR K R H (L2.upd H D o) := by
  refine ⟨fun b o' hb e => by rw [upd_ne (ne_of_none e hD)]; exact e, fun ⟨i, s, t, h1, h2, h3⟩ => ⟨i, s, t, by rw [upd_ne (ne_of_none h1 hD)]; exact h1, sql_ne h2 fun o' e _ => by rw [upd_ne (ne_of_none e hD)]; exact e, h3⟩⟩
theorem KpR.tk (k : KpR K R H1 H2) (ok : RowOk K R H1) : TupK H1 H2 := fun b xs e => by
  obtain ⟨i, s, t, h1, _⟩ := ok
  exact k.1 b _ (fun h => by rw [h, h1] at e; cases e) e
end
section
variable {P : Program} {w : World} {K : PySem.W.Frag} {mg : Str → Option Value} {base : Heap} {a : Ad} {k : Nat}
abbrev sLawTaken : Stmt := topS 39
theorem scLawTaken : FnScope ["_law_row", "_law_many", "_law_cell", "_law_found"] ["_law_row", "_law_many"] (defScope sLawTaken) := ⟨rfl, rfl, rfl, by decide +kernel, rfl, by decide +kernel, by decide +kernel⟩
def spLawTaken (K : PySem.W.Frag) : Sp := fun vs H Q _ => ∃ (R : Row) (m : Int), vs = [.ref R.r, .int m] ∧ 0 < m ∧ m < 2 ^ 60 ∧ RowOk K R H ∧ ∀ (n : Nat) H', (n : Int) < m → KpR K R H H' → Q (.int n) H'
theorem sql_set {H : Hp} {r p : Addr} {ns : List Int} {rest : List V} {o : HO} (hr : H r = some (.lst (.ref p :: rest))) (hp : SqL K H p (ns.map V.int)) : SqL K (upd H r o) p (ns.map V.int) :=
  sql_ne hp fun o' e ho => by rw [upd_ne (row_ne hr e ho)]; exact e
theorem kp_set {R : Row} {H : Hp} {i s t i' s' t' : Int} (hr : H R.r = some (.lst [.ref R.p, .int i, .int s, .int t])) (hp : SqL K H R.p (R.xs.map V.int)) (hi : 0 ≤ i') : KpR K R H (upd H R.r (.lst [.ref R.p, .int i', .int s', .int t'])) :=
  ⟨fun b o hb e => by rw [upd_ne hb]; exact e, fun _ => ⟨i', s', t', upd_same, sql_set hr hp, hi⟩⟩
theorem div_ok {m : Int} (h0 : 0 < m) (h : m < 2 ^ 60) : CDivW 0 m := by
  refine ⟨h0, ?_⟩
  have h1 : m.natAbs ≠ 0 := by omega
  exact Nat.lt_of_lt_of_le ((Nat.log2_lt h1).mpr (show m.natAbs < 2 ^ 60 by omega)) (by decide)
theorem mod_nat {x m : Int} (h : 0 < m) : ∃ n : Nat, x % m = n ∧ (n : Int) < m := by
  have h1 := Int.emod_nonneg x (by omega : m ≠ 0)
  have h2 := Int.emod_lt_of_pos x h
  exact ⟨(x % m).toNat, by omega, by omega⟩
theorem ok__law_taken (F : DefX K mg "_law_taken" sLawTaken ["_law_row", "_law_many"]) (B : Bu P w K mg a)  : Cl P w K mg base CX0 (k + 1) "_law_taken" (spLawTaken K) :=
  cl0 F scLawTaken (fun vs H Q E h => by obtain ⟨_, _, e, _⟩ := h; rw [e]; rfl) (fun f cdv A outer s H vs Q E hr h => by
    obtain ⟨R, m, rfl, hm0, hm, ⟨i, s, t, hr, hp, hi⟩, q⟩ := h
    refine ⟨_, (pss_cons (ps_if (pt_cmpR op_gt (pe_ix ix_list (pv 0) pe_int (fun _ _ => rfl)) pe_int (nomark _)) (pss_cons (ps_set (i := 3) scLawTaken.nd rfl (Or.inl rfl) (pe_op op_mod (pe_callTy call_int1 (by rfl) B.b_int bt_int (pa_cons (pe_ix ix_list (pv 0) pe_int (fun _ _ => rfl)) pa_nil)) (pv 1)))
    (pss_cons (ps_asg (pe_op op_fdivW (pe_ix ix_list (pv 0) pe_int (fun _ _ => rfl)) (pv 1)) (pg_sub (pv 0) pe_int set_list))
    (pss_one (ps_ret (pv 3))))) pss_nil)
    (pss_cons (ps_asg (pe_op op_add (pe_ix ix_list (pv 0) pe_int (fun _ _ => rfl)) pe_int) (pg_sub (pv 0) pe_int set_list))
    (pss_cons (ps_if (pt_cmpR op_gt (pe_ix ix_list (pv 0) pe_int (fun _ _ => rfl)) (pe_callB call_len_seq (by rfl) B.b_len bt_len (pa_cons (pe_ix ix_list (pv 0) pe_int (fun _ _ => rfl)) pa_nil)) (nomark _)) (pss_cons (ps_asg (pe_op op_mod (pe_callTy call_int1 (by rfl) B.b_int bt_int (pa_cons (pe_op op_add (pe_op op_mul (pe_ix ix_list (pv 0) pe_int (fun _ _ => rfl)) pe_int) pe_int) pa_nil)) pe_int) (pg_sub (pv 0) pe_int set_list))
    (pss_one (ps_ret (pe_op op_mod (pe_callTy call_int1 (by rfl) B.b_int bt_int (pa_cons (pe_op op_fdivW (pe_ix ix_list (pv 0) pe_int (fun _ _ => rfl)) pe_int) pa_nil)) (pv 1))))) pss_nil)
    (pss_cons (ps_set (i := 2) scLawTaken.nd rfl (Or.inl rfl) (pe_ix ix_list (pe_ix ix_list (pv 0) pe_int (fun _ _ => rfl)) (pe_op op_sub (pe_ix ix_list (pv 0) pe_int (fun _ _ => rfl)) pe_int) (fun _ _ => rfl)))
    (pss_cons (ps_asg (pe_op op_mod (pe_callTy call_int1 (by rfl) B.b_int bt_int (pa_cons (pe_op op_add (pe_op op_add (pe_op op_mul (pe_ix ix_list (pv 0) pe_int (fun _ _ => rfl)) pe_int) (pv 2)) pe_int) pa_nil)) pe_int) (pg_sub (pv 0) pe_int set_list))
    (pss_cons (ps_if (pt_cmpR op_ge (pv 2) (pe_op op_pow pe_int pe_int) (nomark _)) (pss_one (ps_asg (pe_op op_fdivW (pv 2) (pv 1)) (pg_sub (pv 0) pe_int set_list))) pss_nil)
    (pss_one (ps_ret (pe_op op_mod (pe_callTy call_int1 (by rfl) B.b_int bt_int (pa_cons (pv 2) pa_nil)) (pv 1)))))))))), ?_⟩
    have hdiv : ∀ x, CDivW x m := fun x => div_ok hm0 hm
    have q' : ∀ x H', KpR K R H H' → Q (.int (x % m)) H' := fun x H' h => by
      obtain ⟨n, hn, hlt⟩ := mod_nat (x := x) hm0
      rw [hn]
      exact q n H' hlt h
    refine ⟨_, rfl, R.r, _, 3, _, rfl, rfl, .inl (.inl hr), rfl, _, _, rfl, rfl, _, rfl, ite2 (fun c => ?_) (fun c => ?_)⟩
    · refine ⟨_, rfl, R.r, _, 3, _, rfl, rfl, .inl (.inl hr), rfl, .inl ⟨t, rfl, _, rfl, t, m, rfl, rfl, hm0, ?_⟩⟩
      refine ⟨_, rfl, R.r, _, 3, _, rfl, rfl, .inl (.inl hr), rfl, _, rfl, t, m, rfl, rfl, hdiv t, _, rfl, R.r, _, 3, 3, rfl, rfl, hr, rfl, _, rfl, ?_⟩
      exact q' _ _ (kp_set hr hp hi)
    · refine ⟨_, rfl, R.r, _, 1, _, rfl, rfl, .inl (.inl hr), rfl, i, 1, rfl, rfl, _, rfl, R.r, _, 1, 1, rfl, rfl, hr, rfl, ?_⟩
      have k1 : KpR K R H (upd H R.r (.lst [.ref R.p, .int (i + 1), .int s, .int t])) := kp_set hr hp (by omega)
      have hr1 := upd_same (H := H) (a := R.r) (o := .lst [.ref R.p, .int (i + 1), .int s, .int t])
      have hp1 : SqL K (upd H R.r (.lst [.ref R.p, .int (i + 1), .int s, .int t])) R.p (R.xs.map V.int) := sql_set hr hp
      show tSeq _ _ _ _ (upd H R.r (.lst [.ref R.p, .int (i + 1), .int s, .int t]))
      generalize upd H R.r (.lst [.ref R.p, .int (i + 1), .int s, .int t]) = H1 at k1 hr1 hp1 ⊢
      refine ⟨_, rfl, R.r, _, 1, _, rfl, rfl, .inl (.inl hr1), rfl, _, rfl, R.r, _, 0, _, rfl, rfl, .inl (.inl hr1), rfl, R.p, _, rfl, .inl hp1, _, _, rfl, rfl, _, rfl, ite2 (fun c1 => ?_) (fun c1 => ?_)⟩
      · refine ⟨_, rfl, R.r, _, 2, _, rfl, rfl, .inl (.inl hr1), rfl, s, 48271, rfl, rfl, .inr (by decide), _, _, rfl, rfl, .inl ⟨_, rfl, _, 2147483647, rfl, rfl, (by decide : (0 : Int) < 2147483647), ?_⟩⟩
        refine ⟨_, rfl, R.r, _, 2, 2, rfl, rfl, hr1, rfl, ?_⟩
        have k2 : KpR K R H1 (upd H1 R.r (.lst [.ref R.p, .int (i + 1), .int ((s * 48271 + 11) % 2147483647), .int t])) := kp_set hr1 hp1 (by omega)
        have hr2 := upd_same (H := H1) (a := R.r) (o := .lst [.ref R.p, .int (i + 1), .int ((s * 48271 + 11) % 2147483647), .int t])
        refine ⟨_, rfl, R.r, _, 2, _, rfl, rfl, .inl (.inl hr2), rfl, _, 7, rfl, rfl, ⟨by decide, by decide +kernel⟩, .inl ⟨_, rfl, _, rfl, _, m, rfl, rfl, hm0, ?_⟩⟩
        exact q' _ _ (k1.trans k2)
      · have c1' : i + 1 ≤ (R.xs.map V.int).length := by
          have : ¬ (((R.xs.map V.int).length : Int) < i + 1) := fun h => c1 (decide_eq_true h)
          omega
        rw [List.length_map] at c1'
        obtain ⟨j, rfl⟩ := Int.eq_ofNat_of_zero_le hi
        have hj : j < R.xs.length := by omega
        have hat : atI (R.xs.map V.int) ((j : Int) + 1 - 1) = some (.int R.xs[j]) := by
          rw [Int.add_sub_cancel]
          refine atI_nat ?_
          rw [List.getElem?_map, List.getElem?_eq_getElem hj]
          rfl
        refine ⟨_, rfl, R.r, _, 0, _, rfl, rfl, .inl (.inl hr1), rfl, _, rfl, R.r, _, 1, _, rfl, rfl, .inl (.inl hr1), rfl, _, _, rfl, rfl, R.p, _, _, _, rfl, rfl, hp1, hat, ?_⟩
        generalize R.xs[j] = cell
        refine ⟨_, rfl, R.r, _, 2, _, rfl, rfl, .inl (.inl hr1), rfl, s, 48271, rfl, rfl, .inr (by decide), _, rfl, _, _, rfl, rfl, _, _, rfl, rfl, .inl ⟨_, rfl, _, 2147483647, rfl, rfl, (by decide : (0 : Int) < 2147483647), ?_⟩⟩
        refine ⟨_, rfl, R.r, _, 2, 2, rfl, rfl, hr1, rfl, ?_⟩
        have k2 : KpR K R H1 (upd H1 R.r (.lst [.ref R.p, .int ((j : Int) + 1), .int ((s * 48271 + cell + 11) % 2147483647), .int t])) := kp_set hr1 hp1 (by omega)
        have hr2 := upd_same (H := H1) (a := R.r) (o := .lst [.ref R.p, .int ((j : Int) + 1), .int ((s * 48271 + cell + 11) % 2147483647), .int t])
        have hp2 : SqL K (upd H1 R.r (.lst [.ref R.p, .int ((j : Int) + 1), .int ((s * 48271 + cell + 11) % 2147483647), .int t])) R.p (R.xs.map V.int) := sql_set hr1 hp1
        show tSeq _ _ _ _ (upd H1 R.r (.lst [.ref R.p, .int ((j : Int) + 1), .int ((s * 48271 + cell + 11) % 2147483647), .int t]))
        generalize upd H1 R.r (.lst [.ref R.p, .int ((j : Int) + 1), .int ((s * 48271 + cell + 11) % 2147483647), .int t]) = H2 at k2 hr2 hp2 ⊢
        refine ⟨_, rfl, 10, 18, rfl, rfl, ⟨by decide, by decide, by decide⟩, _, _, rfl, rfl, _, rfl, ite2 (fun c2 => ?_) (fun c2 => ?_)⟩
        · refine ⟨_, rfl, _, rfl, cell, m, rfl, rfl, hdiv cell, _, rfl, R.r, _, 3, 3, rfl, rfl, hr2, rfl, ?_⟩
          have k3 : KpR K R H2 (upd H2 R.r (.lst [.ref R.p, .int ((j : Int) + 1), .int ((s * 48271 + cell + 11) % 2147483647), .int (cell / m)])) := kp_set hr2 hp2 (by omega)
          refine ⟨_, rfl, .inl ⟨_, rfl, _, rfl, cell, m, rfl, rfl, hm0, ?_⟩⟩
          exact q' _ _ ((k1.trans k2).trans k3)
        · refine ⟨_, rfl, .inl ⟨_, rfl, _, rfl, cell, m, rfl, rfl, hm0, ?_⟩⟩
          exact q' _ _ (k1.trans k2))
end
end Ms


set_option Elab.async false
set_option linter.all false
set_option maxRecDepth 100000
set_option maxHeartbeats 4000000
/-! # The walk, 10: drawn keys, texts, values -/
namespace Ms
open PySem PySem.Spec PyProof.Rows L2
theorem RowOk.ne {K : PySem.W.Frag} {R : Row} {H : Hp} (ok : RowOk K R H) {l : Addr} (h : H l = none) : l ≠ R.r := fun e => by
  obtain ⟨i, s, t, h1, _⟩ := ok
  rw [← e, h] at h1
  cases h1
section
variable {P : Program} {w : World} {K : PySem.W.Frag} {mg : Str → Option Value} {base : Heap} {a : Ad} {k : Nat}
abbrev sLawPick : Stmt := topS 41
theorem scLawPick : FnScope ["_law_row", "_law_things"] ["_law_row", "_law_things"] (defScope sLawPick) := ⟨rfl, rfl, rfl, by decide +kernel, rfl, by decide +kernel, by decide +kernel⟩
def spLawPick (K : PySem.W.Frag) : Sp := fun vs H Q _ => ∃ (R : Row) (l : Addr) (ys : List V), vs = [.ref R.r, .ref l] ∧ l ≠ R.r ∧ H l = some (.lst ys) ∧ ys ≠ [] ∧ ys.length ≤ 1000 ∧ RowOk K R H ∧ ∀ y ∈ ys, ∀ H', KpR K R H H' → Q y H'
theorem ok__law_pick (F : DefX K mg "_law_pick" sLawPick ["_law_row", "_law_things"]) (B : Bu P w K mg a) (c__law_taken : Cl P w K mg base CX0 k "_law_taken" (spLawTaken K)) : Cl P w K mg base CX0 (k + 1) "_law_pick" (spLawPick K) :=
  cl0 F scLawPick (fun vs H Q E h => by obtain ⟨_, _, _, e, _⟩ := h; rw [e]; rfl) (fun f cdv A outer s H vs Q E hr h => by
    obtain ⟨R, l, ys, rfl, hlr, hl, hne, hlen, ok, q⟩ := h
    refine ⟨_, (pss_one (ps_ret (pe_ix ix_list (pv 1) (pc0 c__law_taken hr (Nat.le_refl _) rfl (pa_cons (pv 0) (pa_cons (pe_callB call_len_seq (by rfl) B.b_len bt_len (pa_cons (pv 1) pa_nil)) pa_nil))) (fun _ _ => rfl)))), ?_⟩
    have hpos : 0 < ys.length := List.length_pos_iff.mpr hne
    refine ⟨_, rfl, _, rfl, _, rfl, l, _, rfl, .inl (.inl (.inl hl)), R, (ys.length : Int), rfl, by omega, by omega, ok, fun n H' hn hk => ?_⟩
    have hn' : n < ys.length := by omega
    exact ⟨l, _, _, ys[n], rfl, rfl, .inl (.inl (hk.1 _ _ hlr hl)), atI_nat (List.getElem?_eq_getElem hn'), q _ (List.getElem_mem hn') H' hk⟩)
abbrev sLawSomeKey : Stmt := topS 42
theorem scLawSomeKey : FnScope ["_law_row"] ["_law_row"] (defScope sLawSomeKey) := ⟨rfl, rfl, rfl, by decide +kernel, rfl, by decide +kernel, by decide +kernel⟩
def spLawSomeKey (K : PySem.W.Frag) : Sp := fun vs H Q _ => ∃ (R : Row), vs = [.ref R.r] ∧ RowOk K R H ∧ ∀ (z : Str) H', KpR K R H H' → isKeyV (.str z) = true → Q (.str z) H'
theorem keys_ok : ∀ z ∈ (["a", "b", "ab", "key 1", "Z"] : List String), isKeyV (.str (S z)) = true := by decide +kernel
theorem ok__law_some_key (F : DefX K mg "_law_some_key" sLawSomeKey ["_law_row"]) (B : Bu P w K mg a) (c__law_pick : Cl P w K mg base CX0 k "_law_pick" (spLawPick K)) : Cl P w K mg base CX0 (k + 1) "_law_some_key" (spLawSomeKey K) :=
  cl0 F scLawSomeKey (fun vs H Q E h => by obtain ⟨_, e, _⟩ := h; rw [e]; rfl) (fun f cdv A outer s H vs Q E hr h => by
    obtain ⟨R, rfl, ok, q⟩ := h
    refine ⟨_, (pss_one (ps_ret (pc0 c__law_pick hr (Nat.le_refl _) rfl (pa_cons (pv 0) (pa_cons (pe_lst (pa_cons pe_str (pa_cons pe_str (pa_cons pe_str (pa_cons pe_str (pa_cons pe_str pa_nil)))))) pa_nil))))), ?_⟩
    refine ⟨_, rfl, by decide, fun p hp => ?_⟩
    have k1 : KpR K R H (upd H p (.lst [V.str "a", V.str "b", V.str "ab", V.str "key 1", V.str "Z"])) := KpR.new ok hp
    refine ⟨R, p, _, rfl, ok.ne hp, upd_same, by decide, by decide, k1.2 ok, fun y hy H' hk => ?_⟩
    have key : ∀ z ∈ (["a", "b", "ab", "key 1", "Z"] : List String), Q (.str (S z)) H' := fun z hz => q _ H' (k1.trans hk) (keys_ok z hz)
    rcases List.mem_cons.mp hy with rfl | hy
    · exact key "a" (by simp)
    rcases List.mem_cons.mp hy with rfl | hy
    · exact key "b" (by simp)
    rcases List.mem_cons.mp hy with rfl | hy
    · exact key "ab" (by simp)
    rcases List.mem_cons.mp hy with rfl | hy
    · exact key "key 1" (by simp)
    rcases List.mem_cons.mp hy with rfl | hy
    · exact key "Z" (by simp)
    · cases hy)
abbrev sLawSignsRow : Stmt := topS 43
theorem scLawSignsRow : FnScope [] [] (defScope sLawSignsRow) := ⟨rfl, rfl, rfl, by decide +kernel, rfl, by decide +kernel, by decide +kernel⟩
def spLawSignsRow : Sp := fun vs H Q _ => vs = [] ∧ Q (.str (mkS signs)) H
theorem ok__law_signs_row (F : DefX K mg "_law_signs_row" sLawSignsRow []) (B : Bu P w K mg a)  : Cl P w K mg base CX0 (k + 1) "_law_signs_row" spLawSignsRow :=
  cl0 F scLawSignsRow (fun vs H Q E h => by obtain ⟨e, _⟩ := h; rw [e]; rfl) (fun f cdv A outer s H vs Q E hr h => by
    obtain ⟨rfl, q⟩ := h
    refine ⟨_, (pss_one (ps_ret pe_str)), ?_⟩
    have e : S "abcdefghijklmnopqrstuvwxyzABCDEFGHIJKLMNOPQRSTUVWXYZ0123456789 .,:;-_/+*()=?!" = mkS signs := (mkS_cd _).symm
    rw [← e] at q
    exact q)
abbrev sLawSomeText : Stmt := topS 44
theorem scLawSomeText : FnScope ["_law_row", "_law_most", "_law_k"] ["_law_row", "_law_most"] (defScope sLawSomeText) := ⟨rfl, rfl, rfl, by decide +kernel, rfl, by decide +kernel, by decide +kernel⟩
def spLawSomeText (K : PySem.W.Frag) : Sp := fun vs H Q _ => ∃ (R : Row) (most : Nat), vs = [.ref R.r, .int most] ∧ most ≤ 200 ∧ RowOk K R H ∧ ∀ (z : Str) H', KpR K R H H' → isText most (TL.tl z) = true → Q (.str z) H'
theorem joinE : ∀ {l : Cs}, TL.joinL [] (l.map fun c => [c]) = l
  | [] => rfl
  | [c] => rfl
  | c :: d :: r => by
    have := joinE (l := d :: r)
    show [c] ++ ([] ++ TL.joinL [] ((d :: r).map fun c => [c])) = _
    rw [this]
    rfl
theorem ok__law_some_text (F : DefX K mg "_law_some_text" sLawSomeText ["_law_row", "_law_most"]) (B : Bu P w K mg a) (c__law_pick : Cl P w K mg base CX0 k "_law_pick" (spLawPick K)) (c__law_signs_row : Cl P w K mg base CX0 k "_law_signs_row" spLawSignsRow) (c__law_taken : Cl P w K mg base CX0 k "_law_taken" (spLawTaken K)) : Cl P w K mg base CX0 (k + 1) "_law_some_text" (spLawSomeText K) :=
  cl0 F scLawSomeText (fun vs H Q E h => by obtain ⟨_, _, e, _⟩ := h; rw [e]; rfl) (fun f cdv A outer s H vs Q E hr h => by
    obtain ⟨R, most, rfl, hm, ok, q⟩ := h
    refine ⟨_, (pss_one (ps_ret (pe_join pe_str (pe_lc (own := [("_law_k", 2)]) (g := (gName 2)) (tt := tYes) rfl scLawSomeText.nd (pi_range1 (by rfl) B.b_range (pa_cons (pc0 c__law_taken hr (Nat.le_refl _) rfl (pa_cons (pv 0) (pa_cons (pe_op op_add (pv 1) pe_int) pa_nil))) pa_nil)) (blkOk_by (own := [("_law_k", 2)]) (N := ["_law_row", "_law_most", "_law_k"]) (sc := defScope sLawSomeText) (by decide +kernel)) (fun _ _ _ _ _ => (pg_name (i := 2) scLawSomeText.nd rfl (Or.inl rfl))) (fun _ _ _ _ _ => pts_nil) (fun _ _ _ _ _ => (pc0 c__law_pick hr (Nat.le_refl _) rfl (pa_cons (pv 0) (pa_cons (pe_callTy (call_list_text rfl) (by rfl) B.b_list bt_list (pa_cons (pc00 c__law_signs_row hr (Nat.le_refl _) rfl) pa_nil)) pa_nil)))))))), ?_⟩
    refine ⟨⟨_, rfl⟩, _, rfl, _, rfl, _, _, rfl, rfl, R, _, rfl, by omega, by omega, ok, fun n H1 hn k1 => ⟨_, rfl, by omega, by omega, fun D hD => ?_⟩⟩
    have ok1 := k1.2 ok
    rw [Int.toNat_natCast]
    refine lc_map walk_range (fun j x => True) (KpR K R) (fun j y H' => ∃ c, c ∈ signs ∧ y = .str ⟨#[c]⟩) (by omega) (fun i H x H' h => ⟨h.1, trivial⟩) (KpR.refl _) (fun _ _ _ a b => a.trans b) (fun H2 o h => h.upd ok1 hD)
      (fun H2 H3 acc h2 h3 e => h3.1 _ _ (ok1.ne hD) e) (fun H2 h => trivial) (fun H2 H3 h2 h3 => h3.tk (h2.2 ok1)) (fun j y H2 H3 h tk => h) ?_ ?_
    · intro j x H2 R' hj hx hk r
      refine ⟨wipe1, _, rfl, rfl, mkS signs, rfl, by decide +kernel, fun l hl => ?_⟩
      have ok2 := hk.2 ok1
      have k2 : KpR K R H2 (upd H2 l (.lst ((mkS signs).cps.toList.map fun c => V.str ⟨#[c]⟩))) := KpR.new ok2 hl
      refine ⟨R, l, _, rfl, ok2.ne hl, upd_same, by decide +kernel, by decide +kernel, k2.2 ok2, fun y hy H' hk' => r y H' (k2.trans hk') ?_⟩
      obtain ⟨c, hc, rfl⟩ := List.mem_map.mp hy
      exact ⟨c, hc, rfl⟩
    · intro ys H2 hk hD2 hlen hF
      obtain ⟨cs, hcs, hys⟩ : ∃ cs : Cs, (∀ c ∈ cs, c ∈ signs) ∧ ys = cs.map fun c => V.str ⟨#[c]⟩ := by
        clear hD2 hlen
        induction ys with
        | nil => exact ⟨[], (fun _ h => by cases h), rfl⟩
        | cons y ys ih =>
          obtain ⟨cs, h1, h2⟩ := ih (fun j y' h => hF (j + 1) y' (by simpa using h))
          obtain ⟨c, hc, rfl⟩ := hF 0 y rfl
          exact ⟨c :: cs, fun d hd => by rcases List.mem_cons.mp hd with rfl | hd; exact hc; exact h1 d hd, by rw [h2]; rfl⟩
      subst hys
      rw [List.length_map] at hlen
      refine ⟨_, D, cs.map fun c => (⟨#[c]⟩ : Str), rfl, rfl, .inl (.inl (.inl ?_)), ?_, q _ _ (k1.trans hk) ?_⟩
      · rw [hD2, List.map_map]
        rfl
      · rw [List.map_map, List.length_map]
        have e1 : (cs.map ((fun x => x.length) ∘ fun c => (⟨#[c]⟩ : Str))).sum = cs.length := by
          clear hcs hlen hD2 hF
          induction cs with
          | nil => rfl
          | cons c r ih =>
            rw [List.map_cons, List.sum_cons, ih, List.length_cons]
            show 1 + _ = _
            omega
        rw [e1]
        show cs.length + cs.length * 0 ≤ _
        omega
      · have e : TL.tl (Txt.join (S "") (cs.map fun c => (⟨#[c]⟩ : Str))) = cs := by
          rw [TL.join_eq, TL.tl_join, tl_S, List.map_map]
          exact joinE
        rw [show (Txt.join (Str.ofString "") (cs.map fun c => (⟨#[c]⟩ : Str))) = Txt.join (S "") (cs.map fun c => (⟨#[c]⟩ : Str)) from rfl, e, isText, decide_eq_true (by omega), Bool.true_and]
        exact List.all_eq_true.mpr fun c hc => decide_eq_true (hcs c hc))
abbrev sLawSigned : Stmt := topS 45
theorem scLawSigned : FnScope ["_law_row", "_law_most"] ["_law_row", "_law_most"] (defScope sLawSigned) := ⟨rfl, rfl, rfl, by decide +kernel, rfl, by decide +kernel, by decide +kernel⟩
def spLawSigned (K : PySem.W.Frag) : Sp := fun vs H Q _ => ∃ (R : Row) (most : Int), vs = [.ref R.r, .int most] ∧ 0 ≤ most ∧ most ≤ 2 ^ 40 ∧ RowOk K R H ∧ ∀ (i : Int) H', KpR K R H H' → -most ≤ i → i ≤ most → Q (.int i) H'
theorem ok__law_signed (F : DefX K mg "_law_signed" sLawSigned ["_law_row", "_law_most"]) (B : Bu P w K mg a) (c__law_taken : Cl P w K mg base CX0 k "_law_taken" (spLawTaken K)) : Cl P w K mg base CX0 (k + 1) "_law_signed" (spLawSigned K) :=
  cl0 F scLawSigned (fun vs H Q E h => by obtain ⟨_, _, e, _⟩ := h; rw [e]; rfl) (fun f cdv A outer s H vs Q E hr h => by
    obtain ⟨R, most, rfl, h0, hm, ok, q⟩ := h
    refine ⟨_, (pss_one (ps_ret (pe_op op_sub (pc0 c__law_taken hr (Nat.le_refl _) rfl (pa_cons (pv 0) (pa_cons (pe_op op_add (pe_op op_mul pe_int (pv 1)) pe_int) pa_nil))) (pv 1)))), ?_⟩
    refine ⟨_, rfl, _, rfl, 2, most, rfl, rfl, .inl (by decide), _, _, rfl, rfl, R, _, rfl, by omega, by omega, ok, fun n H1 hn k1 => ⟨_, rfl, _, _, rfl, rfl, q _ H1 k1 ?_ ?_⟩⟩
    · omega
    · omega)
abbrev sLawSomeValue : Stmt := topS 46
theorem scLawSomeValue : FnScope ["_law_row", "_law_way"] ["_law_row"] (defScope sLawSomeValue) := ⟨rfl, rfl, rfl, by decide +kernel, rfl, by decide +kernel, by decide +kernel⟩
def spLawSomeValue (K : PySem.W.Frag) : Sp := fun vs H Q _ => ∃ (R : Row), vs = [.ref R.r] ∧ RowOk K R H ∧ ∀ v H', KpR K R H H' → isValueV v = true → Q v H'
theorem ok__law_some_value (F : DefX K mg "_law_some_value" sLawSomeValue ["_law_row"]) (B : Bu P w K mg a) (c__law_taken : Cl P w K mg base CX0 k "_law_taken" (spLawTaken K)) (c__law_some_text : Cl P w K mg base CX0 k "_law_some_text" (spLawSomeText K)) (c__law_signed : Cl P w K mg base CX0 k "_law_signed" (spLawSigned K)) (c__law_pick : Cl P w K mg base CX0 k "_law_pick" (spLawPick K)) : Cl P w K mg base CX0 (k + 1) "_law_some_value" (spLawSomeValue K) :=
  cl0 F scLawSomeValue (fun vs H Q E h => by obtain ⟨_, e, _⟩ := h; rw [e]; rfl) (fun f cdv A outer s H vs Q E hr h => by
    obtain ⟨R, rfl, ok, q⟩ := h
    refine ⟨_, (pss_cons (ps_set (i := 1) scLawSomeValue.nd rfl (Or.inl rfl) (pc0 c__law_taken hr (Nat.le_refl _) rfl (pa_cons (pv 0) (pa_cons pe_int pa_nil))))
    (pss_cons (ps_if (pt_cmpR op_lt (pv 1) pe_int (nomark _)) (pss_one (ps_ret (pc0 c__law_some_text hr (Nat.le_refl _) rfl (pa_cons (pv 0) (pa_cons (pe_ix ix_list (pe_lst (pa_cons pe_int (pa_cons pe_int (pa_cons pe_int pa_nil)))) (pv 1) (fun _ _ => rfl)) pa_nil))))) pss_nil)
    (pss_one (ps_ret (pe_ifExp (pt_cmpR op_eq (pv 1) pe_int (nomark _)) pe_non (pc0 c__law_signed hr (Nat.le_refl _) rfl (pa_cons (pv 0) (pa_cons (pc0 c__law_pick hr (Nat.le_refl _) rfl (pa_cons (pv 0) (pa_cons (pe_lst (pa_cons pe_int (pa_cons pe_int (pa_cons pe_int (pa_cons (pe_op op_shl pe_int pe_int) pa_nil))))) pa_nil))) pa_nil)))))))), ?_⟩
    refine ⟨_, rfl, R, 6, rfl, by decide, by decide, ok, fun n H1 hn k1 => ?_⟩
    have ok1 := k1.2 ok
    refine ⟨_, rfl, _, _, rfl, rfl, _, rfl, ite2 (fun c => ?_) (fun c => ?_)⟩
    · have c' : (n : Int) < 3 := of_decide_eq_true c
      refine ⟨_, rfl, by decide, fun p hp => ?_⟩
      have k2 : KpR K R H1 (upd H1 p (.lst [V.int 3, V.int 12, V.int 200])) := KpR.new ok1 hp
      obtain ⟨m, hm, hat⟩ : ∃ m : Nat, m ≤ 200 ∧ atI [V.int 3, V.int 12, V.int 200] (n : Int) = some (.int m) := by
        have : n = 0 ∨ n = 1 ∨ n = 2 := by omega
        rcases this with rfl | rfl | rfl
        · exact ⟨3, by decide, rfl⟩
        · exact ⟨12, by decide, rfl⟩
        · exact ⟨200, by decide, rfl⟩
      refine ⟨_, rfl, p, _, _, _, rfl, rfl, .inl (.inl upd_same), hat, R, m, rfl, hm, k2.2 ok1, fun z H' hk ht => q _ _ ((k1.trans k2).trans hk) ?_⟩
      exact text_mono ht hm
    · refine ⟨_, rfl, rfl, _, rfl, ite2 (fun c2 => q _ _ k1 rfl) (fun c2 => ?_)⟩
      refine ⟨_, rfl, _, rfl, 1, 40, rfl, rfl, ⟨by decide, by decide, by decide⟩, by decide, fun p hp => ?_⟩
      have k2 : KpR K R H1 (upd H1 p (.lst [V.int 3, V.int 70, V.int 20000, V.int (1 * 2 ^ (40 : Int).toNat)])) := KpR.new ok1 hp
      refine ⟨R, p, _, rfl, ok1.ne hp, upd_same, by decide, by decide, k2.2 ok1, fun y hy H' hk => ?_⟩
      have key : ∀ m : Int, 0 ≤ m → m ≤ 2 ^ 40 → spLawSigned K [.ref R.r, .int m] H' Q E0 := fun m h0 h1 =>
        ⟨R, m, rfl, h0, h1, hk.2 (k2.2 ok1), fun i H'' hk' g1 g2 => q _ _ (((k1.trans k2).trans hk).trans hk') (by
          show (decide (-(2 ^ 40) ≤ i) && decide (i ≤ 2 ^ 40)) = true
          rw [decide_eq_true (by omega), decide_eq_true (by omega)]
          rfl)⟩
      rcases List.mem_cons.mp hy with rfl | hy
      · exact key 3 (by decide) (by decide)
      rcases List.mem_cons.mp hy with rfl | hy
      · exact key 70 (by decide) (by decide)
      rcases List.mem_cons.mp hy with rfl | hy
      · exact key 20000 (by decide) (by decide)
      rcases List.mem_cons.mp hy with rfl | hy
      · exact key _ (by decide) (by decide)
      · cases hy)
end
end Ms


set_option Elab.async false
set_option linter.all false
set_option maxRecDepth 100000
set_option maxHeartbeats 4000000
/-! # The walk, 11: drawn steps -/
namespace Ms
open PySem PySem.Spec PyProof.Rows L2
theorem step_ok {w : Cs} {many more : Nat} {xs : List V} (hc : cmd w = some (many, more)) (hl : xs.length = many + more) (h1 : (xs.take many).all (isInV 0 (2 ^ 20)) = true) (h2 : more = 0 ∨ isKeyV (xs.getD many .non) = true) (h3 : more ≠ 2 ∨ isValueV (xs.getD (many + 1) .non) = true) : mIsStep (.flat w xs) = true := by
  rw [mIsStep, hc]
  dsimp only
  rw [decide_eq_true hl, h1]
  have e2 : (decide (more = 0) || isKeyV (xs.getD many .non)) = true := by
    rcases h2 with h | h
    · rw [decide_eq_true h]; rfl
    · rw [h, Bool.or_true]
  have e3 : (decide (more ≠ 2) || isValueV (xs.getD (many + 1) .non)) = true := by
    rcases h3 with h | h
    · rw [decide_eq_true h]; rfl
    · rw [h, Bool.or_true]
  rw [e2, e3]
  rfl
def names : List String := ["write", "write", "show", "notes", "tick", "tick", "tick", "flush", "settle", "flight", "alike", "fall", "cut", "heal", "deliver", "lose", "double", "spoil"]
def in1 (s : String) : Bool := inV (.str (S s)) [.str "flush", .str "flight", .str "alike"]
def in2 (s : String) : Bool := inV (.str (S s)) [.str "cut", .str "heal"]
def is_ (s t : String) : Bool := decide (V.str (S s) = V.str (S t))
theorem names_ok : ∀ s ∈ names, (in1 s = true ∧ cmd (cd s) = some (0, 0)) ∨ (in1 s = false ∧ ((in2 s = true ∧ cmd (cd s) = some (2, 0)) ∨ (in2 s = false ∧ ((is_ s "spoil" = true ∧ cmd (cd s) = some (3, 0)) ∨
    (is_ s "spoil" = false ∧ ((is_ s "write" = true ∧ cmd (cd s) = some (1, 2)) ∨ (is_ s "write" = false ∧ ((is_ s "show" = true ∧ cmd (cd s) = some (1, 1)) ∨ (is_ s "show" = false ∧ cmd (cd s) = some (1, 0)))))))))) := by decide +kernel
theorem bd_val {v : V} (h : isValueV v = true) : Bd v := by
  cases v with
  | str z =>
    have h' : isText 200 (TL.tl z) = true := h
    have := text_bd h' (by decide)
    rw [mkS_tl] at this
    exact this
  | _ => exact fun y e => by cases e
theorem bd_key {z : Str} (h : isKeyV (.str z) = true) : Bd (.str z) := by
  rw [isKeyV, Bool.and_eq_true] at h
  have := text_bd h.1 (by decide)
  rw [mkS_tl] at this
  exact this
section
variable {P : Program} {w : World} {K : PySem.W.Frag} {mg : Str → Option Value} {base : Heap} {a : Ad} {k : Nat}
abbrev sLawStep : Stmt := topS 47
theorem scLawStep : FnScope ["_law_row", "_law_many", "_law_words", "_law_word", "_law_one", "_law_two"] ["_law_row", "_law_many"] (defScope sLawStep) := ⟨rfl, rfl, rfl, by decide +kernel, rfl, by decide +kernel, by decide +kernel⟩
def spLawStep (K : PySem.W.Frag) : Sp := fun vs H Q _ => ∃ (R : Row) (many : Nat), vs = [.ref R.r, .int many] ∧ 0 < many ∧ many ≤ 1000 ∧ RowOk K R H ∧
  ∀ v st H', KpR K R H H' → StepAt H' v st → mIsStep st = true → isWorld st = false → okS st → nLinks st ≤ 20 → Q v H'
theorem ok__law_step (F : DefX K mg "_law_step" sLawStep ["_law_row", "_law_many"]) (B : Bu P w K mg a) (c__law_pick : Cl P w K mg base CX0 k "_law_pick" (spLawPick K)) (c__law_taken : Cl P w K mg base CX0 k "_law_taken" (spLawTaken K)) (c__law_some_key : Cl P w K mg base CX0 k "_law_some_key" (spLawSomeKey K)) (c__law_some_value : Cl P w K mg base CX0 k "_law_some_value" (spLawSomeValue K)) : Cl P w K mg base CX0 (k + 1) "_law_step" (spLawStep K) :=
  cl0 F scLawStep (fun vs H Q E h => by obtain ⟨_, _, e, _⟩ := h; rw [e]; rfl) (fun f cdv A outer s H vs Q E hr h => by
    obtain ⟨R, many, rfl, hm0, hm, ok, q⟩ := h
    refine ⟨_, (pss_cons (ps_set (i := 2) scLawStep.nd rfl (Or.inl rfl) (pe_lst (pa_cons pe_str (pa_cons pe_str (pa_cons pe_str (pa_cons pe_str (pa_cons pe_str (pa_cons pe_str (pa_cons pe_str (pa_cons pe_str (pa_cons pe_str (pa_cons pe_str (pa_cons pe_str pa_nil)))))))))))))
    (pss_cons (ps_set (i := 2) scLawStep.nd rfl (Or.inl rfl) (pe_op op_cat (pv 2) (pe_lst (pa_cons pe_str (pa_cons pe_str (pa_cons pe_str pa_nil))))))
    (pss_cons (ps_set (i := 3) scLawStep.nd rfl (Or.inl rfl) (pc0 c__law_pick hr (Nat.le_refl _) rfl (pa_cons (pv 0) (pa_cons (pe_op op_cat (pv 2) (pe_lst (pa_cons pe_str (pa_cons pe_str (pa_cons pe_str (pa_cons pe_str pa_nil)))))) pa_nil))))
    (pss_cons (ps_par (by rfl) scLawStep.nd (i := 4) (j := 5) rfl rfl (by decide) rfl rfl (pa_cons (pc0 c__law_taken hr (Nat.le_refl _) rfl (pa_cons (pv 0) (pa_cons (pv 1) pa_nil))) (pa_cons (pc0 c__law_taken hr (Nat.le_refl _) rfl (pa_cons (pv 0) (pa_cons (pv 1) pa_nil))) pa_nil)) (by rfl))
    (pss_cons (ps_if (pt_cmpR op_in_seq (pv 3) (pe_lst (pa_cons pe_str (pa_cons pe_str (pa_cons pe_str pa_nil)))) (by rfl)) (pss_one (ps_ret (pe_tup (pa_cons (pv 3) pa_nil)))) pss_nil)
    (pss_cons (ps_if (pt_cmpR op_in_seq (pv 3) (pe_lst (pa_cons pe_str (pa_cons pe_str pa_nil))) (by rfl)) (pss_one (ps_ret (pe_tup (pa_cons (pv 3) (pa_cons (pv 4) (pa_cons (pv 5) pa_nil)))))) pss_nil)
    (pss_cons (ps_if (pt_cmpR op_eq (pv 3) pe_str (nomark _)) (pss_one (ps_ret (pe_tup (pa_cons (pv 3) (pa_cons (pc0 c__law_taken hr (Nat.le_refl _) rfl (pa_cons (pv 0) (pa_cons pe_int pa_nil))) (pa_cons (pc0 c__law_taken hr (Nat.le_refl _) rfl (pa_cons (pv 0) (pa_cons pe_int pa_nil))) (pa_cons (pc0 c__law_taken hr (Nat.le_refl _) rfl (pa_cons (pv 0) (pa_cons pe_int pa_nil))) pa_nil))))))) pss_nil)
    (pss_cons (ps_if (pt_cmpR op_eq (pv 3) pe_str (nomark _)) (pss_one (ps_ret (pe_tup (pa_cons (pv 3) (pa_cons (pv 4) (pa_cons (pc0 c__law_some_key hr (Nat.le_refl _) rfl (pa_cons (pv 0) pa_nil)) (pa_cons (pc0 c__law_some_value hr (Nat.le_refl _) rfl (pa_cons (pv 0) pa_nil)) pa_nil))))))) pss_nil)
    (pss_one (ps_ret (pe_ifExp (pt_cmpR op_eq (pv 3) pe_str (nomark _)) (pe_tup (pa_cons (pv 3) (pa_cons (pv 4) (pa_cons (pc0 c__law_some_key hr (Nat.le_refl _) rfl (pa_cons (pv 0) pa_nil)) pa_nil)))) (pe_tup (pa_cons (pv 3) (pa_cons (pv 4) pa_nil)))))))))))))), ?_⟩
    refine ⟨by decide, fun p1 hp1 => ?_⟩
    have k1 : KpR K R H (upd H p1 (.lst [V.str "write", V.str "write", V.str "show", V.str "notes", V.str "tick", V.str "tick", V.str "tick", V.str "flush", V.str "settle", V.str "flight", V.str "alike"])) := KpR.new ok hp1
    have ok1 := k1.2 ok
    refine ⟨_, rfl, by decide, fun p2 hp2 => ⟨p1, p2, _, _, rfl, rfl, same_upd hp2 _ _ upd_same, upd_same, by decide, fun p3 hp3 => ?_⟩⟩
    have k2 := k1.trans (KpR.new (o := .lst [V.str "fall", V.str "cut", V.str "heal"]) ok1 hp2)
    have ok2 := k2.2 ok
    have k3 := k2.trans (KpR.new (o := .lst ([V.str "write", V.str "write", V.str "show", V.str "notes", V.str "tick", V.str "tick", V.str "tick", V.str "flush", V.str "settle", V.str "flight", V.str "alike"] ++ [V.str "fall", V.str "cut", V.str "heal"])) ok2 hp3)
    have ok3 := k3.2 ok
    refine ⟨_, rfl, _, rfl, by decide, fun p4 hp4 => ⟨p3, p4, _, _, rfl, rfl, same_upd hp4 _ _ upd_same, upd_same, by decide, fun p5 hp5 => ?_⟩⟩
    have k4 := k3.trans (KpR.new (o := .lst [V.str "deliver", V.str "lose", V.str "double", V.str "spoil"]) ok3 hp4)
    have ok4 := k4.2 ok
    have k5 := k4.trans (KpR.new (o := .lst (([V.str "write", V.str "write", V.str "show", V.str "notes", V.str "tick", V.str "tick", V.str "tick", V.str "flush", V.str "settle", V.str "flight", V.str "alike"] ++ [V.str "fall", V.str "cut", V.str "heal"]) ++ [V.str "deliver", V.str "lose", V.str "double", V.str "spoil"])) ok4 hp5)
    have ok5 := k5.2 ok
    refine ⟨R, p5, _, rfl, ok4.ne hp5, upd_same, by decide, by decide, ok5, fun y hy H6 k6 => ?_⟩
    have ky := k5.trans k6
    clear k1 k2 k3 k4 k5 ok1 ok2 ok3 ok4
    obtain ⟨s, hs, rfl⟩ : ∃ s ∈ names, y = .str (S s) := by
      have e : ([V.str "write", V.str "write", V.str "show", V.str "notes", V.str "tick", V.str "tick", V.str "tick", V.str "flush", V.str "settle", V.str "flight", V.str "alike"] ++ [V.str "fall", V.str "cut", V.str "heal"]) ++ [V.str "deliver", V.str "lose", V.str "double", V.str "spoil"] = names.map fun s => V.str (S s) := rfl
      rw [e] at hy
      obtain ⟨s, hs, rfl⟩ := List.mem_map.mp hy
      exact ⟨s, hs, rfl⟩
    have ok6 := ky.2 ok
    refine ⟨_, rfl, _, rfl, R, many, rfl, by omega, by omega, ok6, fun n1 H7 hn1 k7 => ⟨_, rfl, _, rfl, R, many, rfl, by omega, by omega, k7.2 ok6, fun n2 H8 hn2 k8 => ⟨_, _, rfl, ?_⟩⟩⟩
    have kz := (ky.trans k7).trans k8
    have okz := kz.2 ok
    clear ky k7 k8 ok6
    have f1 : ∀ n : Nat, (n : Int) < many → isInV 0 (2 ^ 20) (.int n) = true := fun n h => by rw [inV_nat]; exact decide_eq_true (by omega)
    have fin : ∀ (xs : List V) (mn more : Nat) (H' : Hp) (p : Addr), cmd (cd s) = some (mn, more) → KpR K R H H' → H' p = none → xs.length = mn + more → (xs.take mn).all (isInV 0 (2 ^ 20)) = true → (more = 0 ∨ isKeyV (xs.getD mn .non) = true) → (more ≠ 2 ∨ isValueV (xs.getD (mn + 1) .non) = true) → (xs.all flatV = true) → (∀ x ∈ xs, Bd x) →
        Q (.ref p) (upd H' p (.tup (.str (S s) :: xs))) := fun xs mn more H' p hc hk hp hl h1 h2 h3 h4 h5 => by
      have hmem := cmds_ok _ (cmd_mem hc)
      have hcf := cmd_facts hc
      refine q _ (.flat (cd s) xs) _ (hk.trans (KpR.new (hk.2 ok) hp)) ⟨p, rfl, ?_⟩ (step_ok hc hl h1 h2 h3) rfl ⟨hmem.2.2.1, h4, h5, by omega⟩ (by show 4 ≤ 20; decide)
      rw [upd_same, mkS_cd]
    have bI : ∀ i : Int, Bd (.int i) := bd_int
    refine ⟨_, rfl, by decide, fun e1 he1 => ⟨e1, _, rfl, .inl (.inl (.inl upd_same)), rfl, rfl, _, rfl, ?_⟩⟩
    have kz1 := kz.trans (KpR.new (o := .lst [.str "flush", .str "flight", .str "alike"]) okz he1)
    have okz1 := kz1.2 ok
    rcases names_ok s hs with ⟨h1, hc⟩ | ⟨h1, h⟩
    · refine ite2 (fun _ => ?_) (fun g => absurd h1 g)
      exact ⟨_, rfl, sz rfl, fun p hp => fin [] 0 0 _ p hc kz1 hp rfl rfl (.inl rfl) (.inl (by decide)) rfl (fun x hx => by cases hx)⟩
    refine ite2 (fun g => absurd (h1.symm.trans g) (by decide)) (fun _ => ?_)
    refine ⟨_, rfl, by decide, fun e2 he2 => ⟨e2, _, rfl, .inl (.inl (.inl upd_same)), rfl, rfl, _, rfl, ?_⟩⟩
    have kz2 := kz1.trans (KpR.new (o := .lst [.str "cut", .str "heal"]) okz1 he2)
    have okz2 := kz2.2 ok
    rcases h with ⟨h2, hc⟩ | ⟨h2, h⟩
    · refine ite2 (fun _ => ?_) (fun g => absurd h2 g)
      refine ⟨_, rfl, _, rfl, _, rfl, sz rfl, fun p hp => fin [.int n1, .int n2] 2 0 _ p hc kz2 hp rfl ?_ (.inl rfl) (.inl (by decide)) rfl (fun x hx => ?_)⟩
      · show (isInV 0 (2 ^ 20) (.int n1) && (isInV 0 (2 ^ 20) (.int n2) && true)) = true
        rw [f1 n1 hn1, f1 n2 hn2]
        rfl
      · rcases List.mem_cons.mp hx with rfl | hx
        · exact bI _
        · rcases List.mem_cons.mp hx with rfl | hx
          · exact bI _
          · cases hx
    refine ite2 (fun g => absurd (h2.symm.trans g) (by decide)) (fun _ => ?_)
    rcases h with ⟨h3, hc⟩ | ⟨h3, h⟩
    · refine ⟨_, rfl, rfl, _, rfl, ite2 (fun _ => ?_) (fun g => absurd h3 g)⟩
      refine ⟨_, rfl, _, rfl, R, 2, rfl, by decide, by decide, okz2, fun m1 H9 hm1 k9 => ⟨_, rfl, R, 9, rfl, by decide, by decide, k9.2 okz2, fun m2 H10 hm2 k10 => ⟨_, rfl, R, 256, rfl, by decide, by decide, k10.2 (k9.2 okz2), fun m3 H11 hm3 k11 => ?_⟩⟩⟩
      refine ⟨sz rfl, fun p hp => fin [.int m1, .int m2, .int m3] 3 0 _ p hc (((kz2.trans k9).trans k10).trans k11) hp rfl ?_ (.inl rfl) (.inl (by decide)) rfl (fun x hx => ?_)⟩
      · show (isInV 0 (2 ^ 20) (.int m1) && (isInV 0 (2 ^ 20) (.int m2) && (isInV 0 (2 ^ 20) (.int m3) && true))) = true
        rw [inV_nat, inV_nat, inV_nat, decide_eq_true (by omega), decide_eq_true (by omega), decide_eq_true (by omega)]
        rfl
      · rcases List.mem_cons.mp hx with rfl | hx
        · exact bI _
        · rcases List.mem_cons.mp hx with rfl | hx
          · exact bI _
          · rcases List.mem_cons.mp hx with rfl | hx
            · exact bI _
            · cases hx
    refine ⟨_, rfl, rfl, _, rfl, ite2 (fun g => absurd (h3.symm.trans g) (by decide)) (fun _ => ?_)⟩
    have t1 : (List.take 1 [V.int n1]).all (isInV 0 (2 ^ 20)) = true := by
      show (isInV 0 (2 ^ 20) (.int n1) && true) = true
      rw [f1 n1 hn1]
      rfl
    rcases h with ⟨h4, hc⟩ | ⟨h4, h⟩
    · refine ⟨_, rfl, rfl, _, rfl, ite2 (fun _ => ?_) (fun g => absurd h4 g)⟩
      refine ⟨_, rfl, _, rfl, _, rfl, R, rfl, okz2, fun z H9 k9 hz => ⟨_, rfl, R, rfl, k9.2 okz2, fun v H10 k10 hv => ?_⟩⟩
      refine ⟨sz rfl, fun p hp => fin [.int n1, .str z, v] 1 2 _ p hc ((kz2.trans k9).trans k10) hp rfl t1 (.inr hz) (.inr hv) ?_ (fun x hx => ?_)⟩
      · show (true && (true && (flatV v && true))) = true
        rw [val_flat hv]
        rfl
      · rcases List.mem_cons.mp hx with rfl | hx
        · exact bI _
        · rcases List.mem_cons.mp hx with rfl | hx
          · exact bd_key hz
          · rcases List.mem_cons.mp hx with rfl | hx
            · exact bd_val hv
            · cases hx
    refine ⟨_, rfl, rfl, _, rfl, ite2 (fun g => absurd (h4.symm.trans g) (by decide)) (fun _ => ?_)⟩
    rcases h with ⟨h5, hc⟩ | ⟨h5, hc⟩
    · refine ⟨_, rfl, rfl, _, rfl, ite2 (fun _ => ?_) (fun g => absurd h5 g)⟩
      refine ⟨_, rfl, _, rfl, _, rfl, R, rfl, okz2, fun z H9 k9 hz => ?_⟩
      refine ⟨sz rfl, fun p hp => fin [.int n1, .str z] 1 1 _ p hc (kz2.trans k9) hp rfl t1 (.inr hz) (.inl (by decide)) rfl (fun x hx => ?_)⟩
      rcases List.mem_cons.mp hx with rfl | hx
      · exact bI _
      · rcases List.mem_cons.mp hx with rfl | hx
        · exact bd_key hz
        · cases hx
    · refine ⟨_, rfl, rfl, _, rfl, ite2 (fun g => absurd (h5.symm.trans g) (by decide)) (fun _ => ?_)⟩
      refine ⟨_, rfl, _, rfl, sz rfl, fun p hp => fin [.int n1] 1 0 _ p hc kz2 hp rfl t1 (.inl rfl) (.inl (by decide)) rfl (fun x hx => ?_)⟩
      rcases List.mem_cons.mp hx with rfl | hx
      · exact bI _
      · cases hx)
end
end Ms


set_option Elab.async false
set_option linter.all false
set_option maxRecDepth 100000
set_option maxHeartbeats 4000000
/-! # The walk, 12: drawn links, drawn scripts -/
namespace Ms
open PySem PySem.Spec PyProof.Rows L2
theorem KpR.same {K : PySem.W.Frag} {R : Row} {H H1 : Hp} (s : Same H H1) : KpR K R H H1 :=
  ⟨fun b o _ e => s b o e, fun ⟨i, s', t, h1, h2, h3⟩ => ⟨i, s', t, s _ _ h1, sql_ne h2 fun o e _ => s _ _ e, h3⟩⟩
def PairV (H : Hp) (y : V) : Prop := ∃ (b : Addr) (p : Nat × Nat), y = .ref b ∧ PairAt H b p ∧ p.1 ≤ 9 ∧ p.2 ≤ 9
theorem PairV.keep {H H' : Hp} {y : V} (h : PairV H y) (k : TupK H H') : PairV H' y := by
  obtain ⟨b, p, e, g, h1, h2⟩ := h
  exact ⟨b, p, e, g.keep k, h1, h2⟩
def PL (H : Hp) (l : Addr) (n : Nat) : Prop := ∃ ys : List V, H l = some (.lst ys) ∧ ys.length ≤ n ∧ ∀ y ∈ ys, PairV H y
theorem PL.keep {H H' : Hp} {l : Addr} {n : Nat} (h : PL H l n) (s : Same H H') : PL H' l n := by
  obtain ⟨ys, e, g, h⟩ := h
  exact ⟨ys, s _ _ e, g, fun y hy => (h y hy).keep (Same.tk s)⟩
theorem PL.mono {H : Hp} {l : Addr} {m n : Nat} (h : PL H l m) (hn : m ≤ n) : PL H l n := by
  obtain ⟨ys, e, g, h⟩ := h
  exact ⟨ys, e, Nat.le_trans g hn, h⟩
/-- keys of a set of pairs -/
theorem keys_of {K : PySem.W.Frag} {H : Hp} : ∀ {ys : List V}, (∀ y ∈ ys, PairV H y) → ∃ ks : List (Addr × List Int), (ks.map fun p => V.ref p.1) = ys ∧ ks.length = ys.length ∧ ∀ q ∈ ks, ∃ p : Nat × Nat, q.2 = [(p.1 : Int), (p.2 : Int)] ∧ PairAt H q.1 p ∧ p.1 ≤ 9 ∧ p.2 ≤ 9
  | [], _ => ⟨[], rfl, rfl, fun _ h => by cases h⟩
  | y :: ys, h => by
    obtain ⟨ks, h1, h2, h3⟩ := keys_of (K := K) (ys := ys) fun z hz => h z (List.mem_cons_of_mem _ hz)
    obtain ⟨b, p, rfl, hp, g1, g2⟩ := h y List.mem_cons_self
    refine ⟨(b, [(p.1 : Int), (p.2 : Int)]) :: ks, by rw [List.map_cons, h1], by rw [List.length_cons, List.length_cons, h2], fun q hq => ?_⟩
    rcases List.mem_cons.mp hq with rfl | hq
    · exact ⟨p, rfl, hp, g1, g2⟩
    · exact h3 q hq
theorem links_mk {H : Hp} : ∀ {L : List (Addr × List Int)}, (∀ q ∈ L, ∃ p : Nat × Nat, PairAt H q.1 p ∧ p.1 ≤ 9 ∧ p.2 ≤ 9) → ∃ ls : List (Nat × Nat), Paired (PairAt H) (L.map (·.1)) ls ∧ ls.all okP = true
  | [], _ => ⟨[], .nil, rfl⟩
  | q :: L, h => by
    obtain ⟨ls, h1, h2⟩ := links_mk (L := L) fun z hz => h z (List.mem_cons_of_mem _ hz)
    obtain ⟨p, hp, g1, g2⟩ := h q List.mem_cons_self
    refine ⟨p :: ls, .cons hp h1, ?_⟩
    rw [List.all_cons, h2, okP, decide_eq_true (by omega), decide_eq_true (by omega)]
    rfl
theorem pl_of {H : Hp} {D : Addr} {ys : List V} {n : Nat} (h : H D = some (.lst ys)) (hl : ys.length = n) (hF : ∀ (j : Nat) (y : V), ys[j]? = some y → PairV H y) : PL H D n :=
  ⟨ys, h, by omega, fun y hy => by
    obtain ⟨j, hj⟩ := List.mem_iff_getElem?.mp hy
    exact hF j y hj⟩
section
variable {P : Program} {w : World} {K : PySem.W.Frag} {mg : Str → Option Value} {base : Heap} {a : Ad} {k : Nat}
abbrev sLawLinks : Stmt := topS 40
theorem scLawLinks : FnScope ["_law_row", "_law_many", "_law_rows", "_law_way", "_law_line_here", "_law_k"] ["_law_row", "_law_many"] (defScope sLawLinks) := ⟨rfl, rfl, rfl, by decide +kernel, rfl, by decide +kernel, by decide +kernel⟩
def spLawLinks (K : PySem.W.Frag) : Sp := fun vs H Q _ => ∃ (R : Row) (many : Nat), vs = [.ref R.r, .int many] ∧ 2 ≤ many ∧ many ≤ 4 ∧ RowOk K R H ∧ ∀ l ls H', KpR K R H H' → LinksAt H' l ls → ls.length ≤ 64 → ls.all okP = true → Q (.ref l) H'
theorem ok__law_links (F : DefX K mg "_law_links" sLawLinks ["_law_row", "_law_many"]) (B : Bu P w K mg a) (c__law_taken : Cl P w K mg base CX0 k "_law_taken" (spLawTaken K)) : Cl P w K mg base CX0 (k + 1) "_law_links" (spLawLinks K) :=
  cl0 F scLawLinks (fun vs H Q E h => by obtain ⟨_, _, e, _⟩ := h; rw [e]; rfl) (fun f cdv A outer s H vs Q E hr h => by
    obtain ⟨R, many, rfl, hm2, hm4, ok, q⟩ := h
    refine ⟨_, (pss_cons (ps_par (by rfl) scLawLinks.nd (i := 3) (j := 4) rfl rfl (by decide) rfl rfl (pa_cons (pc0 c__law_taken hr (Nat.le_refl _) rfl (pa_cons (pv 0) (pa_cons pe_int pa_nil))) (pa_cons (pe_lc (own := [("_law_k", 5)]) (g := (gName 5)) (tt := tYes) rfl scLawLinks.nd (pi_range1 (by rfl) B.b_range (pa_cons (pe_op op_sub (pv 1) pe_int) pa_nil)) (blkOk_by (own := [("_law_k", 5)]) (N := ["_law_row", "_law_many", "_law_rows", "_law_way", "_law_line_here", "_law_k"]) (sc := defScope sLawLinks) (by decide +kernel)) (fun _ _ _ _ _ => (pg_name (i := 5) scLawLinks.nd rfl (Or.inl rfl))) (fun _ _ _ _ _ => pts_nil) (fun _ _ _ _ _ => (pe_tup (pa_cons (pv 5) (pa_cons (pe_op op_add (pv 5) pe_int) pa_nil))))) pa_nil)) (by rfl))
    (pss_cons (ps_set (i := 2) scLawLinks.nd rfl (Or.inl rfl) (pe_lst (pa_cons (pv 4) (pa_cons (pe_lc (own := [("_law_k", 5)]) (g := (gName 5)) (tt := tYes) rfl scLawLinks.nd (pi_range2 (by rfl) B.b_range (pa_cons pe_int (pa_cons (pv 1) pa_nil))) (blkOk_by (own := [("_law_k", 5)]) (N := ["_law_row", "_law_many", "_law_rows", "_law_way", "_law_line_here", "_law_k"]) (sc := defScope sLawLinks) (by decide +kernel)) (fun _ _ _ _ _ => (pg_name (i := 5) scLawLinks.nd rfl (Or.inl rfl))) (fun _ _ _ _ _ => pts_nil) (fun _ _ _ _ _ => (pe_tup (pa_cons pe_int (pa_cons (pv 5) pa_nil))))) (pa_cons (pe_op op_cat (pv 4) (pe_lst (pa_cons (pe_tup (pa_cons pe_int (pa_cons (pe_op op_sub (pv 1) pe_int) pa_nil))) pa_nil))) pa_nil)))))
    (pss_cons (ps_set (i := 2) scLawLinks.nd rfl (Or.inl rfl) (pe_op op_cat (pv 2) (pe_lst (pa_cons (pe_op op_cat (pv 4) (pe_lc (own := [("_law_k", 5)]) (g := (gName 5)) (tt := tYes) rfl scLawLinks.nd (pi_range1 (by rfl) B.b_range (pa_cons (pe_op op_sub (pv 1) pe_int) pa_nil)) (blkOk_by (own := [("_law_k", 5)]) (N := ["_law_row", "_law_many", "_law_rows", "_law_way", "_law_line_here", "_law_k"]) (sc := defScope sLawLinks) (by decide +kernel)) (fun _ _ _ _ _ => (pg_name (i := 5) scLawLinks.nd rfl (Or.inl rfl))) (fun _ _ _ _ _ => pts_nil) (fun _ _ _ _ _ => (pe_tup (pa_cons (pv 5) (pa_cons (pe_op op_sub (pv 1) pe_int) pa_nil)))))) pa_nil))))
    (pss_one (ps_ret (pe_callTy call_tuple_of (by rfl) B.b_tuple bt_tuple (pa_cons (pe_callB (cr_sortedT rfl) (by rfl) B.b_sorted bt_sorted (pa_cons (pe_callTy (cr_setOfT rfl hr.units) (by rfl) B.b_set bt_set (pa_cons (pe_ix ix_list (pv 2) (pv 3) (fun _ _ => rfl)) pa_nil)) pa_nil)) pa_nil))))))), ?_⟩
    refine ⟨_, rfl, R, 4, rfl, by decide, by decide, ok, fun way H1 hway k1 => ⟨_, rfl, _, _, rfl, rfl, _, rfl, by omega, by omega, fun D1 hD1 => ?_⟩⟩
    have ok1 := k1.2 ok
    have hn : ((many : Int) - 1).toNat = many - 1 := by omega
    rw [hn]
    refine lc_mapS walk_range (fun j x => x = .int (0 + (j : Int))) (fun j y H' => PairV H' y) (by omega) hD1 (fun i H x H' h => h) (fun H1 hs => trivial) (fun j y H1 H2 h tk => h.keep tk) ?_ ?_
    · rintro j x H2 r hj rfl hs hr
      refine ⟨wipe1, _, slot1 (by show 5 < 6; decide), _, slot1 (by show 5 < 6; decide), _, _, rfl, rfl, sz rfl, fun p hp => hr _ _ (same_upd hp) ⟨p, (j, j + 1), rfl, ?_, by show j ≤ 9; omega, by show j + 1 ≤ 9; omega⟩⟩
      show upd H2 p _ p = _
      rw [upd_same]
      refine congrArg (fun l => some (HO.tup l)) ?_
      have e1 : (0 : Int) + (j : Int) = ((j : Nat) : Int) := by omega
      have e2 : (0 : Int) + (j : Int) + 1 = ((j + 1 : Nat) : Int) := by omega
      show [V.int (0 + (j : Int)), V.int (0 + (j : Int) + 1)] = [V.int ((j : Nat) : Int), V.int ((j + 1 : Nat) : Int)]
      rw [e2, e1]
    intro ys1 H2 s2 hl1 hlen1 hF1
    have P1 : PL H2 D1 4 := (pl_of hl1 hlen1 hF1).mono (by omega)
    refine ⟨_, _, rfl, ?_⟩
    refine ⟨_, rfl, _, rfl, _, _, rfl, ⟨by omega, by omega, by omega, by omega⟩, fun D2 hD2 => ?_⟩
    have hn2 : ((many : Int) - 1).toNat = many - 1 := by omega
    rw [hn2]
    refine lc_mapS walk_range (fun j x => x = .int (1 + (j : Int))) (fun j y H' => PairV H' y) (by omega) hD2 (fun i H x H' h => h) (fun H1 hs => trivial) (fun j y H1 H2 h tk => h.keep tk) ?_ ?_
    · rintro j x H3 r hj rfl hs hr
      refine ⟨wipe1, _, slot1 (by show 5 < 6; decide), sz rfl, fun p hp => hr _ _ (same_upd hp) ⟨p, (0, 1 + j), rfl, ?_, by show 0 ≤ 9; omega, by show 1 + j ≤ 9; omega⟩⟩
      show upd H3 p _ p = _
      rw [upd_same]
      refine congrArg (fun l => some (HO.tup l)) ?_
      have e1 : (1 : Int) + (j : Int) = ((1 + j : Nat) : Int) := by omega
      rw [e1]
      rfl
    intro ys2 H3 s3 hl2 hlen2 hF2
    have P2 : PL H3 D2 4 := (pl_of hl2 hlen2 hF2).mono (by omega)
    have P1' := P1.keep s3
    obtain ⟨zs1, hz1, hzl1, hzP1⟩ := P1'
    refine ⟨_, rfl, _, rfl, _, _, rfl, rfl, sz rfl, fun p hp => ⟨sz rfl, fun l2 hl2' => ?_⟩⟩
    have s4 := (same_upd (o := .tup [.int 0, .int ((many : Int) - 1)]) hp).trans (same_upd (o := .lst [.ref p]) hl2')
    have hp4 : PairV (upd (upd H3 p (.tup [.int 0, .int ((many : Int) - 1)])) l2 (.lst [.ref p])) (.ref p) := by
      refine ⟨p, (0, many - 1), rfl, same_upd hl2' _ _ ?_, by show 0 ≤ 9; omega, by show many - 1 ≤ 9; omega⟩
      rw [upd_same]
      refine congrArg (fun l => some (HO.tup l)) ?_
      have e1 : (many : Int) - 1 = ((many - 1 : Nat) : Int) := by omega
      show [V.int 0, V.int ((many : Int) - 1)] = [V.int 0, V.int ((many - 1 : Nat) : Int)]
      rw [e1]
    refine ⟨D1, l2, _, _, rfl, rfl, s4 _ _ hz1, upd_same, ?_, fun l3 hl3 => ?_⟩
    · refine Nat.le_trans (m := 10) ?_ (by decide)
      show zs1.length + 1 ≤ 10
      omega
    have s5 := s4.trans (same_upd (o := .lst (zs1 ++ [.ref p])) hl3)
    have P3 : PL (upd (upd (upd H3 p (.tup [.int 0, .int ((many : Int) - 1)])) l2 (.lst [.ref p])) l3 (.lst (zs1 ++ [.ref p]))) l3 9 := by
      refine ⟨_, upd_same, by rw [List.length_append]; show zs1.length + 1 ≤ 9; omega, fun y hy => ?_⟩
      have tk := Same.tk (same_upd (o := .lst (zs1 ++ [.ref p])) hl3)
      rcases List.mem_append.mp hy with hy | hy
      · exact ((hzP1 y hy).keep (Same.tk s4)).keep tk
      · rcases List.mem_cons.mp hy with rfl | hy
        · exact hp4.keep tk
        · cases hy
    refine ⟨sz rfl, fun rw1 hrw1 => ?_⟩
    have s6 := s5.trans (same_upd (o := .lst [.ref D1, .ref D2, .ref l3]) hrw1)
    have P3' := P3.keep (same_upd (o := .lst [.ref D1, .ref D2, .ref l3]) hrw1)
    have hr6 := upd_same (H := upd (upd (upd H3 p (.tup [.int 0, .int ((many : Int) - 1)])) l2 (.lst [.ref p])) l3 (.lst (zs1 ++ [.ref p]))) (a := rw1) (o := .lst [.ref D1, .ref D2, .ref l3])
    have P1'' := (P1.keep s3).keep s6
    have P2'' := P2.keep s6
    have sA := (s2.trans s3).trans s6
    show tSeq _ _ _ _ (upd (upd (upd (upd H3 p (.tup [.int 0, .int ((many : Int) - 1)])) l2 (.lst [.ref p])) l3 (.lst (zs1 ++ [.ref p]))) rw1 (.lst [.ref D1, .ref D2, .ref l3]))
    generalize upd (upd (upd (upd H3 p (.tup [.int 0, .int ((many : Int) - 1)])) l2 (.lst [.ref p])) l3 (.lst (zs1 ++ [.ref p]))) rw1 (.lst [.ref D1, .ref D2, .ref l3]) = H6 at s6 P3' hr6 P1'' P2'' sA ⊢
    refine ⟨_, rfl, _, rfl, _, rfl, _, _, rfl, rfl, _, rfl, by omega, by omega, fun D3 hD3 => ?_⟩
    rw [hn]
    refine lc_mapS walk_range (fun j x => x = .int (0 + (j : Int))) (fun j y H' => PairV H' y) (by omega) hD3 (fun i H x H' h => h) (fun H1 hs => trivial) (fun j y H1 H2 h tk => h.keep tk) ?_ ?_
    · rintro j x H7 r hj rfl hs hr
      refine ⟨wipe1, _, slot1 (by show 5 < 6; decide), _, rfl, _, _, rfl, rfl, sz rfl, fun p hp => hr _ _ (same_upd hp) ⟨p, (j, many - 1), rfl, ?_, by show j ≤ 9; omega, by show many - 1 ≤ 9; omega⟩⟩
      show upd H7 p _ p = _
      rw [upd_same]
      refine congrArg (fun l => some (HO.tup l)) ?_
      have e1 : (0 : Int) + (j : Int) = ((j : Nat) : Int) := by omega
      have e2 : (many : Int) - 1 = ((many - 1 : Nat) : Int) := by omega
      show [V.int (0 + (j : Int)), V.int ((many : Int) - 1)] = [V.int ((j : Nat) : Int), V.int ((many - 1 : Nat) : Int)]
      rw [e2, e1]
    intro ys3 H7 s7 hl3' hlen3 hF3
    obtain ⟨zs2, hz2, hzl2, hzP2⟩ := P1''.keep s7
    refine ⟨D1, D3, _, _, rfl, rfl, hz2, hl3', ?_, fun l4 hl4 => ⟨sz rfl, fun l5 hl5 => ?_⟩⟩
    · refine Nat.le_trans (m := 10) ?_ (by decide)
      omega
    have s8 := same_upd (o := .lst (zs2 ++ ys3)) hl4
    have s9 := s8.trans (same_upd (o := .lst [.ref l4]) hl5)
    have P4 : PL (upd H7 l4 (.lst (zs2 ++ ys3))) l4 9 := by
      refine ⟨_, upd_same, by rw [List.length_append]; omega, fun y hy => ?_⟩
      rcases List.mem_append.mp hy with hy | hy
      · exact (hzP2 y hy).keep (Same.tk s8)
      · obtain ⟨j, hj⟩ := List.mem_iff_getElem?.mp hy
        exact (hF3 j y hj).keep (Same.tk s8)
    refine ⟨rw1, l5, _, _, rfl, rfl, s9 _ _ (s7 _ _ hr6), upd_same, (by show 3 + 1 ≤ sizeLine; decide), fun rw2 hrw2 => ?_⟩
    have s10 := same_upd (o := .lst ([.ref D1, .ref D2, .ref l3] ++ [.ref l4])) hrw2
    have Q1 := (((P1''.keep s7).keep s9).keep s10).mono (show 4 ≤ 9 by decide)
    have Q2 := (((P2''.keep s7).keep s9).keep s10).mono (show 4 ≤ 9 by decide)
    have Q3 := ((P3'.keep s7).keep s9).keep s10
    have Q4 := (P4.keep (same_upd (o := .lst [.ref l4]) hl5)).keep s10
    have hrw := upd_same (H := upd (upd H7 l4 (.lst (zs2 ++ ys3))) l5 (.lst [.ref l4])) (a := rw2) (o := .lst ([.ref D1, .ref D2, .ref l3] ++ [.ref l4]))
    have sB := ((sA.trans s7).trans s9).trans s10
    generalize upd (upd (upd H7 l4 (.lst (zs2 ++ ys3))) l5 (.lst [.ref l4])) rw2 (.lst ([.ref D1, .ref D2, .ref l3] ++ [.ref l4])) = H8 at Q1 Q2 Q3 Q4 hrw sB ⊢
    obtain ⟨lw, hat, ys, hlw, hlen, hys⟩ : ∃ lw, atI ([V.ref D1, V.ref D2, V.ref l3] ++ [V.ref l4]) (way : Int) = some (.ref lw) ∧ PL H8 lw 9 := by
      have : way = 0 ∨ way = 1 ∨ way = 2 ∨ way = 3 := by omega
      rcases this with rfl | rfl | rfl | rfl
      · exact ⟨D1, rfl, Q1⟩
      · exact ⟨D2, rfl, Q2⟩
      · exact ⟨l3, rfl, Q3⟩
      · exact ⟨l4, rfl, Q4⟩
    obtain ⟨ks, hk1, hk2, hk3⟩ := keys_of (K := K) hys
    refine ⟨_, rfl, _, rfl, rw2, _, _, _, rfl, rfl, .inl (.inl hrw), hat, lw, ks, rfl, .inl (.inl (by rw [hk1]; exact hlw)), fun q hq => ?_, by omega, fun sa L hsa hL1 hL2 => ?_⟩
    · obtain ⟨pr, e, hp, _⟩ := hk3 q hq
      rw [e]
      exact .inl (.inl hp)
    have s11 := same_upd (o := SetTO P w sa L) hsa
    refine ⟨sa, L, 2, 10, rfl, upd_same, fun q hq => ?_, by decide, fun q hq => ?_, fun L' sp hperm hnd hlen' _ hsp => ?_⟩
    · obtain ⟨pr, e, hp, _⟩ := hk3 q (hL1 q hq)
      rw [e]
      exact .inl (.inl (hp.keep (Same.tk s11)))
    · obtain ⟨pr, e, hp, g1, g2⟩ := hk3 q (hL1 q hq)
      rw [e]
      refine ⟨rfl, fun m hm => ?_⟩
      rcases List.mem_cons.mp hm with rfl | hm
      · omega
      · rcases List.mem_cons.mp hm with rfl | hm
        · omega
        · cases hm
    have s12 := s11.trans (same_upd (o := .lst (L'.map fun q => V.ref q.1)) hsp)
    refine ⟨sp, _, rfl, .inl ⟨.inl (.inl upd_same), fun t ht => ?_⟩⟩
    have s13 := s12.trans (same_upd (o := .tup (L'.map fun q => V.ref q.1)) ht)
    obtain ⟨ls, hls1, hls2⟩ := links_mk (L := L') (H := H8) fun q hq => by
      obtain ⟨pr, e, hp, g1, g2⟩ := hk3 q (hL1 q (hperm.mem_iff.mp hq))
      exact ⟨pr, hp, g1, g2⟩
    refine q t ls _ (k1.trans (KpR.same (sB.trans s13))) ⟨L'.map (·.1), ?_, L2.Paired.mapP hls1 fun _ _ h => h.keep (Same.tk s13)⟩ ?_ hls2
    · rw [upd_same, List.map_map]
      rfl
    · have := Paired.len hls1
      rw [List.length_map] at this
      omega)
abbrev sLawScript : Stmt := topS 48
theorem scLawScript : FnScope ["_law_row", "_law_many", "_law_steps", "_law_k"] ["_law_row"] (defScope sLawScript) := ⟨rfl, rfl, rfl, by decide +kernel, rfl, by decide +kernel, by decide +kernel⟩
def spLawScript (K : PySem.W.Frag) : Sp := fun vs H Q _ => ∃ (R : Row), vs = [.ref R.r] ∧ RowOk K R H ∧
  ∀ b ws sts H', KpR K R H H' → H' b = some (.tup ws) → StepsAt H' ws sts → OkFrom 0 sts → (∀ st ∈ sts, okS st ∧ nLinks st ≤ 64) → 1 ≤ sts.length → sts.length ≤ 20 → Q (.ref b) H'
theorem sts_of {H : Hp} : ∀ {ys : List V}, (∀ (j : Nat) (y : V), ys[j]? = some y → ∃ st, StepAt H y st ∧ mIsStep st = true ∧ isWorld st = false ∧ okS st ∧ nLinks st ≤ 64) →
    ∃ sts : List Stp, StepsAt H ys sts ∧ ∀ st ∈ sts, mIsStep st = true ∧ isWorld st = false ∧ okS st ∧ nLinks st ≤ 64
  | [], _ => ⟨[], .nil, fun _ h => by cases h⟩
  | y :: ys, h => by
    obtain ⟨sts, h1, h2⟩ := sts_of (ys := ys) fun j y' hj => h (j + 1) y' (by simpa using hj)
    obtain ⟨st, g1, g2⟩ := h 0 y rfl
    refine ⟨st :: sts, .cons g1 h1, fun s hs => ?_⟩
    rcases List.mem_cons.mp hs with rfl | hs
    · exact g2
    · exact h2 s hs
theorem ok__law_script (F : DefX K mg "_law_script" sLawScript ["_law_row"]) (B : Bu P w K mg a) (c__law_taken : Cl P w K mg base CX0 k "_law_taken" (spLawTaken K)) (c__law_links : Cl P w K mg base CX0 k "_law_links" (spLawLinks K)) (c__law_step : Cl P w K mg base CX0 k "_law_step" (spLawStep K)) : Cl P w K mg base CX0 (k + 1) "_law_script" (spLawScript K) :=
  cl0 F scLawScript (fun vs H Q E h => by obtain ⟨_, e, _⟩ := h; rw [e]; rfl) (fun f cdv A outer s H vs Q E hr h => by
    obtain ⟨R, rfl, ok, q⟩ := h
    refine ⟨_, (pss_cons (ps_set (i := 1) scLawScript.nd rfl (Or.inr rfl) (pe_op op_add pe_int (pc0 c__law_taken hr (Nat.le_refl _) rfl (pa_cons (pv 0) (pa_cons pe_int pa_nil)))))
    (pss_cons (ps_set (i := 2) scLawScript.nd rfl (Or.inl rfl) (pe_lst (pa_cons (pe_tup (pa_cons pe_str (pa_cons (pv 1) (pa_cons (pc0 c__law_links hr (Nat.le_refl _) rfl (pa_cons (pv 0) (pa_cons (pv 1) pa_nil))) pa_nil)))) pa_nil)))
    (pss_one (ps_ret (pe_callTy call_tuple_of (by rfl) B.b_tuple bt_tuple (pa_cons (pe_op op_cat (pv 2) (pe_lc (own := [("_law_k", 3)]) (g := (gName 3)) (tt := tYes) rfl scLawScript.nd (pi_range1 (by rfl) B.b_range (pa_cons (pc0 c__law_taken hr (Nat.le_refl _) rfl (pa_cons (pv 0) (pa_cons pe_int pa_nil))) pa_nil)) (blkOk_by (own := [("_law_k", 3)]) (N := ["_law_row", "_law_many", "_law_steps", "_law_k"]) (sc := defScope sLawScript) (by decide +kernel)) (fun _ _ _ _ _ => (pg_name (i := 3) scLawScript.nd rfl (Or.inl rfl))) (fun _ _ _ _ _ => pts_nil) (fun _ _ _ _ _ => (pc0 c__law_step hr (Nat.le_refl _) rfl (pa_cons (pv 0) (pa_cons (pv 1) pa_nil)))))) pa_nil)))))), ?_⟩
    refine ⟨_, rfl, R, 3, rfl, by decide, by decide, ok, fun n0 H1 hn0 k1 => ⟨_, _, rfl, rfl, ?_⟩⟩
    have ok1 := k1.2 ok
    have em : (2 : Int) + (n0 : Int) = ((2 + n0 : Nat) : Int) := by omega
    refine ⟨_, rfl, _, rfl, _, rfl, R, 2 + n0, ?_, by omega, by omega, ok1, fun l ls H2 k2 hls hlen hokp => ⟨sz rfl, fun t ht => ⟨sz rfl, fun sl hsl => ?_⟩⟩⟩
    · show [V.ref R.r, V.int (2 + (n0 : Int))] = _
      rw [em]
    have ok2 := k2.2 ok1
    have s3 := (same_upd (o := .tup [.str "world", .int (2 + (n0 : Int)), .ref l]) ht).trans (same_upd (o := .lst [.ref t]) hsl)
    have hw : StepAt (upd (upd H2 t (.tup [.str "world", .int (2 + (n0 : Int)), .ref l])) sl (.lst [.ref t])) (.ref t) (.world (2 + n0) ls) := by
      refine ⟨t, l, rfl, same_upd hsl _ _ ?_, hls.keep (Same.tk s3)⟩
      rw [upd_same]
      show some (HO.tup [V.str (S "world"), V.int (2 + (n0 : Int)), V.ref l]) = _
      rw [em]
    have hsl3 := upd_same (H := upd H2 t (.tup [.str "world", .int (2 + (n0 : Int)), .ref l])) (a := sl) (o := .lst [.ref t])
    have k3 := k2.trans (KpR.same s3)
    have ok3 := k3.2 ok1
    dsimp only
    have hslr : sl ≠ R.r := ok2.ne (by
      cases e : H2 sl with
      | none => rfl
      | some o =>
        have := same_upd (o := .tup [.str "world", .int (2 + (n0 : Int)), .ref l]) ht _ _ e
        have h' : upd H2 t (.tup [.str "world", .int (2 + (n0 : Int)), .ref l]) sl = none := hsl
        rw [this] at h'
        cases h')
    generalize upd (upd H2 t (.tup [.str "world", .int (2 + (n0 : Int)), .ref l])) sl (.lst [.ref t]) = H3 at s3 hw hsl3 k3 ok3 ⊢
    refine ⟨_, rfl, _, rfl, R, 20, rfl, by decide, by decide, ok3, fun n H4 hn k4 => ⟨_, rfl, by omega, by omega, fun D hD => ?_⟩⟩
    have ok4 := k4.2 ok3
    rw [Int.toNat_natCast]
    refine lc_map walk_range (fun j x => True) (KpR K R) (fun j y H' => ∃ st, StepAt H' y st ∧ mIsStep st = true ∧ isWorld st = false ∧ okS st ∧ nLinks st ≤ 64) (by omega) (fun i H x H' h => ⟨h.1, trivial⟩) (KpR.refl _) (fun _ _ _ a b => a.trans b) (fun H2 o h => h.upd ok4 hD)
      (fun H2 H3 acc h2 h3 e => h3.1 _ _ (ok4.ne hD) e) (fun H2 h => trivial) (fun H2 H3 h2 h3 => h3.tk (h2.2 ok4)) (fun j y H2 H3 ⟨st, h, g⟩ tk => ⟨st, h.keep tk, g⟩) ?_ ?_
    · intro j x H5 R' hj hx hk r
      refine ⟨wipe1, _, rfl, _, rfl, R, 2 + n0, ?_, by omega, by omega, hk.2 ok4, fun v st H6 k6 hst h1 h2 h3 h4 => r _ _ k6 ⟨st, hst, h1, h2, h3, Nat.le_trans h4 (by decide)⟩⟩
      show [V.ref R.r, V.int (2 + (n0 : Int))] = _
      rw [em]
    · intro ys H5 k5 hD5 hlen5 hF
      obtain ⟨sts, hst, hall⟩ := sts_of hF
      have k35 := k4.trans k5
      have hw5 := hw.keep (k35.tk ok3)
      have hl := Paired.len hst
      refine ⟨sl, D, _, _, rfl, rfl, k35.1 _ _ hslr hsl3, hD5, ?_, fun c hc => ?_⟩
      · refine Nat.le_trans (m := 100) ?_ (by decide)
        show 1 + ys.length ≤ 100
        omega
      refine ⟨c, _, rfl, .inl ⟨.inl (.inl upd_same), fun b hb => ?_⟩⟩
      have s6 := (same_upd (o := .lst ([.ref t] ++ ys)) hc).trans (same_upd (o := .tup ([.ref t] ++ ys)) hb)
      have hws : mIsStep (.world (2 + n0) ls) = true := by
        rw [mIsStep, decide_eq_true (by omega), Bool.true_and]
        exact hokp
      refine q b ([.ref t] ++ ys) (.world (2 + n0) ls :: sts) _ (((k1.trans k3).trans k35).trans (KpR.same s6)) upd_same (StepsAt.keep (.cons hw5 hst) (Same.tk s6)) ?_ (fun st hs => ?_) (by rw [List.length_cons]; omega) (by rw [List.length_cons]; omega)
      · intro j st hj
        cases j with
        | zero =>
          cases hj
          exact ⟨hws, rfl⟩
        | succ j =>
          have hm := List.mem_of_getElem? (show sts[j]? = some st by simpa using hj)
          obtain ⟨g1, g2, _⟩ := hall st hm
          exact ⟨g1, by rw [g2, decide_eq_false (by omega)]⟩
      · rcases List.mem_cons.mp hs with rfl | hs
        · exact ⟨Nat.le_trans hlen (by decide), hlen⟩
        · exact (hall st hs).2.2)
end
end Ms


set_option Elab.async false
set_option linter.all false
set_option maxRecDepth 100000
set_option maxHeartbeats 4000000
/-! # The walk, 13: the law's own lines -/
namespace Ms
open PySem PySem.Spec PyProof.Rows L2
theorem cutV_1e {xs : List V} {e : Int} {m : Nat} (h : e = 1 + (m : Int)) : cutV xs (some (1 : Int)) (some e) = (xs.drop 1).take m := by
  subst h
  exact cutV_1n
theorem cmds_in : ∀ q ∈ cmds, inV (.str (mkS q.1)) [.str "write", .str "show"] = decide (q.2.2 ≠ 0) ∧ decide (V.str (mkS q.1) = V.str (S "write")) = decide (q.2.2 = 2) := by decide +kernel
section
variable {P : Program} {w : World} {K : PySem.W.Frag} {mg : Str → Option Value} {base : Heap} {a : Ad} {k : Nat}
abbrev sLawValueWord : Stmt := topS 49
theorem scLawValueWord : FnScope ["_law_value"] ["_law_value"] (defScope sLawValueWord) := ⟨rfl, rfl, rfl, by decide +kernel, rfl, by decide +kernel, by decide +kernel⟩
def spLawValueWord : Sp := fun vs H Q _ => ∃ v, vs = [v] ∧ isValueV v = true ∧ Q (.str (mkS (valW v))) H
theorem ok__law_value_word (F : DefX K mg "_law_value_word" sLawValueWord ["_law_value"]) (B : Bu P w K mg a)  : Cl P w K mg base CX0 (k + 1) "_law_value_word" spLawValueWord :=
  cl0 F scLawValueWord (fun vs H Q E h => by obtain ⟨_, e, _⟩ := h; rw [e]; rfl) (fun f cdv A outer s H vs Q E hr h => by
    obtain ⟨v, rfl, fl, q⟩ := h
    refine ⟨_, (pss_cons (ps_if (pt_cmpR op_isN (pv 0) pe_non (nomark _)) (pss_one (ps_ret pe_str)) pss_nil)
    (pss_one (ps_ret (pe_ifExp (pt_val (pe_callB call_isi (by rfl) B.b_isinstance bt_isinstance (pa_cons (pv 0) (pa_cons (pe_bltn (v := .ty "str") (by rfl) B.b_str bt_str rfl) pa_nil)))) (pe_op op_add_str (pe_op op_add_str pe_str (pv 0)) pe_str) (pe_op op_add_str pe_str (pe_callTy call_str_int (by rfl) B.b_str bt_str (pa_cons (pv 0) pa_nil))))))), ?_⟩
    obtain ⟨t1, y1, k1⟩ := isi_str (K := K) (H := H) (val_flat fl)
    refine ⟨v, rfl, rfl, _, rfl, ite2 (fun c => ?_) (fun c => ?_)⟩
    · cases of_decide_eq_true c
      exact q
    · refine ⟨v, rfl, _, _, _, _, _, rfl, .ty _, y1, k1, _, rfl, ?_⟩
      cases v with
      | str z =>
        have hz : z.length ≤ 200 := by
          have h : isText 200 (TL.tl z) = true := fl
          rw [isText, Bool.and_eq_true] at h
          have := of_decide_eq_true h.1
          rw [TL.len_tl]
          exact this
        refine iteT ⟨_, rfl, _, _, rfl, rfl, sz (Nat.ble_eq_true_of_le ?_), _, _, rfl, rfl, sz (Nat.ble_eq_true_of_le ?_), ?_⟩
        · show 1 + z.length ≤ _
          omega
        · rw [Str.length_append]
          show 1 + z.length + 1 ≤ _
          omega
        · have e : S "'" ++ z ++ S "'" = mkS (valW (.str z)) := TL.ext_tl (by rw [TL.tl_append, TL.tl_append, tl_mkS]; rfl)
          rw [← e] at q
          exact q
      | int i =>
        have hb : -(2 ^ 40) ≤ i ∧ i ≤ 2 ^ 40 := by
          have h : (decide (-(2 ^ 40) ≤ i) && decide (i ≤ 2 ^ 40)) = true := fl
          rw [Bool.and_eq_true] at h
          exact ⟨of_decide_eq_true h.1, of_decide_eq_true h.2⟩
        have hlog : i.natAbs.log2 < 1920 := by
          have := log_ok (n := i.natAbs) (by omega)
          rw [Int.natAbs_natCast] at this
          exact this
        refine iteF ⟨_, rfl, _, rfl, hlog, _, _, rfl, rfl, sz (Nat.ble_eq_true_of_le ?_), ?_⟩
        · have h := len_int hb
          show 1 + (Str.ofString (toString i)).length ≤ _
          omega
        · have e : S "#" ++ Str.ofString (toString i) = mkS (valW (.int i)) := TL.ext_tl (by rw [TL.tl_append, tl_mkS]; rfl)
          rw [← e] at q
          exact q
      | non => exact absurd rfl c
      | _ => cases fl)
abbrev sLawLine : Stmt := topS 50
theorem scLawLine : FnScope ["_law_step_here", "_law_words", "_law_one", "_law_two"] ["_law_step_here"] (defScope sLawLine) := ⟨rfl, rfl, rfl, by decide +kernel, rfl, by decide +kernel, by decide +kernel⟩
def spLawLine : Sp := fun vs H Q _ => ∃ v st, vs = [v] ∧ StepAt H v st ∧ mIsStep st = true ∧ nLinks st ≤ 1000 ∧ (match st with | .flat w _ => w ≠ cd "world" | _ => True) ∧ ∀ H', Same H H' → Q (.str (mkS (mLine st))) H'
theorem ok__law_line (F : DefX K mg "_law_line" sLawLine ["_law_step_here"]) (B : Bu P w K mg a) (c__law_value_word : Cl P w K mg base CX0 k "_law_value_word" spLawValueWord) : Cl P w K mg base CX0 (k + 1) "_law_line" spLawLine :=
  cl0 F scLawLine (fun vs H Q E h => by obtain ⟨_, _, e, _⟩ := h; rw [e]; rfl) (fun f cdv A outer s H vs Q E hr h => by
    obtain ⟨v, st, rfl, hst, hv, hn, hw, q⟩ := h
    refine ⟨_, (pss_cons (ps_if (pt_cmpR op_eq (pe_ix ix_tup (pv 0) pe_int (fun _ _ => rfl)) pe_str (nomark _)) (pss_one (ps_ret (pe_join pe_str (pe_op op_cat (pe_lst (pa_cons pe_str (pa_cons (pe_callTy call_str_int (by rfl) B.b_str bt_str (pa_cons (pe_ix ix_tup (pv 0) pe_int (fun _ _ => rfl)) pa_nil)) pa_nil))) (pe_lc (own := [("_law_one", 2), ("_law_two", 3)]) (g := gTup K 2 (gCons (gName 2) (gCons (gName 3) gNil))) (tt := tYes) rfl scLawLine.nd (pi_tup (pe_ix ix_tup (pv 0) pe_int (fun _ _ => rfl))) (blkOk_by (own := [("_law_one", 2), ("_law_two", 3)]) (N := ["_law_step_here", "_law_words", "_law_one", "_law_two"]) (sc := defScope sLawLine) (by decide +kernel)) (fun _ _ _ _ _ => (pg_tup rfl (pgs_cons (pg_name (i := 2) scLawLine.nd rfl (Or.inl rfl)) (pgs_cons (pg_name (i := 3) scLawLine.nd rfl (Or.inl rfl)) pgs_nil)))) (fun _ _ _ _ _ => pts_nil) (fun _ _ _ _ _ => (pe_op op_add_str (pe_op op_add_str (pe_callTy call_str_int (by rfl) B.b_str bt_str (pa_cons (pv 2) pa_nil)) pe_str) (pe_callTy call_str_int (by rfl) B.b_str bt_str (pa_cons (pv 3) pa_nil))))))))) pss_nil)
    (pss_cons (ps_set (i := 1) scLawLine.nd rfl (Or.inl rfl) (pe_op op_cat (pe_lst (pa_cons (pe_ix ix_tup (pv 0) pe_int (fun _ _ => rfl)) pa_nil)) (pe_lc (own := [("_law_one", 2)]) (g := (gName 2)) (tt := tYes) rfl scLawLine.nd (pi_tup (pe_slice sl_tupA (pv 0) (po_some pe_int) (po_some (pe_ifExp (pt_cmpR op_in_seq (pe_ix ix_tup (pv 0) pe_int (fun _ _ => rfl)) (pe_lst (pa_cons pe_str (pa_cons pe_str pa_nil))) (by rfl)) pe_int (pe_callB call_len_seq (by rfl) B.b_len bt_len (pa_cons (pv 0) pa_nil)))))) (blkOk_by (own := [("_law_one", 2)]) (N := ["_law_step_here", "_law_words", "_law_one", "_law_two"]) (sc := defScope sLawLine) (by decide +kernel)) (fun _ _ _ _ _ => (pg_name (i := 2) scLawLine.nd rfl (Or.inl rfl))) (fun _ _ _ _ _ => pts_nil) (fun _ _ _ _ _ => (pe_callTy call_str_int (by rfl) B.b_str bt_str (pa_cons (pv 2) pa_nil))))))
    (pss_cons (ps_if (pt_cmpR op_in_seq (pe_ix ix_tup (pv 0) pe_int (fun _ _ => rfl)) (pe_lst (pa_cons pe_str (pa_cons pe_str pa_nil))) (by rfl)) (pss_one (ps_expr (pe_bm PySem.F.plainAttrs_list PySem.F.slot_list_append PySem.F.type_list_append mt_append (pv 1) (pa_cons (pe_op op_add_str (pe_op op_add_str pe_str (pe_ix ix_tup (pv 0) pe_int (fun _ _ => rfl))) pe_str) pa_nil)))) pss_nil)
    (pss_one (ps_ret (pe_join pe_str (pe_ifExp (pt_cmpR op_eq (pe_ix ix_tup (pv 0) pe_int (fun _ _ => rfl)) pe_str (nomark _)) (pe_op op_cat (pv 1) (pe_lst (pa_cons (pc0 c__law_value_word hr (Nat.le_refl _) rfl (pa_cons (pe_ix ix_tup (pv 0) pe_int (fun _ _ => rfl)) pa_nil)) pa_nil))) (pv 1)))))))), ?_⟩
    obtain ⟨hj1, hj2⟩ := line_join hv hn
    cases st with
    | world n ls =>
      obtain ⟨b, l, rfl, hb, bs, hl, hp⟩ := hst
      have hv' := hv
      rw [mIsStep, Bool.and_eq_true] at hv'
      have hnn : n < 10 ^ 20 := by have := of_decide_eq_true hv'.1; omega
      have hls : ls.length ≤ 1000 := hn
      have hlen := Paired.len hp
      refine ⟨_, rfl, b, _, 0, _, rfl, rfl, .inl (.inl hb), rfl, rfl, _, rfl, iteT ?_⟩
      refine ⟨⟨_, rfl⟩, _, rfl, b, _, 1, _, rfl, rfl, .inl (.inl hb), rfl, _, rfl, log_ok hnn, sz rfl, fun p hp1 => ?_⟩
      have s1 := same_upd (o := .lst [V.str (S "world"), V.str (Str.ofString (toString ((n : Nat) : Int)))]) hp1
      refine ⟨_, rfl, b, _, 2, _, rfl, rfl, .inl (.inl (s1 _ _ hb)), rfl, l, rfl, ⟨_, .inl (.inl (s1 _ _ hl))⟩, fun D hD => ?_⟩
      refine lc_mapS (walk_tup (xs := bs.map V.ref)) (fun j x => (bs.map V.ref)[j]? = some x) (fun j y H' => ∃ p, ls[j]? = some p ∧ y = strV (linkW p)) (by rw [List.length_map]; omega) hD (fun i H x H' h => h) (fun H1 hs => .inl (.inl (hs _ _ (s1 _ _ hl))))
        (fun j y H1 H2 h tk => h) ?_ ?_
      · intro j x H2 R hj hx hs r
        obtain ⟨c, hc, rfl⟩ : ∃ c, bs[j]? = some c ∧ x = .ref c := by
          rw [List.getElem?_map] at hx
          cases e : bs[j]? with
          | none => rw [e] at hx; cases hx
          | some b => rw [e] at hx; exact ⟨b, rfl, by injection hx with h; exact h.symm⟩
        obtain ⟨pr, hpi, hpa⟩ := Paired.at_ hp hc
        have hok := List.all_eq_true.mp hv'.2 pr (List.mem_of_getElem? hpi)
        rw [Bool.and_eq_true] at hok
        have h1 : pr.1 < 10 ^ 20 := by have := of_decide_eq_true hok.1; omega
        have h2 : pr.2 < 10 ^ 20 := by have := of_decide_eq_true hok.2; omega
        have hpa2 : PairAt H2 c pr := hpa.keep (Same.tk (s1.trans hs))
        have l1 := num_le h1
        have l2 := num_le h2
        refine ⟨c, _, rfl, .inl (.inl hpa2), rfl, _, _, rfl, _, _, rfl, rfl, rfl, ?_⟩
        refine ⟨_, rfl, _, rfl, log_ok h1, _, _, rfl, rfl, sz (Nat.ble_eq_true_of_le ?_), _, rfl, _, rfl, log_ok h2, _, _, rfl, rfl, sz (Nat.ble_eq_true_of_le ?_), r _ H2 (Same.refl _) ⟨pr, hpi, ?_⟩⟩
        · rw [str_num]
          show _ + 1 ≤ _
          omega
        · rw [str_num, str_num, Str.length_append]
          show _ + 1 + _ ≤ _
          omega
        · rw [str_num, str_num]
          refine congrArg V.str (TL.ext_tl ?_)
          rw [TL.tl_append, TL.tl_append, tl_mkS, tl_mkS, tl_mkS, linkW, List.append_assoc]
          rfl
      · intro ys H2 s2 hD2 hlen2 hF
        rw [List.length_map, hlen] at hlen2
        have hys : ys = ls.map fun p => strV (linkW p) := map_of hlen2 hF
        subst hys
        refine ⟨p, D, _, _, rfl, rfl, s2 _ _ upd_same, hD2, ?_, fun t ht => ?_⟩
        · refine Nat.le_trans ?_ (sz (n := 2000) rfl)
          rw [List.length_map]
          show 2 + _ ≤ _
          omega
        have el : [V.str (S "world"), V.str (Str.ofString (toString ((n : Nat) : Int)))] ++ (ls.map fun p => strV (linkW p)) = ((lineWs (.world n ls)).map mkS).map V.str := by
          rw [str_num, S_mk, lineWs, List.map_cons, List.map_cons, List.map_cons, List.map_cons, List.map_map, List.map_map]
          rfl
        rw [el]
        refine ⟨_, t, _, rfl, rfl, .inl (.inl (.inl upd_same)), hj1, ?_⟩
        rw [hj2]
        exact q _ ((s1.trans s2).trans (same_upd ht))
    | flat w0 xs =>
    obtain ⟨b, rfl, hb⟩ := hst
    obtain ⟨many, more, hcmd, hmem, ns, hns, hnb, hx⟩ := flat_parts hv
    obtain ⟨hmany, hmore, hm1⟩ := cmd_facts hcmd
    have hxt : xs.take many = ns.map fun (n : Nat) => V.int (n : Int) := by
      have hl : (ns.map fun (n : Nat) => V.int (n : Int)).length = many := by rw [List.length_map, hns]
      rcases hx with ⟨_, rfl⟩ | ⟨z, _, _, ⟨_, rfl⟩ | ⟨v, _, _, rfl⟩⟩
      · exact List.take_of_length_le (by omega)
      · rw [List.take_append_of_le_length (by omega), List.take_of_length_le (by omega)]
      · rw [List.take_append_of_le_length (by omega), List.take_of_length_le (by omega)]
    have hlw := lineWs_flat hcmd hxt
    rw [hlw] at hj1 hj2
    obtain ⟨hin, hwr⟩ := cmds_in _ hmem
    dsimp only at hin hwr
    refine ⟨_, rfl, b, _, 0, _, rfl, rfl, .inl (.inl hb), atI_nat (j := 0) rfl, rfl, _, rfl, ite2 (fun c => ?_) (fun c => ?_)⟩
    · have e : mkS w0 = S "world" := V.str.inj (of_decide_eq_true c)
      exact absurd (S_iff.mp e) hw
    refine ⟨_, rfl, b, _, 0, _, rfl, rfl, .inl (.inl hb), atI_nat (j := 0) rfl, sz rfl, fun p hp => ?_⟩
    have s1 := same_upd (o := .lst [V.str (mkS w0)]) hp
    refine ⟨_, rfl, _, rfl, _, rfl, b, _, 0, _, rfl, rfl, .inl (.inl (s1 _ _ hb)), atI_nat (j := 0) rfl, by decide, fun w1 hw1 => ?_⟩
    have s1' := s1.trans (same_upd (o := .lst [V.str "write", V.str "show"]) hw1)
    refine ⟨w1, _, rfl, .inl (.inl (.inl upd_same)), rfl, rfl, _, rfl, ?_⟩
    have hp1 := same_upd (o := .lst [V.str "write", V.str "show"]) hw1 _ _ (upd_same (H := H) (a := p) (o := .lst [V.str (mkS w0)]))
    have hne : ¬ (HT.sIx ((V.str (mkS w0) :: xs).length) 0 (some (1 : Int)) = 0) := by
      have e1 : HT.sIx ((V.str (mkS w0) :: xs).length) 0 (some (1 : Int)) = min 1 ((V.str (mkS w0) :: xs).length) := HT.sIx_nat _ 0 1
      rw [e1, List.length_cons]
      omega
    rcases hx with ⟨rfl, hx0⟩ | ⟨z, hz1, hz2, hx⟩
    · have hxl : xs.length = many := by rw [hx0, List.length_map, hns]
      refine ite2 (fun g => absurd (hin.symm.trans g) (by simp)) (fun _ => ?_)
      refine ⟨_, rfl, b, _, rfl, .inr (.inl (.inl (s1' _ _ hb))), _, rfl, b, _, rfl, .inl (.inl (s1' _ _ hb)), fun h => absurd h.1 hne, fun _ p2 hp2 => ?_⟩
      rw [cutV_1e (m := many) (by rw [List.length_cons]; omega)]
      rw [show (List.drop 1 (V.str (mkS w0) :: xs)) = xs from rfl, hxt]
      have s2 := s1'.trans (same_upd (o := .tup (ns.map fun (n : Nat) => V.int (n : Int))) hp2)
      refine ⟨p2, rfl, ⟨_, .inl (.inl upd_same)⟩, fun D hD => ?_⟩
      refine lc_mapS (walk_tup (xs := ns.map fun (n : Nat) => V.int (n : Int))) (fun j x => (ns.map fun (n : Nat) => V.int (n : Int))[j]? = some x) (fun j y H' => ∃ n, ns[j]? = some n ∧ y = strV (TL.numL n)) (by rw [List.length_map]; omega) hD (fun i H x H' h => h) (fun H1 hs => .inl (.inl (hs _ _ upd_same)))
          (fun j y H1 H2 h tk => h) ?_ ?_
      · intro j x H2 R hj hx hs r
        rw [List.getElem?_map] at hx
        cases e : ns[j]? with
        | none => rw [e] at hx; cases hx
        | some n =>
          rw [e] at hx
          cases hx
          have hb := hnb n (List.mem_of_getElem? e)
          refine ⟨wipe1, _, slot1 (by show 2 < 4; decide), _, rfl, log_ok (by omega), r _ _ (Same.refl _) ⟨n, e, by rw [str_num]⟩⟩
      intro ys H3 s3 hD3 hlen hF
      rw [List.length_map] at hlen
      have hys : ys = ns.map fun n => strV (TL.numL n) := map_of hlen hF
      subst hys
      refine ⟨p, D, _, _, rfl, rfl, s3 _ _ (same_upd hp2 _ _ hp1), hD3, ?_, fun t ht => ?_⟩
      · refine Nat.le_trans ?_ (sz (n := 2000) rfl)
        rw [List.length_map]
        show 1 + _ ≤ _
        omega
      have s4 := (s2.trans s3).trans (same_upd (o := .lst ([V.str (mkS w0)] ++ ns.map fun n => strV (TL.numL n))) ht)
      have ht4 := upd_same (H := H3) (a := t) (o := .lst ([V.str (mkS w0)] ++ ns.map fun n => strV (TL.numL n)))
      have hb4 := s4 _ _ hb
      have hHt : H t = none := (s2.trans s3).free ht
      generalize upd H3 t (.lst ([V.str (mkS w0)] ++ ns.map fun n => strV (TL.numL n))) = H4 at s4 ht4 hb4 ⊢
      refine ⟨_, rfl, b, _, 0, _, rfl, rfl, .inl (.inl hb4), atI_nat (j := 0) rfl, by decide, fun w2 hw2 => ?_⟩
      have s5 := same_upd (o := .lst [V.str "write", V.str "show"]) hw2
      refine ⟨w2, _, rfl, .inl (.inl (.inl upd_same)), rfl, rfl, _, rfl, ?_⟩
      have ht5 := s5 _ _ ht4
      have hb5 := s5 _ _ hb4
      have s5' := s4.trans s5
      generalize upd H4 w2 (.lst [V.str "write", V.str "show"]) = H5 at ht5 hb5 s5' ⊢

      refine ite2 (fun g => absurd (hin.symm.trans g) (by simp)) (fun _ => ?_)
      refine ⟨⟨_, rfl⟩, _, rfl, b, _, 0, _, rfl, rfl, .inl (.inl hb5), atI_nat (j := 0) rfl, rfl, _, rfl, ite2 (fun g => absurd (hwr.symm.trans g) (by simp)) (fun _ => ?_)⟩
      refine ⟨_, rfl, _, t, _, rfl, rfl, .inl (.inl (.inl ?_)), hj1, ?_⟩
      · rw [ht5]
        refine congrArg (fun x => some (HO.lst x)) ?_
        rw [if_pos rfl, if_neg (by decide), List.append_nil, List.append_nil, List.map_cons, List.map_cons, List.map_map, List.map_map]
        rfl
      · rw [hj2]
        exact q _ s5'
    · have hz : z.length ≤ 40 := by
        rw [isText, Bool.and_eq_true] at hz1
        have := of_decide_eq_true hz1.1
        rw [TL.len_tl]
        exact this
      have hone : many = 1 := hm1 (by rcases hx with ⟨rfl, _⟩ | ⟨_, _, rfl, _⟩ <;> decide)
      subst hone
      have hin' : inV (.str (mkS w0)) [.str "write", .str "show"] = true := by
        rw [hin]
        rcases hx with ⟨rfl, _⟩ | ⟨_, _, rfl, _⟩ <;> rfl
      have hz2' : ∃ rest, xs = V.int (ns.getD 0 0 : Nat) :: .str z :: rest := by
        obtain ⟨n, rfl⟩ := List.length_eq_one_iff.mp hns
        rcases hx with ⟨_, rfl⟩ | ⟨v, _, _, rfl⟩
        · exact ⟨[], rfl⟩
        · exact ⟨[v], rfl⟩
      have eq1 : S "'" ++ z ++ S "'" = mkS (quo (TL.tl z)) := TL.ext_tl (by rw [TL.tl_append, TL.tl_append, tl_mkS, tl_S]; rfl)
      refine ite2 (fun _ => ?_) (fun g => absurd hin' g)
      refine ⟨_, rfl, b, _, rfl, .inl (.inl (s1' _ _ hb)), fun h => absurd h.1 hne, fun _ p2 hp2 => ?_⟩
      rw [cutV_1e (m := 1) (by rfl)]
      rw [show (List.drop 1 (V.str (mkS w0) :: xs)) = xs from rfl, hxt]
      have s2 := s1'.trans (same_upd (o := .tup (ns.map fun (n : Nat) => V.int (n : Int))) hp2)
      refine ⟨p2, rfl, ⟨_, .inl (.inl upd_same)⟩, fun D hD => ?_⟩
      refine lc_mapS (walk_tup (xs := ns.map fun (n : Nat) => V.int (n : Int))) (fun j x => (ns.map fun (n : Nat) => V.int (n : Int))[j]? = some x) (fun j y H' => ∃ n, ns[j]? = some n ∧ y = strV (TL.numL n)) (by rw [List.length_map]; omega) hD (fun i H x H' h => h) (fun H1 hs => .inl (.inl (hs _ _ upd_same)))
          (fun j y H1 H2 h tk => h) ?_ ?_
      · intro j x H2 R hj hx hs r
        rw [List.getElem?_map] at hx
        cases e : ns[j]? with
        | none => rw [e] at hx; cases hx
        | some n =>
          rw [e] at hx
          cases hx
          have hb := hnb n (List.mem_of_getElem? e)
          refine ⟨wipe1, _, slot1 (by show 2 < 4; decide), _, rfl, log_ok (by omega), r _ _ (Same.refl _) ⟨n, e, by rw [str_num]⟩⟩
      intro ys H3 s3 hD3 hlen hF
      rw [List.length_map] at hlen
      have hys : ys = ns.map fun n => strV (TL.numL n) := map_of hlen hF
      subst hys
      refine ⟨p, D, _, _, rfl, rfl, s3 _ _ (same_upd hp2 _ _ hp1), hD3, ?_, fun t ht => ?_⟩
      · refine Nat.le_trans ?_ (sz (n := 2000) rfl)
        rw [List.length_map]
        show 1 + _ ≤ _
        omega
      have s4 := (s2.trans s3).trans (same_upd (o := .lst ([V.str (mkS w0)] ++ ns.map fun n => strV (TL.numL n))) ht)
      have ht4 := upd_same (H := H3) (a := t) (o := .lst ([V.str (mkS w0)] ++ ns.map fun n => strV (TL.numL n)))
      have hb4 := s4 _ _ hb
      have hHt : H t = none := (s2.trans s3).free ht
      generalize upd H3 t (.lst ([V.str (mkS w0)] ++ ns.map fun n => strV (TL.numL n))) = H4 at s4 ht4 hb4 ⊢
      refine ⟨_, rfl, b, _, 0, _, rfl, rfl, .inl (.inl hb4), atI_nat (j := 0) rfl, by decide, fun w2 hw2 => ?_⟩
      have s5 := same_upd (o := .lst [V.str "write", V.str "show"]) hw2
      refine ⟨w2, _, rfl, .inl (.inl (.inl upd_same)), rfl, rfl, _, rfl, ?_⟩
      have ht5 := s5 _ _ ht4
      have hb5 := s5 _ _ hb4
      have s5' := s4.trans s5
      generalize upd H4 w2 (.lst [V.str "write", V.str "show"]) = H5 at ht5 hb5 s5' ⊢

      refine ite2 (fun _ => ?_) (fun g => absurd hin' g)
      obtain ⟨rest, hrest⟩ := hz2'
      have hat2 : atI (V.str (mkS w0) :: xs) 2 = some (.str z) := by
        rw [hrest]
        exact atI_nat (j := 2) rfl
      have hln : ns.length = 1 := hns
      refine ⟨_, rfl, .inl ⟨rfl, _, .inl (.inl ht5)⟩, _, rfl, b, _, 2, .str z, rfl, rfl, .inl (.inl hb5), hat2, _, _, rfl, rfl, sz (Nat.ble_eq_true_of_le ?_), _, _, rfl, rfl, sz (Nat.ble_eq_true_of_le ?_), t, _, _, rfl, rfl, ht5, ?_, ?_⟩
      · show 1 + z.length ≤ _
        omega
      · rw [Str.length_append]
        show 1 + z.length + 1 ≤ _
        omega
      · refine Nat.lt_of_le_of_lt (m := 100) ?_ (by decide)
        rw [List.length_append, List.length_map, hln]
        show 1 + 1 ≤ 100
        decide
      have s6 : Same H (upd H5 t (.lst (([V.str (mkS w0)] ++ ns.map fun n => strV (TL.numL n)) ++ [.str (S "'" ++ z ++ S "'")]))) := Same.upd s5' hHt
      have ht6 := upd_same (H := H5) (a := t) (o := .lst (([V.str (mkS w0)] ++ ns.map fun n => strV (TL.numL n)) ++ [.str (S "'" ++ z ++ S "'")]))
      have hb6 := s6 _ _ hb
      dsimp only
      generalize upd H5 t (.lst (([V.str (mkS w0)] ++ ns.map fun n => strV (TL.numL n)) ++ [.str (S "'" ++ z ++ S "'")])) = H6 at s6 ht6 hb6 ⊢
      rcases hx with ⟨rfl, rfl⟩ | ⟨vv, hvv, rfl, rfl⟩
      · refine ⟨⟨_, rfl⟩, _, rfl, b, _, 0, _, rfl, rfl, .inl (.inl hb6), atI_nat (j := 0) rfl, rfl, _, rfl, ite2 (fun g => absurd (hwr.symm.trans g) (by simp)) (fun _ => ?_)⟩
        refine ⟨_, rfl, _, t, _, rfl, rfl, .inl (.inl (.inl ?_)), hj1, ?_⟩
        · rw [ht6]
          refine congrArg (fun x => some (HO.lst x)) ?_
          obtain ⟨n, rfl⟩ := List.length_eq_one_iff.mp hns
          rw [if_neg (by decide), if_neg (by decide)]
          show [V.str (mkS w0), strV (TL.numL n), V.str (S "'" ++ z ++ S "'")] = _
          rw [eq1]
          rfl
        · rw [hj2]
          exact q _ s6
      · refine ⟨⟨_, rfl⟩, _, rfl, b, _, 0, _, rfl, rfl, .inl (.inl hb6), atI_nat (j := 0) rfl, rfl, _, rfl, ite2 (fun _ => ?_) (fun g => absurd hwr g)⟩
        have hat3 : atI (V.str (mkS w0) :: ((ns.map fun (n : Nat) => V.int (n : Int)) ++ [.str z, vv])) 3 = some vv := by
          obtain ⟨n, rfl⟩ := List.length_eq_one_iff.mp hns
          exact atI_nat (j := 3) rfl
        refine ⟨_, rfl, _, rfl, b, _, 3, vv, rfl, rfl, .inl (.inl hb6), hat3, vv, rfl, hvv, sz rfl, fun u hu => ?_⟩
        have s7 := s6.trans (same_upd (o := .lst [strV (valW vv)]) hu)
        refine ⟨t, u, _, _, rfl, rfl, same_upd hu _ _ ht6, upd_same, ?_, fun y hy => ?_⟩
        · refine Nat.le_trans (m := 100) ?_ (by decide)
          rw [List.length_append, List.length_append, List.length_map, hln]
          show 1 + 1 + 1 + 1 ≤ 100
          decide
        refine ⟨_, y, _, rfl, rfl, .inl (.inl (.inl ?_)), hj1, ?_⟩
        · rw [upd_same]
          refine congrArg (fun x => some (HO.lst x)) ?_
          obtain ⟨n, rfl⟩ := List.length_eq_one_iff.mp hns
          rw [if_neg (by decide), if_pos rfl]
          show [V.str (mkS w0), strV (TL.numL n), V.str (S "'" ++ z ++ S "'"), strV (valW vv)] = _
          rw [eq1]
          rfl
        · rw [hj2]
          exact q _ (s7.trans (same_upd hy)))
end
end Ms


set_option Elab.async false
set_option linter.all false
set_option maxRecDepth 100000
set_option maxHeartbeats 4000000
/-! # The walk, 14: _law_alike -/
namespace Ms
open PySem PySem.Spec PyProof.Rows L2
def sc3 : V → Bool
  | .non => true
  | .int _ => true
  | .str _ => true
  | _ => false
def Alike (H : Hp) : Nat → V → V → Prop
  | 0, x, y => x = y ∧ sc3 x = true
  | n + 1, x, y => (x = y ∧ sc3 x = true) ∨ ∃ (a b : Addr) (xs ys : List V), x = .ref a ∧ y = .ref b ∧ ((H a = some (.tup xs) ∧ H b = some (.tup ys)) ∨ (H a = some (.lst xs) ∧ H b = some (.lst ys))) ∧ ys.length ≤ 4000000 ∧ Paired (Alike H n) xs ys
theorem Alike.keep {H H' : Hp} (s : Same H H') : ∀ {n : Nat} {x y : V}, Alike H n x y → Alike H' n x y
  | 0, _, _, h => h
  | n + 1, x, y, h => by
    rcases h with h | ⟨a, b, xs, ys, e1, e2, hh, hl, hp⟩
    · exact .inl h
    · refine .inr ⟨a, b, xs, ys, e1, e2, ?_, hl, L2.Paired.mapP hp fun _ _ g => Alike.keep s g⟩
      rcases hh with ⟨h1, h2⟩ | ⟨h1, h2⟩
      · exact .inl ⟨s _ _ h1, s _ _ h2⟩
      · exact .inr ⟨s _ _ h1, s _ _ h2⟩
theorem Alike.sc {H : Hp} {n : Nat} {x : V} (h : sc3 x = true) : Alike H n x x := by
  cases n with
  | zero => exact ⟨rfl, h⟩
  | succ n => exact .inl ⟨rfl, h⟩
abbrev IsiT (K : PySem.W.Frag) (H : Hp) (v : V) (b : Bool) : Prop := ∃ t, TyX K H v t ∧ PySem.W.kitAny K t [.type "tuple", .type "list"] = some b
section
variable {K : PySem.W.Frag} {H : Hp} {v : V}
theorem isiT_sc (f : sc3 v = true) : IsiT K H v false := by
  cases v with
  | non => exact ⟨_, .base .non, rfl⟩
  | int b => exact ⟨_, .base (.int b), rfl⟩
  | str b => exact ⟨_, .base (.str b), rfl⟩
  | _ => cases f
theorem isiT_tup {a : Addr} {xs : List V} (e : H a = some (.tup xs)) : IsiT K H (.ref a) true := ⟨_, .base (.tup e), rfl⟩
theorem isiT_lst {a : Addr} {xs : List V} (e : H a = some (.lst xs)) : IsiT K H (.ref a) true := ⟨_, .base (.lst e), rfl⟩
theorem isi_listT {a : Addr} {xs : List V} (e : H a = some (.tup xs)) : Isi K H (.ref a) "list" false := ⟨_, .base (.tup e), rfl⟩
theorem isi_listL {a : Addr} {xs : List V} (e : H a = some (.lst xs)) : Isi K H (.ref a) "list" true := ⟨_, .base (.lst e), rfl⟩
theorem clsTL : Paired ClsV [.ty "tuple", .ty "list"] [.type "tuple", .type "list"] := .cons (.ty _) (.cons (.ty _) .nil)
theorem sc3_flat (f : sc3 v = true) : flatV v = true := by cases v <;> first | rfl | cases f
end
/-- a comprehension over a range whose test takes nothing -/
theorem lc_none {n i : Nat} {tt : TT} {σ : L2.St} {H : Hp} {D : Addr} {Qd : Hp → Prop} (hD : H D = none) 
    (ht : ∀ j H2 (R : Bool → Hp → Prop), j < n → Same H H2 → (∀ H3, Same H2 H3 → R false H3) → tt ((wipe σ [i]).set i (some (.int (0 + (j : Int))))) H2 R)
    (q : ∀ H', Same H H' → H' D = some (.lst []) → Qd H') :
    ∃ W : Nat → Nat → Hp → Prop, (∃ m, W 0 m (upd H D (.lst []))) ∧ ∀ j m H, W j m H →
      ((Itr 0 n).stop j H ∧ Qd H) ∨ ((Itr 0 n).go j H ∧ ∃ Nx : Hp → Prop, (∀ H', Nx H' → ∃ m', m' < m ∧ W (j + 1) m' H') ∧ ∀ x H', (Itr 0 n).yld j H x H' → gName i x (wipe σ [i]) H' fun σ2 H2 => wipe σ2 [i] = wipe σ [i] ∧ tt σ2 H2 fun b H3 =>
        if b = true then tVar i σ2 H3 fun y H4 => ∃ acc, H4 D = some (.lst acc) ∧ acc.length < sizeLine ∧ Nx (upd H4 D (.lst (acc ++ [y]))) else Nx H3) := by
  refine lc_it walk_range (fun k H' => Same H H' ∧ H' D = some (.lst [])) ⟨same_upd hD, upd_same⟩ (fun _ _ _ _ => trivial) ?_ (fun H' h => q H' h.1 h.2)
  rintro k x H1 H2 hk ⟨hs, hd⟩ ⟨rfl, rfl⟩
  exact ⟨wipe1, ht k H2 _ hk hs fun H3 h3 => iteF ⟨hs.trans h3, h3 _ _ hd⟩⟩
section
variable {P : Program} {w : World} {K : PySem.W.Frag} {mg : Str → Option Value} {base : Heap} {a : Ad} {k : Nat}
abbrev sLawAlike : Stmt := topS 51
theorem scLawAlike : FnScope ["_law_found", "_law_due", "_law_k"] ["_law_found", "_law_due"] (defScope sLawAlike) := ⟨rfl, rfl, rfl, by decide +kernel, rfl, by decide +kernel, by decide +kernel⟩
def spLawAlike (n : Nat) : Sp := fun vs H Q _ => ∃ x y, vs = [x, y] ∧ Alike H n x y ∧ ∀ H', Same H H' → Q (.bl true) H'
theorem cl_never {f : Addr} {x : Str} {k : Nat} {sp : Sp} (c : Cl P w K mg base CX0 k x sp) : True := trivial
theorem cl_none {x : Str} {st : Stmt} {ps : List Str} {k : Nat} (F : DefX K mg x st ps) : Cl P w K mg base CX0 k x (fun _ _ _ _ => False) := by
  obtain ⟨f, fd, F, hm, b⟩ := F.ex
  exact ⟨f, fd, ps, ⟨fun _ _ _ _ h => h.elim, fun _ _ _ _ _ _ _ _ _ _ _ _ _ h => h.elim⟩, hm, F.kp, b⟩
theorem ok__law_alike (F : DefX K mg "_law_alike" sLawAlike ["_law_found", "_law_due"]) (B : Bu P w K mg a) {n : Nat} {spR : Sp} (c__law_alike : Cl P w K mg base CX0 k "_law_alike" spR) (hR : ∀ m, n = m + 1 → spR = spLawAlike m) : Cl P w K mg base CX0 (k + 1) "_law_alike" (spLawAlike n) :=
  cl0 F scLawAlike (fun vs H Q E h => by obtain ⟨_, _, e, _⟩ := h; rw [e]; rfl) (fun f cdv A outer s H vs Q E hr h => by
    obtain ⟨x, y, rfl, hal, q⟩ := h
    refine ⟨_, (pss_cons (ps_if (pt_val (pe_callB call_isiT (by rfl) B.b_isinstance bt_isinstance (pa_cons (pv 1) (pa_cons (pe_tup (pa_cons (pe_bltn (v := .ty "tuple") (by rfl) B.b_tuple bt_tuple rfl) (pa_cons (pe_bltn (v := .ty "list") (by rfl) B.b_list bt_list rfl) pa_nil))) pa_nil)))) (pss_cons (ps_if (PW.pt (pw_or (pt_not (pt_val (pe_callB call_isiT (by rfl) B.b_isinstance bt_isinstance (pa_cons (pv 0) (pa_cons (pe_tup (pa_cons (pe_bltn (v := .ty "tuple") (by rfl) B.b_tuple bt_tuple rfl) (pa_cons (pe_bltn (v := .ty "list") (by rfl) B.b_list bt_list rfl) pa_nil))) pa_nil))))) (pw_or1 (pt_cmpR op_ne (pe_callB call_isi (by rfl) B.b_isinstance bt_isinstance (pa_cons (pv 0) (pa_cons (pe_bltn (v := .ty "list") (by rfl) B.b_list bt_list rfl) pa_nil))) (pe_callB call_isi (by rfl) B.b_isinstance bt_isinstance (pa_cons (pv 1) (pa_cons (pe_bltn (v := .ty "list") (by rfl) B.b_list bt_list rfl) pa_nil))) (nomark _))))) (pss_one (ps_ret pe_bl)) pss_nil)
    (pss_cons (ps_if (pt_cmpR op_ne (pe_callB call_len_seq (by rfl) B.b_len bt_len (pa_cons (pv 0) pa_nil)) (pe_callB call_len_seq (by rfl) B.b_len bt_len (pa_cons (pv 1) pa_nil)) (nomark _)) (pss_one (ps_ret pe_bl)) pss_nil)
    (pss_one (ps_ret (pe_cmpR (op_eqE hr.units) (pe_lc (own := [("_law_k", 2)]) (g := (gName 2)) rfl scLawAlike.nd (pi_range1 (by rfl) B.b_range (pa_cons (pe_callB call_len_seq (by rfl) B.b_len bt_len (pa_cons (pv 1) pa_nil)) pa_nil)) (blkOk_by (own := [("_law_k", 2)]) (N := ["_law_found", "_law_due", "_law_k"]) (sc := defScope sLawAlike) (by decide +kernel)) (fun _ _ _ _ _ => (pg_name (i := 2) scLawAlike.nd rfl (Or.inl rfl))) (fun _ _ _ _ _ => (pts_one (pt_not (pt_val (pc0 c__law_alike hr (Nat.le_refl _) rfl (pa_cons (pe_ix (r := rIx K) ix_seq (pv 0) (pv 2) (fun _ _ => rfl)) (pa_cons (pe_ix (r := rIx K) ix_seq (pv 1) (pv 2) (fun _ _ => rfl)) pa_nil))))))) (fun _ _ _ _ _ => (pv 2))) (pe_lst pa_nil) (nomark _)))))) pss_nil)
    (pss_cons (ps_if (PW.pt (pw_or (pt_cmpR op_isN (pv 1) pe_non (nomark _)) (pw_or1 (pt_val (pe_callB call_isi (by rfl) B.b_isinstance bt_isinstance (pa_cons (pv 1) (pa_cons (pe_bltn (v := .ty "str") (by rfl) B.b_str bt_str rfl) pa_nil))))))) (pss_one (ps_ret (pe_and (pe_cmpR op_eq (pv 0) (pv 1) (nomark _)) (pe_one (pe_cmpR op_eq (pe_callB call_isi (by rfl) B.b_isinstance bt_isinstance (pa_cons (pv 0) (pa_cons (pe_bltn (v := .ty "str") (by rfl) B.b_str bt_str rfl) pa_nil))) (pe_callB call_isi (by rfl) B.b_isinstance bt_isinstance (pa_cons (pv 1) (pa_cons (pe_bltn (v := .ty "str") (by rfl) B.b_str bt_str rfl) pa_nil))) (nomark _)))))) pss_nil)
    (pss_one (ps_ret (pe_and (pe_callB call_isi (by rfl) B.b_isinstance bt_isinstance (pa_cons (pv 0) (pa_cons (pe_bltn (v := .ty "int") (by rfl) B.b_int bt_int rfl) pa_nil))) (pe_and (pe_cmpR op_eq (pe_callB call_isi (by rfl) B.b_isinstance bt_isinstance (pa_cons (pv 0) (pa_cons (pe_bltn (v := .ty "bool") (by rfl) B.b_bool bt_bool rfl) pa_nil))) (pe_callB call_isi (by rfl) B.b_isinstance bt_isinstance (pa_cons (pv 1) (pa_cons (pe_bltn (v := .ty "bool") (by rfl) B.b_bool bt_bool rfl) pa_nil))) (nomark _)) (pe_one (pe_cmpR op_eq (pv 0) (pv 1) (nomark _))))))))), ?_⟩
    have scal : ∀ H', Same H H' → (x = y ∧ sc3 x = true) → Alike H n x y := fun _ _ _ => hal
    have hcase : (x = y ∧ sc3 x = true) ∨ ∃ m, n = m + 1 ∧ ∃ (a b : Addr) (xs ys : List V), x = .ref a ∧ y = .ref b ∧ ((H a = some (.tup xs) ∧ H b = some (.tup ys)) ∨ (H a = some (.lst xs) ∧ H b = some (.lst ys))) ∧ ys.length ≤ 4000000 ∧ Paired (Alike H m) xs ys := by
      cases n with
      | zero => exact .inl hal
      | succ m =>
        rcases hal with h | h
        · exact .inl h
        · exact .inr ⟨m, rfl, h⟩
    clear scal
    rcases hcase with ⟨rfl, hsc⟩ | ⟨m, hn, b1, b2, xs, ys, rfl, rfl, hh, hlen, hp⟩
    · refine ⟨_, rfl, sz rfl, fun p hp => ?_⟩
      have s1 := same_upd (o := .tup [.ty "tuple", .ty "list"]) hp
      obtain ⟨t1, y1, k1⟩ := isiT_sc (K := K) (H := upd H p (.tup [.ty "tuple", .ty "list"])) hsc
      obtain ⟨t2, y2, k2⟩ := isi_str (K := K) (H := upd H p (.tup [.ty "tuple", .ty "list"])) (sc3_flat hsc)
      obtain ⟨t3, y3, k3⟩ := isi_int (K := K) (H := upd H p (.tup [.ty "tuple", .ty "list"])) (sc3_flat hsc)
      obtain ⟨t4, y4, k4⟩ := isi_bool (K := K) (H := upd H p (.tup [.ty "tuple", .ty "list"])) (sc3_flat hsc)
      refine ⟨x, p, _, t1, _, _, rfl, upd_same, clsTL, y1, k1, _, rfl, iteF ?_⟩
      cases x with
      | non =>
        refine ⟨_, rfl, rfl, _, rfl, iteT (iteT ?_)⟩
        refine ⟨_, rfl, _, rfl, rfl, _, rfl, iteT ?_⟩
        exact ⟨_, rfl, _, _, _, _, _, rfl, .ty _, y2, k2, _, rfl, _, _, _, _, _, rfl, .ty _, y2, k2, rfl, q _ s1⟩
      | str z =>
        refine ⟨_, rfl, rfl, _, rfl, iteF ⟨_, rfl, _, _, _, _, _, rfl, .ty _, y2, k2, _, rfl, iteT ?_⟩⟩
        refine ⟨_, rfl, _, rfl, rfl, _, rfl, ite2 (fun _ => ?_) (fun g => absurd (decide_eq_true rfl) g)⟩
        exact ⟨_, rfl, _, _, _, _, _, rfl, .ty _, y2, k2, _, rfl, _, _, _, _, _, rfl, .ty _, y2, k2, rfl, q _ s1⟩
      | int i =>
        refine ⟨_, rfl, rfl, _, rfl, iteF ⟨_, rfl, _, _, _, _, _, rfl, .ty _, y2, k2, _, rfl, iteF ?_⟩⟩
        refine ⟨_, rfl, _, _, _, _, _, rfl, .ty _, y3, k3, _, rfl, iteT ?_⟩
        refine ⟨_, rfl, _, _, _, _, _, rfl, .ty _, y4, k4, _, rfl, _, _, _, _, _, rfl, .ty _, y4, k4, rfl, _, rfl, iteT ?_⟩
        refine ⟨_, rfl, _, rfl, rfl, ?_⟩
        have e : decide (V.int i = V.int i) = true := decide_eq_true rfl
        rw [e]
        exact q _ s1
      | _ => cases hsc
    · subst hn
      rw [hR m rfl]
      have hl := Paired.len hp
      have s1 : ∀ {H' : Hp} {p : Addr}, H' p = none → Same H' (upd H' p (.tup [.ty "tuple", .ty "list"])) := fun h => same_upd h
      refine ⟨_, rfl, sz rfl, fun p hp1 => ?_⟩
      have sA := same_upd (o := .tup [.ty "tuple", .ty "list"]) hp1
      have hh1 : (upd H p (.tup [.ty "tuple", .ty "list"]) b1 = some (.tup xs) ∧ upd H p (.tup [.ty "tuple", .ty "list"]) b2 = some (.tup ys)) ∨ (upd H p (.tup [.ty "tuple", .ty "list"]) b1 = some (.lst xs) ∧ upd H p (.tup [.ty "tuple", .ty "list"]) b2 = some (.lst ys)) := by
        rcases hh with ⟨h1, h2⟩ | ⟨h1, h2⟩
        · exact .inl ⟨sA _ _ h1, sA _ _ h2⟩
        · exact .inr ⟨sA _ _ h1, sA _ _ h2⟩
      have hp2 := upd_same (H := H) (a := p) (o := .tup [.ty "tuple", .ty "list"])
      generalize upd H p (.tup [.ty "tuple", .ty "list"]) = H1 at sA hh1 hp2 ⊢
      have hT2 : IsiT K H1 (.ref b2) true := by
        rcases hh1 with ⟨_, h⟩ | ⟨_, h⟩
        · exact isiT_tup h
        · exact isiT_lst h
      obtain ⟨t1, y1, k1⟩ := hT2
      refine ⟨_, p, _, t1, _, _, rfl, hp2, clsTL, y1, k1, _, rfl, iteT ?_⟩
      refine ⟨_, rfl, sz rfl, fun p3 hp3 => ?_⟩
      have sB := same_upd (o := .tup [.ty "tuple", .ty "list"]) hp3
      have hp4 := upd_same (H := H1) (a := p3) (o := .tup [.ty "tuple", .ty "list"])
      have hh2 : (upd H1 p3 (.tup [.ty "tuple", .ty "list"]) b1 = some (.tup xs) ∧ upd H1 p3 (.tup [.ty "tuple", .ty "list"]) b2 = some (.tup ys)) ∨ (upd H1 p3 (.tup [.ty "tuple", .ty "list"]) b1 = some (.lst xs) ∧ upd H1 p3 (.tup [.ty "tuple", .ty "list"]) b2 = some (.lst ys)) := by
        rcases hh1 with ⟨h1, h2⟩ | ⟨h1, h2⟩
        · exact .inl ⟨sB _ _ h1, sB _ _ h2⟩
        · exact .inr ⟨sB _ _ h1, sB _ _ h2⟩
      generalize upd H1 p3 (.tup [.ty "tuple", .ty "list"]) = H2 at sB hh2 hp4 ⊢
      have hT1 : IsiT K H2 (.ref b1) true := by
        rcases hh2 with ⟨h, _⟩ | ⟨h, _⟩
        · exact isiT_tup h
        · exact isiT_lst h
      obtain ⟨t2, y2, k2⟩ := hT1
      obtain ⟨bl, ⟨t3, y3, k3⟩, t4, y4, k4⟩ : ∃ bl, Isi K H2 (.ref b1) "list" bl ∧ Isi K H2 (.ref b2) "list" bl := by
        rcases hh2 with ⟨h, h'⟩ | ⟨h, h'⟩
        · exact ⟨false, isi_listT h, isi_listT h'⟩
        · exact ⟨true, isi_listL h, isi_listL h'⟩
      refine ⟨_, p3, _, t2, _, _, rfl, hp4, clsTL, y2, k2, _, rfl, iteF ?_⟩
      refine ⟨_, rfl, _, _, _, _, _, rfl, .ty _, y3, k3, _, rfl, _, _, _, _, _, rfl, .ty _, y4, k4, rfl, _, rfl, ite2 (fun g => ?_) (fun _ => ?_)⟩
      · rw [decide_eq_true rfl] at g
        cases g
      have hlen1 : SqL K H2 b1 xs ∨ SqT K H2 b1 xs := by
        rcases hh2 with ⟨h, _⟩ | ⟨h, _⟩
        · exact .inr (.inl (.inl h))
        · exact .inl (.inl (.inl h))
      have hlen2 : SqL K H2 b2 ys ∨ SqT K H2 b2 ys := by
        rcases hh2 with ⟨_, h⟩ | ⟨_, h⟩
        · exact .inr (.inl (.inl h))
        · exact .inl (.inl (.inl h))
      refine ⟨_, rfl, b1, xs, rfl, hlen1, _, rfl, b2, ys, rfl, hlen2, rfl, _, rfl, ite2 (fun g => ?_) (fun _ => ?_)⟩
      · rw [dec_int, hl, beq_self_eq_true] at g
        cases g
      refine ⟨_, rfl, b2, ys, rfl, hlen2, _, rfl, by omega, by omega, fun D hD => ?_⟩
      rw [Int.toNat_natCast]
      refine lc_none hD (fun j H3 R hj hs r => ?_) (fun H3 h3 hD3 => ?_)
      · have hjx : j < xs.length := by omega
        obtain ⟨y', hy', hyy⟩ := Paired.at_ hp (List.getElem?_eq_getElem hjx)
        have s3 := (sA.trans sB).trans hs
        have ej : (0 : Int) + (j : Int) = ((j : Nat) : Int) := by omega
        have ix1 : ∀ (R : VK), R xs[j] H3 → rIx K (.ref b1) (.int (0 + (j : Int))) H3 R := fun R r => by
          rw [ej]
          rcases hh with ⟨h, _⟩ | ⟨h, _⟩
          · exact .inr (.inl ⟨_, _, _, _, rfl, rfl, .inl (.inl (s3 _ _ h)), atI_nat (List.getElem?_eq_getElem hjx), r⟩)
          · exact .inl ⟨_, _, _, _, rfl, rfl, .inl (.inl (s3 _ _ h)), atI_nat (List.getElem?_eq_getElem hjx), r⟩
        have ix2 : ∀ (R : VK), R y' H3 → rIx K (.ref b2) (.int (0 + (j : Int))) H3 R := fun R r => by
          rw [ej]
          rcases hh with ⟨_, h⟩ | ⟨_, h⟩
          · exact .inr (.inl ⟨_, _, _, _, rfl, rfl, .inl (.inl (s3 _ _ h)), atI_nat hy', r⟩)
          · exact .inl ⟨_, _, _, _, rfl, rfl, .inl (.inl (s3 _ _ h)), atI_nat hy', r⟩
        refine ⟨_, rfl, _, rfl, ix1 _ ⟨_, rfl, _, rfl, ix2 _ ?_⟩⟩
        exact ⟨_, _, rfl, hyy.keep s3, fun H4 h4 => ⟨_, rfl, r H4 h4⟩⟩
      · refine ⟨by decide, fun e he => ⟨D, e, [], rfl, rfl, inNil he hD3, ?_⟩⟩
        exact q _ (((sA.trans sB).trans h3).trans (same_upd he)))
end
end Ms


set_option Elab.async false
set_option linter.all false
set_option maxRecDepth 100000
set_option maxHeartbeats 4000000
/-! # What the law's body needs: texts of scripts, alike steps, slices, loops -/
namespace Ms
open PySem PySem.Spec PyProof.Rows L2
theorem lns_join {ls : List Cs} (hne : ls ≠ []) (h : ∀ l ∈ ls, 10 ∉ l) : lns (mkS (TL.joinL [10] ls)) = ls := by
  rw [← join_mk (s := "\n") (by decide), lns, TL.split_join (s := 10) (S := []) (by rw [tl_S]; decide) (by decide +kernel) (by simpa using hne) (fun p hp => ?_)]
  · rw [List.map_map]
    exact List.map_id'' (fun w => tl_mkS w) ls
  · obtain ⟨l, hl, rfl⟩ := List.mem_map.mp hp
    exact h l hl
theorem len_joinN : ∀ (ls : List Cs), (TL.joinL [10] ls).length ≤ (ls.map List.length).sum + ls.length
  | [] => Nat.le_refl _
  | [l] => by show l.length ≤ l.length + 0 + 1; omega
  | l :: m :: r => by
    have := len_joinN (m :: r)
    show (l ++ ([10] ++ TL.joinL [10] (m :: r))).length ≤ _
    have e : (l :: m :: r).length = (m :: r).length + 1 := rfl
    rw [List.length_append, List.length_append, List.map_cons, List.sum_cons, e]
    show l.length + (1 + _) ≤ _
    omega
theorem join_le {ls : List Cs} {m n : Nat} (h : ∀ w ∈ ls, w.length ≤ m) (hn : ls.length ≤ n) (hmn : n * (m + 1) ≤ 4000000) : (TL.joinL [10] ls).length ≤ 4000000 := by
  have h1 := sum_le h
  have h2 : ls.length * m ≤ n * m := Nat.mul_le_mul_right _ hn
  have h3 := len_joinN ls
  rw [Nat.mul_add] at hmn
  omega
/-- what a text must be for read_script -/
theorem read_pre {ls : List Cs} {m n : Nat} (hne : ls ≠ []) (hf : ∀ l ∈ ls, 10 ∉ l) (h : ∀ w ∈ ls, w.length ≤ m) (hn : ls.length ≤ n) (hmn : n * (m + 1) ≤ 4000000) (hm : m ≤ 4000000) (hn2 : n ≤ 4000000) :
    (mkS (TL.joinL [10] ls)).length ≤ 4000000 ∧ (∀ l ∈ lns (mkS (TL.joinL [10] ls)), l.length ≤ 4000000) ∧ (lns (mkS (TL.joinL [10] ls))).length ≤ 4000000 := by
  rw [lns_join hne hf, len_mkS]
  exact ⟨join_le h hn hmn, fun l hl => Nat.le_trans (h l hl) hm, Nat.le_trans hn hn2⟩
theorem line_le {sts : List Stp} (hv : OkFrom 0 sts) (hk : ∀ st ∈ sts, okS st ∧ nLinks st ≤ 64) : ∀ l ∈ sts.map mLine, 10 ∉ l ∧ l.length ≤ 14000 := fun l hl => by
  obtain ⟨st, hst, rfl⟩ := List.mem_map.mp hl
  obtain ⟨j, hj⟩ := List.mem_iff_getElem?.mp hst
  have hok := (hv j st hj).1
  have h1 := line_len hok
  have h2 : (nLinks st + 2) * 211 ≤ 66 * 211 := Nat.mul_le_mul_right _ (by have := (hk st hst).2; omega)
  exact ⟨line_nolf hok, by omega⟩
theorem valid_of {sts : List Stp} (hv : OkFrom 0 sts) : ∀ st ∈ sts, mIsStep st = true := fun st hst => by
  obtain ⟨j, hj⟩ := List.mem_iff_getElem?.mp hst
  exact (hv j st hj).1
/-! ### equal steps are alike -/
theorem al_flats {H : Hp} {n : Nat} : ∀ {xs : List V}, xs.all sc3 = true → Paired (Alike H n) xs xs
  | [], _ => .nil
  | x :: xs, h => by
    rw [List.all_cons, Bool.and_eq_true] at h
    exact .cons (Alike.sc h.1) (al_flats h.2)
theorem sc3_of {w : Cs} {xs : List V} (h : mIsStep (.flat w xs) = true) : xs.all sc3 = true := by
  obtain ⟨many, more, _, _, ns, _, _, hx⟩ := flat_parts h
  have e : (ns.map fun (n : Nat) => V.int (n : Int)).all sc3 = true := List.all_eq_true.mpr fun x hx => by
    obtain ⟨n, _, rfl⟩ := List.mem_map.mp hx
    rfl
  rcases hx with ⟨_, rfl⟩ | ⟨z, _, _, ⟨_, rfl⟩ | ⟨v, hv, _, rfl⟩⟩
  · exact e
  · rw [List.all_append, e]; rfl
  · rw [List.all_append, e]
    have : sc3 v = true := by cases v <;> first | rfl | cases hv
    show (true && (sc3 v && true)) = true
    rw [this]
    rfl
theorem al_pairs {H : Hp} : ∀ {bs cs : List Addr} {ls : List (Nat × Nat)}, Paired (PairAt H) bs ls → Paired (PairAt H) cs ls → Paired (Alike H 1) (bs.map V.ref) (cs.map V.ref)
  | _, _, _, .nil, .nil => .nil
  | _, _, _, .cons h t, .cons g u => .cons (.inr ⟨_, _, _, _, rfl, rfl, .inl ⟨h, g⟩, (by decide : 2 ≤ 4000000), al_flats rfl⟩) (al_pairs t u)
theorem al_step {H : Hp} {v u : V} {st : Stp} (hv : StepAt H v st) (hu : StepAt H u st) (ok : okS st) (h : mIsStep st = true) : Alike H 3 v u := by
  cases st with
  | flat w xs =>
    obtain ⟨a, rfl, ha⟩ := hv
    obtain ⟨b, rfl, hb⟩ := hu
    refine .inr ⟨a, b, _, _, rfl, rfl, .inl ⟨ha, hb⟩, ?_, .cons (Alike.sc rfl) (al_flats (sc3_of h))⟩
    have := ok.2.2.2
    rw [List.length_cons]
    omega
  | world n ls =>
    obtain ⟨a, l, rfl, ha, bs, hl, hp⟩ := hv
    obtain ⟨b, m, rfl, hb, cs, hm, hq⟩ := hu
    refine .inr ⟨a, b, _, _, rfl, rfl, .inl ⟨ha, hb⟩, (by decide : 3 ≤ 4000000), .cons (Alike.sc rfl) (.cons (Alike.sc rfl) (.cons (.inr ⟨l, m, _, _, rfl, rfl, .inl ⟨hl, hm⟩, ?_, al_pairs hp hq⟩) .nil))⟩
    have h1 := Paired.len hq
    have h2 : ls.length ≤ 4000000 := ok
    rw [List.length_map]
    omega
theorem al_steps {H : Hp} : ∀ {vs us : List V} {sts : List Stp}, StepsAt H vs sts → StepsAt H us sts → (∀ st ∈ sts, okS st ∧ mIsStep st = true) → Paired (Alike H 3) vs us
  | _, _, _, .nil, .nil, _ => .nil
  | _, _, _, .cons h t, .cons g u, ok => .cons (al_step h g (ok _ List.mem_cons_self).1 (ok _ List.mem_cons_self).2) (al_steps t u fun s hs => ok s (List.mem_cons_of_mem _ hs))
/-! ### slices of the steps -/
theorem sl_drop1 {K : PySem.W.Frag} {H : Hp} {Q : VK} {b : Addr} {ws : List V} (hb : H b = some (.tup ws)) (hl : 1 ≤ ws.length) (q : ∀ c H', Same H H' → H' c = some (.tup (ws.drop 1)) → Q (.ref c) H') : rSlA K (.ref b) (some (1 : Int)) none H Q := by
  have e1 : HT.sIx ws.length 0 (some (1 : Int)) = min 1 ws.length := HT.sIx_nat ws.length 0 1
  refine ⟨b, ws, rfl, .inl (.inl hb), fun h => ?_, fun _ p hp => ?_⟩
  · rw [e1] at h
    have := h.1
    omega
  · rw [show cutV ws (some (1 : Int)) none = ws.drop 1 from cutV_n (m := 1) rfl]
    exact q p _ (same_upd hp) upd_same
theorem sl_take1 {K : PySem.W.Frag} {H : Hp} {Q : VK} {b : Addr} {ws : List V} (hb : H b = some (.tup ws)) (hl : 1 ≤ ws.length) (q : ∀ c H', Same H H' → H' c = some (.tup (ws.take 1)) → Q (.ref c) H') : rSlA K (.ref b) none (some (1 : Int)) H Q := by
  have e1 : HT.sIx ws.length ws.length (some (1 : Int)) = min 1 ws.length := HT.sIx_nat ws.length ws.length 1
  refine ⟨b, ws, rfl, .inl (.inl hb), fun h => ?_, fun _ p hp => ?_⟩
  · rw [e1] at h
    have := h.2
    refine q b H (Same.refl H) ?_
    rw [hb, List.take_of_length_le (by omega)]
  · have : cutV ws none (some (1 : Int)) = ws.take 1 := by
      show (ws.drop 0).take (HT.sIx ws.length ws.length (some (1 : Int)) - 0) = _
      rw [e1, List.drop_zero, Nat.sub_zero, Nat.min_eq_left hl]
    rw [this]
    exact q p _ (same_upd hp) upd_same
theorem cutV_0n {xs : List V} {m : Nat} : cutV xs none (some (m : Int)) = xs.take m := by
  show (xs.drop 0).take (HT.sIx xs.length xs.length (some ((m : Nat) : Int)) - 0) = _
  rw [HT.sIx_nat, List.drop_zero, Nat.sub_zero]
  by_cases h : m ≤ xs.length
  · rw [Nat.min_eq_left h]
  · rw [Nat.min_eq_right (by omega), List.take_of_length_le (by omega), List.take_of_length_le (by omega)]
def ins (sts : List Stp) (n : Nat) (s : String) : List Cs := (sts.take n).map mLine ++ cd s :: (sts.drop n).map mLine
theorem ins_strs (sts : List Stp) (n : Nat) (s : String) : (((sts.map mLine).map mkS).map V.str).take n ++ [V.str (S s)] ++ (((sts.map mLine).map mkS).map V.str).drop n = ((ins sts n s).map mkS).map V.str := by
  rw [ins, List.map_append, List.map_append, List.map_cons, List.map_cons, mkS_cd, List.map_take, List.map_take, List.map_take, List.map_drop, List.map_drop, List.map_drop, List.append_assoc]
  rfl
theorem ins_ok {sts : List Stp} {n : Nat} {s : String} (h : ∀ l ∈ sts.map mLine, 10 ∉ l ∧ l.length ≤ 14000) (hs : 10 ∉ cd s ∧ (cd s).length ≤ 100) : ∀ l ∈ ins sts n s, 10 ∉ l ∧ l.length ≤ 14000 := fun l hl => by
  rcases List.mem_append.mp hl with hl | hl
  · rw [List.map_take] at hl
    exact h l (List.mem_of_mem_take hl)
  · rcases List.mem_cons.mp hl with rfl | hl
    · exact ⟨hs.1, by omega⟩
    · rw [List.map_drop] at hl
      exact h l (List.mem_of_mem_drop hl)
theorem ins_len (sts : List Stp) (n : Nat) (s : String) : (ins sts n s).length = sts.length + 1 := by
  rw [ins, List.length_append, List.length_cons, List.length_map, List.length_map, List.length_take, List.length_drop]
  omega
theorem rt1 (s : String) : S s = mkS (TL.joinL [10] ([s].map cd)) := (mkS_cd s).symm
theorem rt7 : S "world 2\n" = mkS (TL.joinL [10] (["world 2", ""].map cd)) := TL.ext_tl (by rw [tl_S, tl_mkS]; decide +kernel)
theorem rt8 : (S "world 2" ++ ⟨(List.replicate 199 (S "\nalike").cps.toList).flatten.toArray⟩ : Str) = mkS (TL.joinL [10] (("world 2" :: List.replicate 199 "alike").map cd)) := TL.ext_tl (by
  rw [TL.tl_append, tl_S, tl_mkS]
  show cd "world 2" ++ (List.replicate 199 (TL.tl (S "\nalike"))).flatten = _
  rw [tl_S]
  decide +kernel)
theorem rt9 : (S "world 2" ++ ⟨(List.replicate 200 (S "\nalike").cps.toList).flatten.toArray⟩ : Str) = mkS (TL.joinL [10] (("world 2" :: List.replicate 200 "alike").map cd)) := TL.ext_tl (by
  rw [TL.tl_append, tl_S, tl_mkS]
  show cd "world 2" ++ (List.replicate 200 (TL.tl (S "\nalike"))).flatten = _
  rw [tl_S]
  decide +kernel)
theorem rows_sz : ∀ r ∈ rows, (∀ s ∈ r.1, (cd s).length ≤ 100) ∧ r.1.length ≤ 300 ∧ r.1 ≠ [] := by decide +kernel
theorem row_mem (i : Nat) {x : List String × Option Nat} (h : rows[i]? = some x) : x ∈ rows := List.mem_of_getElem? h
/-! ### what is written: outcomes -/
theorem wr_drop {sts : List Stp} (hv : OkFrom 0 sts) (h20 : sts.length ≤ 20) : mWrite (sts.drop 1) = some (if sts.length > 1 then .int 0 else .non) := by
  unfold mWrite
  rw [List.length_drop]
  by_cases h : sts.length > 1
  · rw [if_neg (by omega), if_pos h]
    cases sts with
    | nil => simp at h
    | cons s r =>
      cases r with
      | nil => simp at h
      | cons t r =>
        show (mNeed 0 (t :: r)).map _ = _
        have ht := (hv 1 t rfl).2
        rw [mNeed_head (by rw [ht]; rfl)]
        rfl
  · rw [if_pos (by omega), if_neg h]
theorem wr_bad {sts : List Stp} {b : Stp} (hv : OkFrom 0 sts) (h1 : 1 ≤ sts.length) (h20 : sts.length ≤ 20) (hb : mIsStep b = false ∨ isWorld b = true) : mWrite (sts ++ [b]) = some (.int (sts.length : Nat)) := by
  unfold mWrite
  have hl : (sts ++ [b]).length = sts.length + 1 := by rw [List.length_append]; rfl
  rw [if_neg (by omega), mNeed_bad hv (fun e => by rw [e] at h1; simp at h1) hb]
  rfl
theorem wr_ok {sts : List Stp} (hv : OkFrom 0 sts) (h1 : 1 ≤ sts.length) (h20 : sts.length ≤ 20) : mWrite sts = none := by
  unfold mWrite
  rw [if_neg (by omega), mNeed_none hv]
  rfl
theorem wr_nil : mWrite [] = some .non := rfl
theorem wr_many {sts : List Stp} (h : 200 < sts.length) : mWrite sts = some .non := by
  unfold mWrite
  rw [if_pos (.inr h)]
def ValOk (H : Hp) (v out : V) : Prop := ∃ b, v = .ref b ∧ ((∃ xs, H b = some (.lst xs) ∧ out = .non) ∨ ∃ ws sts, H b = some (.tup ws) ∧ StepsAt H ws sts ∧ (∀ st ∈ sts, okS st) ∧ sts.length ≤ 1000 ∧ mWrite sts = some out)
theorem ValOk.keep {H H' : Hp} {v out : V} {f : Addr} {ys : List V} (h : ValOk H v out) (hf : v ≠ .ref f) (k : ∀ b o, b ≠ f → H b = some o → H' b = some o) (hfl : H f = some (.lst ys)) : ValOk H' v out := by
  have tk : TupK H H' := fun b xs e => k b _ (fun g => by rw [g, hfl] at e; cases e) e
  obtain ⟨b, rfl, h⟩ := h
  refine ⟨b, rfl, ?_⟩
  rcases h with ⟨xs, e, ho⟩ | ⟨ws, sts, e, hst, h1, h2, h3⟩
  · exact .inl ⟨xs, k b _ (fun g => hf (by rw [g])) e, ho⟩
  · exact .inr ⟨ws, sts, tk _ _ e, hst.keep tk, h1, h2, h3⟩
theorem ValOk.same {H H' : Hp} {v out : V} (h : ValOk H v out) (s : Same H H') : ValOk H' v out := by
  obtain ⟨b, rfl, h⟩ := h
  refine ⟨b, rfl, ?_⟩
  rcases h with ⟨xs, e, ho⟩ | ⟨ws, sts, e, hst, h1, h2, h3⟩
  · exact .inl ⟨xs, s _ _ e, ho⟩
  · exact .inr ⟨ws, sts, s _ _ e, hst.keep (Same.tk s), h1, h2, h3⟩
theorem val_write {a : Ad} {H : Hp} {v out : V} {Q : VK} {E : XK} (h : ValOk H v out) (he : ErrAt H a.CS out E) : spWriteScript a [v] H Q E := by
  obtain ⟨b, rfl, h⟩ := h
  refine ⟨b, rfl, ?_⟩
  rcases h with ⟨xs, e, rfl⟩ | ⟨ws, sts, e, hst, h1, h2, h3⟩
  · exact .inl ⟨xs, e, he⟩
  · exact .inr ⟨ws, sts, e, hst, h1, h2, (fun hno => by rw [h3] at hno; cases hno), fun v hv => by rw [h3] at hv; cases hv; exact he⟩
theorem sz4 {n : Nat} (h : Nat.ble n 4000000 = true) : n ≤ 4000000 := Nat.le_of_ble_eq_true h
theorem ok3a : okS (.flat (cd "tick") [.bl true]) := ⟨by decide, rfl, (fun x hx => by
  rcases List.mem_cons.mp hx with rfl | hx
  · exact fun _ e => (by cases e)
  · cases hx), by decide⟩
theorem ok3b : okS (.flat (cd "tick") []) := ⟨by decide, rfl, (fun x hx => by cases hx), by decide⟩
theorem ok3c : okS (.flat (cd "show") [.int 0, .str (S "")]) := ⟨by decide, rfl, (fun x hx => by
  rcases List.mem_cons.mp hx with rfl | hx
  · exact bd_int _
  rcases List.mem_cons.mp hx with rfl | hx
  · exact fun y e => by
      cases e
      exact (by decide +kernel : (S "").length ≤ 4000000)
  · cases hx), by decide⟩
theorem rep_paired {H : Hp} {ws : List V} {sts : List Stp} (h : StepsAt H ws sts) : ∀ n : Nat, StepsAt H (List.replicate n ws).flatten (List.replicate n sts).flatten
  | 0 => .nil
  | n + 1 => by
    rw [List.replicate_succ, List.flatten_cons, List.replicate_succ, List.flatten_cons]
    exact Paired.app h (rep_paired h n)
theorem rep_len {α : Type} {l : List α} (n : Nat) : (List.replicate n l).flatten.length = n * l.length := by
  rw [List.length_flatten, List.map_replicate, List.sum_replicate_nat]
section
variable {X : Cx} {K : PySem.W.Frag}
theorem pe_joinK {o e : Expr} {to te : TE} {apos pos : Pos} (hK : X.K = K) (ho : PE X o to) (he : PE X e te) (hs : starEach [e] X.env = [(false, eval e X.env)] := by rfl) (hbase : attributeBase o "join" X.env (eval o X.env) = eval o X.env := by rfl) (hline : (apos.endLine == pos.line) = true := by rfl) :
    PE X (.Call (.Attribute o "join" apos) [e] [] pos) (tM1 (fun x xs H Q => ∃ a p, ∃ ys : List Str, x = .str a ∧ xs = [.ref p] ∧ (SqL K H p (ys.map V.str) ∨ SqT K H p (ys.map V.str)) ∧
      (ys.map (·.length)).sum + ys.length * a.length ≤ 16777216 ∧ Q (.str (Txt.join a ys)) H) to te) := by
  subst hK
  exact pe_join ho he hs hbase hline
theorem sl_listK (hK : X.K = K) : SlR X (rSlL K) := by
  subst hK
  exact sl_list
end
end Ms

set_option Elab.async false
set_option linter.all false
set_option maxRecDepth 100000
set_option maxHeartbeats 4000000
/-! # The walk, 15: law -/
namespace Ms
open PySem PySem.Spec PyProof.Rows L2
section
variable {P : Program} {w : World} {K : PySem.W.Frag} {mg : Str → Option Value} {base : Heap} {a : Ad} {k : Nat}
abbrev sLaw : Stmt := topS 52
theorem scLaw : FnScope ["_law_script_here", "_law_row", "_law_steps", "_law_lines", "_law_bad", "_law_fine", "_law_at", "_law_rows", "_law_found", "_law_value", "_law_many", "_law_some", "_law_due", "_law_told", "error", "_law_text", "_law_step_here"] ["_law_script_here"] (defScope sLaw) := ⟨rfl, rfl, rfl, by decide +kernel, rfl, by decide +kernel, by decide +kernel⟩
def spLaw (K : PySem.W.Frag) : Sp := fun vs H Q _ => ∃ (p : Addr) (xs : List Int), vs = [.ref p] ∧ SqL K H p (xs.map V.int) ∧ ∀ H', Q (.bl true) H'
theorem ok_law {f : Addr} {fd : FuncData} (F : L2.Fun K "law" "law" sLaw f fd) (B : Bu P w K mg a) (c__law_script : Cl P w K mg base CX0 k "_law_script" (spLawScript K)) (c__law_alike : Cl P w K mg base CX0 k "_law_alike" (spLawAlike 4)) (c__law_line : Cl P w K mg base CX0 k "_law_line" spLawLine) (c__law_taken : Cl P w K mg base CX0 k "_law_taken" (spLawTaken K)) (c_write_script : Cl P w K mg base (L2.CX P w) k "write_script" (spWriteScript a)) (c_read_script : Cl P w K mg base (L2.CX P w) k "read_script" (spReadScript a)) (c__law_pick : Cl P w K mg base CX0 k "_law_pick" (spLawPick K)) : FnOk P w K mg base CX0 (k + 1) f fd ["_law_script_here"] (spLaw K) :=
  F.ok scLaw (fun vs H Q E h => by obtain ⟨_, _, e, _⟩ := h; rw [e]; rfl) (fun cdv A outer s H vs Q E hr h => by
    obtain ⟨p, xs, rfl, hp, q⟩ := h
    refine ⟨_, (pss_cons (ps_set (i := 1) scLaw.nd rfl (Or.inl rfl) (pe_lst (pa_cons (pv 0) (pa_cons pe_int (pa_cons pe_int (pa_cons pe_int pa_nil))))))
    (pss_cons (ps_set (i := 2) scLaw.nd rfl (Or.inl rfl) (pc0 c__law_script hr (Nat.le_refl _) rfl (pa_cons (pv 1) pa_nil)))
    (pss_cons (ps_setLc (i := 3) (own := [("_law_step_here", 16)]) (g := (gName 16)) (tt := tYes) rfl scLaw.nd rfl rfl (sw_true rfl rfl rfl (by decide +kernel)) (pi_tup (pv 2)) (blkOk_by (own := [("_law_step_here", 16)]) (N := ["_law_script_here", "_law_row", "_law_steps", "_law_lines", "_law_bad", "_law_fine", "_law_at", "_law_rows", "_law_found", "_law_value", "_law_many", "_law_some", "_law_due", "_law_told", "error", "_law_text", "_law_step_here"]) (sc := defScope sLaw) (by decide +kernel)) (fun _ _ _ _ _ => (pg_name (i := 16) scLaw.nd rfl (Or.inl rfl))) (fun _ _ _ _ _ => pts_nil) (fun _ _ _ _ _ => (pc0 c__law_line hr (Nat.le_refl _) rfl (pa_cons (pv 16) pa_nil))))
    (pss_cons (ps_if (pt_not (pt_val (pc0 c__law_alike hr (Nat.le_refl _) rfl (pa_cons (pcX c_write_script hr (Nat.le_refl _) passNo rfl (pa_cons (pv 2) pa_nil)) (pa_cons (pe_join pe_str (pv 3)) pa_nil))))) (pss_one (ps_ret pe_bl)) pss_nil)
    (pss_cons (ps_if (pt_not (pt_val (pc0 c__law_alike hr (Nat.le_refl _) rfl (pa_cons (pcX c_read_script hr (Nat.le_refl _) passNo rfl (pa_cons (pe_join pe_str (pv 3)) pa_nil)) (pa_cons (pv 2) pa_nil))))) (pss_one (ps_ret pe_bl)) pss_nil)
    (pss_cons (ps_set (i := 4) scLaw.nd rfl (Or.inl rfl) (pe_lst (pa_cons pe_str (pa_cons pe_str (pa_cons pe_str (pa_cons pe_str (pa_cons pe_str (pa_cons pe_str (pa_cons pe_str (pa_cons pe_str (pa_cons pe_str (pa_cons pe_str pa_nil))))))))))))
    (pss_cons (ps_set (i := 4) scLaw.nd rfl (Or.inl rfl) (pe_op op_cat (pv 4) (pe_lst (pa_cons pe_str (pa_cons pe_str (pa_cons pe_str (pa_cons pe_str (pa_cons pe_str pa_nil))))))))
    (pss_cons (ps_set (i := 4) scLaw.nd rfl (Or.inl rfl) (pe_op op_cat (pv 4) (pe_lst (pa_cons pe_str (pa_cons pe_str (pa_cons pe_str (pa_cons pe_str (pa_cons pe_str pa_nil))))))))
    (pss_cons (ps_set (i := 4) scLaw.nd rfl (Or.inl rfl) (pe_op op_cat (pv 4) (pe_lst (pa_cons pe_str (pa_cons pe_str (pa_cons pe_str pa_nil))))))
    (pss_cons (ps_set (i := 4) scLaw.nd rfl (Or.inl rfl) (pe_op op_cat (pv 4) (pe_lst (pa_cons pe_str (pa_cons pe_str (pa_cons pe_str (pa_cons pe_str (pa_cons pe_str (pa_cons pe_str pa_nil)))))))))
    (pss_cons (ps_set (i := 4) scLaw.nd rfl (Or.inl rfl) (pe_op op_cat (pv 4) (pe_lst (pa_cons pe_str (pa_cons pe_str (pa_cons pe_str (pa_cons pe_str pa_nil)))))))
    (pss_cons (ps_set (i := 5) scLaw.nd rfl (Or.inl rfl) (pe_lst (pa_cons pe_str (pa_cons pe_str (pa_cons pe_str (pa_cons pe_str (pa_cons pe_str pa_nil)))))))
    (pss_cons (ps_set (i := 5) scLaw.nd rfl (Or.inl rfl) (pe_op op_cat (pv 5) (pe_lst (pa_cons pe_str (pa_cons pe_str pa_nil)))))
    (pss_cons (ps_set (i := 6) scLaw.nd rfl (Or.inl rfl) (pe_op op_add pe_int (pc0 c__law_taken hr (Nat.le_refl _) rfl (pa_cons (pv 1) (pa_cons (pe_callB call_len_seq (by rfl) B.b_len bt_len (pa_cons (pv 3) pa_nil)) pa_nil)))))
    (pss_cons (ps_for PassesOwn.never rfl (pi_list (pe_lst (pa_cons (pe_tup (pa_cons (pc0 c__law_pick hr (Nat.le_refl _) rfl (pa_cons (pv 1) (pa_cons (pv 4) pa_nil))) (pa_cons (pv 6) pa_nil))) (pa_cons (pe_tup (pa_cons (pc0 c__law_pick hr (Nat.le_refl _) rfl (pa_cons (pv 1) (pa_cons (pv 4) pa_nil))) (pa_cons (pv 6) pa_nil))) (pa_cons (pe_tup (pa_cons (pc0 c__law_pick hr (Nat.le_refl _) rfl (pa_cons (pv 1) (pa_cons (pv 5) pa_nil))) (pa_cons pe_non pa_nil))) pa_nil))))) (pg_tup rfl (pgs_cons (pg_name (i := 11) scLaw.nd rfl (Or.inl rfl)) (pgs_cons (pg_name (i := 12) scLaw.nd rfl (Or.inl rfl)) pgs_nil)))
    (pss_cons (ps_set (i := 13) scLaw.nd rfl (Or.inl rfl) pe_non)
    (pss_cons (ps_try_as (i := 14) rfl rfl scLaw.nd rfl rfl ⟨rfl, by decide, Or.inl B.g_StoreError⟩ takes0
      (fun W pn xe tk _ => (pss_one (ps_expr (pcX c_read_script hr (Nat.le_refl _) (passAt tk) rfl (pa_cons (pe_joinK rfl pe_str (pe_op op_cat (pe_op op_cat (pe_slice (sl_listK rfl) (pv 3) po_none (po_some (pv 6))) (pe_lst (pa_cons (pv 11) pa_nil))) (pe_slice (sl_listK rfl) (pv 3) (po_some (pv 6)) po_none))) pa_nil)))))
      (fun a oe cls d pn hz hf => (pss_one (ps_set (i := 13) scLaw.nd rfl (Or.inl rfl) (pe_ifExp (pt_val (pe_callB (call_isED B.xBadLine hz hf) (by rfl) B.b_isinstance bt_isinstance (pa_cons (pv 14) (pa_cons (C8.pe_gc rfl B.c_BadLine) pa_nil)))) (pe_byBad B.bl hz hf (pv 14)) pe_str)))))
    (pss_one (ps_if (pt_not (pt_val (pc0 c__law_alike hr (Nat.le_refl _) rfl (pa_cons (pv 13) (pa_cons (pv 12) pa_nil))))) (pss_one (ps_ret pe_bl)) pss_nil)))))
    (pss_cons (ps_set (i := 7) scLaw.nd rfl (Or.inl rfl) (pe_lst (pa_cons (pe_tup (pa_cons pe_str (pa_cons pe_int pa_nil))) (pa_cons (pe_tup (pa_cons pe_str (pa_cons pe_int pa_nil))) (pa_cons (pe_tup (pa_cons pe_str (pa_cons pe_int pa_nil))) (pa_cons (pe_tup (pa_cons pe_str (pa_cons pe_int pa_nil))) (pa_cons (pe_tup (pa_cons pe_str (pa_cons pe_int pa_nil))) (pa_cons (pe_tup (pa_cons pe_str (pa_cons pe_non pa_nil))) pa_nil))))))))
    (pss_cons (ps_set (i := 7) scLaw.nd rfl (Or.inl rfl) (pe_op op_cat (pv 7) (pe_lst (pa_cons (pe_tup (pa_cons pe_str (pa_cons pe_int pa_nil))) (pa_cons (pe_tup (pa_cons (pe_op op_add_str pe_str (pe_op op_mul_text pe_str pe_int)) (pa_cons pe_non pa_nil))) (pa_cons (pe_tup (pa_cons (pe_op op_add_str pe_str (pe_op op_mul_text pe_str pe_int)) (pa_cons pe_int pa_nil))) pa_nil))))))
    (pss_cons (ps_for PassesOwn.never rfl (pi_list (pv 7)) (pg_tup rfl (pgs_cons (pg_name (i := 15) scLaw.nd rfl (Or.inl rfl)) (pgs_cons (pg_name (i := 12) scLaw.nd rfl (Or.inl rfl)) pgs_nil)))
    (pss_cons (ps_set (i := 13) scLaw.nd rfl (Or.inl rfl) pe_non)
    (pss_cons (ps_try_as (i := 14) rfl rfl scLaw.nd rfl rfl ⟨rfl, by decide, Or.inl B.g_StoreError⟩ takes0
      (fun W pn xe tk _ => (pss_one (ps_expr (pcX c_read_script hr (Nat.le_refl _) (passAt tk) rfl (pa_cons (pv 15) pa_nil)))))
      (fun a oe cls d pn hz hf => (pss_one (ps_set (i := 13) scLaw.nd rfl (Or.inl rfl) (pe_ifExp (pt_val (pe_callB (call_isED B.xBadLine hz hf) (by rfl) B.b_isinstance bt_isinstance (pa_cons (pv 14) (pa_cons (C8.pe_gc rfl B.c_BadLine) pa_nil)))) (pe_byBad B.bl hz hf (pv 14)) pe_str)))))
    (pss_one (ps_if (pt_not (pt_val (pc0 c__law_alike hr (Nat.le_refl _) rfl (pa_cons (pv 13) (pa_cons (pv 12) pa_nil))))) (pss_one (ps_ret pe_bl)) pss_nil)))))
    (pss_cons (ps_set (i := 8) scLaw.nd rfl (Or.inl rfl) (pe_lst pa_nil))
    (pss_cons (ps_set (i := 7) scLaw.nd rfl (Or.inl rfl) (pe_lst (pa_cons (pe_slice sl_tupA (pv 2) (po_some pe_int) po_none) (pa_cons (pe_op op_catA (pv 2) (pe_tup (pa_cons (pe_tup (pa_cons pe_str (pa_cons pe_bl pa_nil))) pa_nil))) (pa_cons (pe_op op_catA (pv 2) (pe_tup (pa_cons (pe_tup (pa_cons pe_str pa_nil)) pa_nil))) (pa_cons (pe_op op_catA (pv 2) (pe_slice sl_tupA (pv 2) po_none (po_some pe_int))) (pa_cons (pe_tup pa_nil) (pa_cons (pe_callTy call_list_of (by rfl) B.b_list bt_list (pa_cons (pv 2) pa_nil)) pa_nil))))))))
    (pss_cons (ps_for PassesOwn.never rfl (pi_list (pe_op op_cat (pv 7) (pe_lst (pa_cons (pe_op op_catA (pv 2) (pe_tup (pa_cons (pe_tup (pa_cons pe_str (pa_cons pe_int (pa_cons pe_str pa_nil)))) pa_nil))) (pa_cons (pe_op op_repT (pe_slice sl_tupA (pv 2) po_none (po_some pe_int)) pe_int) pa_nil))))) (pg_name (i := 9) scLaw.nd rfl (Or.inl rfl))
    (pss_cons (ps_set (i := 13) scLaw.nd rfl (Or.inl rfl) pe_non)
    (pss_cons (ps_try_as (i := 14) rfl rfl scLaw.nd rfl rfl ⟨rfl, by decide, Or.inl B.g_StoreError⟩ takes0
      (fun W pn xe tk _ => (pss_one (ps_expr (pcX c_write_script hr (Nat.le_refl _) (passAt tk) rfl (pa_cons (pv 9) pa_nil)))))
      (fun a oe cls d pn hz hf => (pss_one (ps_set (i := 13) scLaw.nd rfl (Or.inl rfl) (pe_ifExp (pt_val (pe_callB (call_isED B.xBadSteps hz hf) (by rfl) B.b_isinstance bt_isinstance (pa_cons (pv 14) (pa_cons (C8.pe_gc rfl B.c_BadSteps) pa_nil)))) (pe_byBad B.bs hz hf (pv 14)) pe_str)))))
    (pss_one (ps_expr (pe_bm PySem.F.plainAttrs_list PySem.F.slot_list_append PySem.F.type_list_append mt_append (pv 8) (pa_cons (pv 13) pa_nil)))))))
    (pss_cons (ps_set (i := 10) scLaw.nd rfl (Or.inl rfl) (pe_callB call_len_seq (by rfl) B.b_len bt_len (pa_cons (pv 2) pa_nil)))
    (pss_one (ps_ret (pc0 c__law_alike hr (Nat.le_refl _) rfl (pa_cons (pv 8) (pa_cons (pe_lst (pa_cons (pe_ifExp (pt_cmpR op_gt (pv 10) pe_int (nomark _)) pe_int pe_non) (pa_cons (pv 10) (pa_cons (pv 10) (pa_cons (pv 10) (pa_cons pe_non (pa_cons pe_non (pa_cons (pv 10) (pa_cons pe_non pa_nil))))))))) pa_nil))))))))))))))))))))))))))), ?_⟩
    refine ⟨_, rfl, sz rfl, fun r hr => ?_⟩
    have ok1 : RowOk K ⟨r, p, xs⟩ (upd H r (.lst [.ref p, .int 0, .int 10719, .int 0])) :=
      ⟨0, 10719, 0, upd_same, sql_ne hp fun o e _ => by rw [upd_ne (ne_of_none e hr)]; exact e, by decide⟩
    refine ⟨_, rfl, ⟨r, p, xs⟩, rfl, ok1, fun b ws sts H2 k2 hb hst hv hk h1 h20 => ?_⟩
    have ok2 := k2.2 ok1
    have hlw := Paired.len hst
    have hokA : ∀ st ∈ sts, okS st := fun st hs => (hk st hs).1
    have hval := valid_of hv
    have hll := line_le hv hk
    have hlne : sts.map mLine ≠ [] := fun e => by
      have := congrArg List.length e
      rw [List.length_map] at this
      simp at this
      rw [this] at h1
      simp at h1
    have hmw := wr_ok hv h1 h20
    refine ⟨_, rfl, b, rfl, ⟨_, .inl (.inl hb)⟩, fun D hD => ?_⟩
    refine lc_mapS (walk_tup (xs := ws)) (fun j x => ws[j]? = some x) (fun j y H' => ∃ st, sts[j]? = some st ∧ y = strV (mLine st)) (by omega) hD (fun i H x H' h => h) (fun H1 hs => .inl (.inl (hs _ _ hb)))
      (fun j y H1 H2 h tk => h) ?_ ?_
    · intro j x H3 R hj hx hs rr
      obtain ⟨st, hsti, hat⟩ := Paired.at_ hst hx
      have hm := List.mem_of_getElem? hsti
      refine ⟨wipe1, x, slot1 (by show 16 < 17; decide), x, st, rfl, hat.keep (Same.tk hs), hval st hm, Nat.le_trans (hk st hm).2 (by decide), ?_, fun H4 h4 => rr _ H4 h4 ⟨st, hsti, rfl⟩⟩
      have := hokA st hm
      cases st with
      | flat w xs => exact this.1
      | world n ls => trivial
    intro ys H3 s3 hD3 hlen3 hF3
    have hys : ys = sts.map fun st => strV (mLine st) := map_of (by omega) hF3
    have hyl : ys = ((sts.map mLine).map mkS).map V.str := by
      rw [hys, List.map_map, List.map_map]
      rfl
    rw [hyl] at hD3
    clear hF3 hys hyl
    have hb3 := s3 _ _ hb
    have hst3 := hst.keep (Same.tk s3)
    have k3 := KpR.same (K := K) (R := ⟨r, p, xs⟩) s3
    have ok3 := k3.2 ok2
    have hsum : (((sts.map mLine).map mkS).map (·.length)).sum + ((sts.map mLine).map mkS).length * (S "\n").length ≤ 16777216 := sum_mk (m := 14000) (n := 50) (fun l hl => (hll l hl).2) (by rw [List.length_map]; omega) (by decide) (s := "\n") (c := 10) (by decide)
    have hjoin : Txt.join (S "\n") ((sts.map mLine).map mkS) = mkS (TL.joinL [10] (sts.map mLine)) := join_mk (s := "\n") (c := 10) (by decide)
    have hlns : lns (mkS (TL.joinL [10] (sts.map mLine))) = sts.map mLine := lns_join hlne fun l hl => (hll l hl).1
    have hpre := read_pre (m := 14000) (n := 50) hlne (fun l hl => (hll l hl).1) (fun l hl => (hll l hl).2) (by rw [List.length_map]; omega) (by decide) (by decide) (by decide)
    refine ⟨_, rfl, b, rfl, .inr ⟨ws, sts, hb3, hst3, hokA, by omega, fun _ => ⟨fun st hs => ⟨hval st hs, (hk st hs).2⟩, by omega, fun H4 s4 => ?_⟩, fun v hv => by rw [hmw] at hv; cases hv⟩⟩
    have hD4 := s4 _ _ hD3
    refine ⟨⟨_, rfl⟩, _, rfl, _, D, (sts.map mLine).map mkS, rfl, rfl, .inl (.inl (.inl hD4)), hsum, ?_⟩
    rw [show Txt.join (Str.ofString "\n") ((sts.map mLine).map mkS) = mkS (TL.joinL [10] (sts.map mLine)) from hjoin]
    refine ⟨_, _, rfl, Alike.sc rfl, fun H5 s5 => ⟨_, rfl, iteF ?_⟩⟩
    have s35 := s4.trans s5
    have hD5 := s35 _ _ hD3
    refine ⟨⟨_, rfl⟩, _, rfl, _, D, (sts.map mLine).map mkS, rfl, rfl, .inl (.inl (.inl hD5)), hsum, ?_⟩
    rw [show Txt.join (Str.ofString "\n") ((sts.map mLine).map mkS) = mkS (TL.joinL [10] (sts.map mLine)) from hjoin]
    refine ⟨_, rfl, hpre.1, hpre.2.1, hpre.2.2, fun sts' hr' p' ws' H6 s6 hp' hst' hok' => ?_, fun i hi => ?_⟩
    rotate_left
    · rw [hlns, mRead_ok hv (by omega)] at hi
      cases hi
    rw [hlns, mRead_ok hv (by omega)] at hr'
    cases hr'
    have s36 := s35.trans s6
    refine ⟨_, rfl, _, _, rfl, .inr ⟨p', b, ws', ws, rfl, rfl, .inl ⟨hp', s36 _ _ hb3⟩, by omega, al_steps hst' (hst3.keep (Same.tk s36)) fun st hs => ⟨hokA st hs, hval st hs⟩⟩, fun H7 s7 => ⟨_, rfl, iteF ?_⟩⟩
    have s37 := s36.trans s7
    have hb7 := s37 _ _ hb3
    have hD7 := s37 _ _ hD3
    have hst7 := hst3.keep (Same.tk s37)
    have ok7 := (KpR.same (K := K) (R := ⟨r, p, xs⟩) s37).2 ok3
    have hrD : D ≠ r := fun e => by
      obtain ⟨i, s', t, g1, _⟩ := ok2
      rw [e] at hD
      rw [hD] at g1
      cases g1
    clear s3 s4 s5 s35 s6 s36 s7 s37 hb3 hD3 hst3 k3 ok3 hD4 hD5 hst' hp' hok'
    refine ⟨sz rfl, fun lb0 hlb0 => ?_⟩
    have slb0 : Same H7 (upd H7 lb0 (.lst [V.str "", V.str " ", V.str "tick", V.str "tick  0", V.str "tick 0 ", V.str " tick 0", V.str "tick 00", V.str "tick -1", V.str "tick 1048577", V.str "ticks 0"])) := same_upd hlb0
    have elb0 := upd_same (H := H7) (a := lb0) (o := .lst [V.str "", V.str " ", V.str "tick", V.str "tick  0", V.str "tick 0 ", V.str " tick 0", V.str "tick 00", V.str "tick -1", V.str "tick 1048577", V.str "ticks 0"])
    generalize upd H7 lb0 (.lst [V.str "", V.str " ", V.str "tick", V.str "tick  0", V.str "tick 0 ", V.str " tick 0", V.str "tick 00", V.str "tick -1", V.str "tick 1048577", V.str "ticks 0"]) = Glb0 at slb0 elb0 ⊢
    refine ⟨_, rfl, sz rfl, fun mlb1 hmlb1 => ⟨lb0, mlb1, _, _, rfl, rfl, same_upd hmlb1 _ _ elb0, upd_same, sz rfl, fun lb1 hlb1 => ?_⟩⟩
    have slb1 : Same Glb0 (upd (upd Glb0 mlb1 (.lst [V.str "tick x", V.str "flush 0", V.str "show 0", V.str "show 0 fruit", V.str "show 0 ''"])) lb1 (.lst ([V.str "", V.str " ", V.str "tick", V.str "tick  0", V.str "tick 0 ", V.str " tick 0", V.str "tick 00", V.str "tick -1", V.str "tick 1048577", V.str "ticks 0"] ++ [V.str "tick x", V.str "flush 0", V.str "show 0", V.str "show 0 fruit", V.str "show 0 ''"]))) := (same_upd hmlb1).trans (same_upd hlb1)
    have elb1 := upd_same (H := upd Glb0 mlb1 (.lst [V.str "tick x", V.str "flush 0", V.str "show 0", V.str "show 0 fruit", V.str "show 0 ''"])) (a := lb1) (o := .lst ([V.str "", V.str " ", V.str "tick", V.str "tick  0", V.str "tick 0 ", V.str " tick 0", V.str "tick 00", V.str "tick -1", V.str "tick 1048577", V.str "ticks 0"] ++ [V.str "tick x", V.str "flush 0", V.str "show 0", V.str "show 0 fruit", V.str "show 0 ''"]))
    generalize upd (upd Glb0 mlb1 (.lst [V.str "tick x", V.str "flush 0", V.str "show 0", V.str "show 0 fruit", V.str "show 0 ''"])) lb1 (.lst ([V.str "", V.str " ", V.str "tick", V.str "tick  0", V.str "tick 0 ", V.str " tick 0", V.str "tick 00", V.str "tick -1", V.str "tick 1048577", V.str "ticks 0"] ++ [V.str "tick x", V.str "flush 0", V.str "show 0", V.str "show 0 fruit", V.str "show 0 ''"])) = Glb1 at slb1 elb1 ⊢
    refine ⟨_, rfl, sz rfl, fun mlb2 hmlb2 => ⟨lb1, mlb2, _, _, rfl, rfl, same_upd hmlb2 _ _ elb1, upd_same, sz rfl, fun lb2 hlb2 => ?_⟩⟩
    have slb2 : Same Glb1 (upd (upd Glb1 mlb2 (.lst [V.str "write 0 'a'", V.str "write 0 'a' ##1", V.str "write 0 'a' #01", V.str "write 0 'a' #-0", V.str "write 0 'a' x"])) lb2 (.lst (([V.str "", V.str " ", V.str "tick", V.str "tick  0", V.str "tick 0 ", V.str " tick 0", V.str "tick 00", V.str "tick -1", V.str "tick 1048577", V.str "ticks 0"] ++ [V.str "tick x", V.str "flush 0", V.str "show 0", V.str "show 0 fruit", V.str "show 0 ''"]) ++ [V.str "write 0 'a'", V.str "write 0 'a' ##1", V.str "write 0 'a' #01", V.str "write 0 'a' #-0", V.str "write 0 'a' x"]))) := (same_upd hmlb2).trans (same_upd hlb2)
    have elb2 := upd_same (H := upd Glb1 mlb2 (.lst [V.str "write 0 'a'", V.str "write 0 'a' ##1", V.str "write 0 'a' #01", V.str "write 0 'a' #-0", V.str "write 0 'a' x"])) (a := lb2) (o := .lst (([V.str "", V.str " ", V.str "tick", V.str "tick  0", V.str "tick 0 ", V.str " tick 0", V.str "tick 00", V.str "tick -1", V.str "tick 1048577", V.str "ticks 0"] ++ [V.str "tick x", V.str "flush 0", V.str "show 0", V.str "show 0 fruit", V.str "show 0 ''"]) ++ [V.str "write 0 'a'", V.str "write 0 'a' ##1", V.str "write 0 'a' #01", V.str "write 0 'a' #-0", V.str "write 0 'a' x"]))
    generalize upd (upd Glb1 mlb2 (.lst [V.str "write 0 'a'", V.str "write 0 'a' ##1", V.str "write 0 'a' #01", V.str "write 0 'a' #-0", V.str "write 0 'a' x"])) lb2 (.lst (([V.str "", V.str " ", V.str "tick", V.str "tick  0", V.str "tick 0 ", V.str " tick 0", V.str "tick 00", V.str "tick -1", V.str "tick 1048577", V.str "ticks 0"] ++ [V.str "tick x", V.str "flush 0", V.str "show 0", V.str "show 0 fruit", V.str "show 0 ''"]) ++ [V.str "write 0 'a'", V.str "write 0 'a' ##1", V.str "write 0 'a' #01", V.str "write 0 'a' #-0", V.str "write 0 'a' x"])) = Glb2 at slb2 elb2 ⊢
    refine ⟨_, rfl, sz rfl, fun mlb3 hmlb3 => ⟨lb2, mlb3, _, _, rfl, rfl, same_upd hmlb3 _ _ elb2, upd_same, sz rfl, fun lb3 hlb3 => ?_⟩⟩
    have slb3 : Same Glb2 (upd (upd Glb2 mlb3 (.lst [V.str "write 0 'a' '", V.str "write 0 'a'b' none", V.str "write 0 'a' #1099511627777"])) lb3 (.lst ((([V.str "", V.str " ", V.str "tick", V.str "tick  0", V.str "tick 0 ", V.str " tick 0", V.str "tick 00", V.str "tick -1", V.str "tick 1048577", V.str "ticks 0"] ++ [V.str "tick x", V.str "flush 0", V.str "show 0", V.str "show 0 fruit", V.str "show 0 ''"]) ++ [V.str "write 0 'a'", V.str "write 0 'a' ##1", V.str "write 0 'a' #01", V.str "write 0 'a' #-0", V.str "write 0 'a' x"]) ++ [V.str "write 0 'a' '", V.str "write 0 'a'b' none", V.str "write 0 'a' #1099511627777"]))) := (same_upd hmlb3).trans (same_upd hlb3)
    have elb3 := upd_same (H := upd Glb2 mlb3 (.lst [V.str "write 0 'a' '", V.str "write 0 'a'b' none", V.str "write 0 'a' #1099511627777"])) (a := lb3) (o := .lst ((([V.str "", V.str " ", V.str "tick", V.str "tick  0", V.str "tick 0 ", V.str " tick 0", V.str "tick 00", V.str "tick -1", V.str "tick 1048577", V.str "ticks 0"] ++ [V.str "tick x", V.str "flush 0", V.str "show 0", V.str "show 0 fruit", V.str "show 0 ''"]) ++ [V.str "write 0 'a'", V.str "write 0 'a' ##1", V.str "write 0 'a' #01", V.str "write 0 'a' #-0", V.str "write 0 'a' x"]) ++ [V.str "write 0 'a' '", V.str "write 0 'a'b' none", V.str "write 0 'a' #1099511627777"]))
    generalize upd (upd Glb2 mlb3 (.lst [V.str "write 0 'a' '", V.str "write 0 'a'b' none", V.str "write 0 'a' #1099511627777"])) lb3 (.lst ((([V.str "", V.str " ", V.str "tick", V.str "tick  0", V.str "tick 0 ", V.str " tick 0", V.str "tick 00", V.str "tick -1", V.str "tick 1048577", V.str "ticks 0"] ++ [V.str "tick x", V.str "flush 0", V.str "show 0", V.str "show 0 fruit", V.str "show 0 ''"]) ++ [V.str "write 0 'a'", V.str "write 0 'a' ##1", V.str "write 0 'a' #01", V.str "write 0 'a' #-0", V.str "write 0 'a' x"]) ++ [V.str "write 0 'a' '", V.str "write 0 'a'b' none", V.str "write 0 'a' #1099511627777"])) = Glb3 at slb3 elb3 ⊢
    refine ⟨_, rfl, sz rfl, fun mlb4 hmlb4 => ⟨lb3, mlb4, _, _, rfl, rfl, same_upd hmlb4 _ _ elb3, upd_same, sz rfl, fun lb4 hlb4 => ?_⟩⟩
    have slb4 : Same Glb3 (upd (upd Glb3 mlb4 (.lst [V.str "write 0 'a' none none", V.str "spoil 0 1", V.str "world 2 0-1", V.str "cut 0", V.str "cut 0 1 2", V.str "deliver all"])) lb4 (.lst (((([V.str "", V.str " ", V.str "tick", V.str "tick  0", V.str "tick 0 ", V.str " tick 0", V.str "tick 00", V.str "tick -1", V.str "tick 1048577", V.str "ticks 0"] ++ [V.str "tick x", V.str "flush 0", V.str "show 0", V.str "show 0 fruit", V.str "show 0 ''"]) ++ [V.str "write 0 'a'", V.str "write 0 'a' ##1", V.str "write 0 'a' #01", V.str "write 0 'a' #-0", V.str "write 0 'a' x"]) ++ [V.str "write 0 'a' '", V.str "write 0 'a'b' none", V.str "write 0 'a' #1099511627777"]) ++ [V.str "write 0 'a' none none", V.str "spoil 0 1", V.str "world 2 0-1", V.str "cut 0", V.str "cut 0 1 2", V.str "deliver all"]))) := (same_upd hmlb4).trans (same_upd hlb4)
    have elb4 := upd_same (H := upd Glb3 mlb4 (.lst [V.str "write 0 'a' none none", V.str "spoil 0 1", V.str "world 2 0-1", V.str "cut 0", V.str "cut 0 1 2", V.str "deliver all"])) (a := lb4) (o := .lst (((([V.str "", V.str " ", V.str "tick", V.str "tick  0", V.str "tick 0 ", V.str " tick 0", V.str "tick 00", V.str "tick -1", V.str "tick 1048577", V.str "ticks 0"] ++ [V.str "tick x", V.str "flush 0", V.str "show 0", V.str "show 0 fruit", V.str "show 0 ''"]) ++ [V.str "write 0 'a'", V.str "write 0 'a' ##1", V.str "write 0 'a' #01", V.str "write 0 'a' #-0", V.str "write 0 'a' x"]) ++ [V.str "write 0 'a' '", V.str "write 0 'a'b' none", V.str "write 0 'a' #1099511627777"]) ++ [V.str "write 0 'a' none none", V.str "spoil 0 1", V.str "world 2 0-1", V.str "cut 0", V.str "cut 0 1 2", V.str "deliver all"]))
    generalize upd (upd Glb3 mlb4 (.lst [V.str "write 0 'a' none none", V.str "spoil 0 1", V.str "world 2 0-1", V.str "cut 0", V.str "cut 0 1 2", V.str "deliver all"])) lb4 (.lst (((([V.str "", V.str " ", V.str "tick", V.str "tick  0", V.str "tick 0 ", V.str " tick 0", V.str "tick 00", V.str "tick -1", V.str "tick 1048577", V.str "ticks 0"] ++ [V.str "tick x", V.str "flush 0", V.str "show 0", V.str "show 0 fruit", V.str "show 0 ''"]) ++ [V.str "write 0 'a'", V.str "write 0 'a' ##1", V.str "write 0 'a' #01", V.str "write 0 'a' #-0", V.str "write 0 'a' x"]) ++ [V.str "write 0 'a' '", V.str "write 0 'a'b' none", V.str "write 0 'a' #1099511627777"]) ++ [V.str "write 0 'a' none none", V.str "spoil 0 1", V.str "world 2 0-1", V.str "cut 0", V.str "cut 0 1 2", V.str "deliver all"])) = Glb4 at slb4 elb4 ⊢
    refine ⟨_, rfl, sz rfl, fun mlb5 hmlb5 => ⟨lb4, mlb5, _, _, rfl, rfl, same_upd hmlb5 _ _ elb4, upd_same, sz rfl, fun lb5 hlb5 => ?_⟩⟩
    have slb5 : Same Glb4 (upd (upd Glb4 mlb5 (.lst [V.str "show 0 'a~'", V.str "write 0 'a' '~'", V.str "show 'a'", V.str "alike 1"])) lb5 (.lst ((((([V.str "", V.str " ", V.str "tick", V.str "tick  0", V.str "tick 0 ", V.str " tick 0", V.str "tick 00", V.str "tick -1", V.str "tick 1048577", V.str "ticks 0"] ++ [V.str "tick x", V.str "flush 0", V.str "show 0", V.str "show 0 fruit", V.str "show 0 ''"]) ++ [V.str "write 0 'a'", V.str "write 0 'a' ##1", V.str "write 0 'a' #01", V.str "write 0 'a' #-0", V.str "write 0 'a' x"]) ++ [V.str "write 0 'a' '", V.str "write 0 'a'b' none", V.str "write 0 'a' #1099511627777"]) ++ [V.str "write 0 'a' none none", V.str "spoil 0 1", V.str "world 2 0-1", V.str "cut 0", V.str "cut 0 1 2", V.str "deliver all"]) ++ [V.str "show 0 'a~'", V.str "write 0 'a' '~'", V.str "show 'a'", V.str "alike 1"]))) := (same_upd hmlb5).trans (same_upd hlb5)
    have elb5 := upd_same (H := upd Glb4 mlb5 (.lst [V.str "show 0 'a~'", V.str "write 0 'a' '~'", V.str "show 'a'", V.str "alike 1"])) (a := lb5) (o := .lst ((((([V.str "", V.str " ", V.str "tick", V.str "tick  0", V.str "tick 0 ", V.str " tick 0", V.str "tick 00", V.str "tick -1", V.str "tick 1048577", V.str "ticks 0"] ++ [V.str "tick x", V.str "flush 0", V.str "show 0", V.str "show 0 fruit", V.str "show 0 ''"]) ++ [V.str "write 0 'a'", V.str "write 0 'a' ##1", V.str "write 0 'a' #01", V.str "write 0 'a' #-0", V.str "write 0 'a' x"]) ++ [V.str "write 0 'a' '", V.str "write 0 'a'b' none", V.str "write 0 'a' #1099511627777"]) ++ [V.str "write 0 'a' none none", V.str "spoil 0 1", V.str "world 2 0-1", V.str "cut 0", V.str "cut 0 1 2", V.str "deliver all"]) ++ [V.str "show 0 'a~'", V.str "write 0 'a' '~'", V.str "show 'a'", V.str "alike 1"]))
    generalize upd (upd Glb4 mlb5 (.lst [V.str "show 0 'a~'", V.str "write 0 'a' '~'", V.str "show 'a'", V.str "alike 1"])) lb5 (.lst ((((([V.str "", V.str " ", V.str "tick", V.str "tick  0", V.str "tick 0 ", V.str " tick 0", V.str "tick 00", V.str "tick -1", V.str "tick 1048577", V.str "ticks 0"] ++ [V.str "tick x", V.str "flush 0", V.str "show 0", V.str "show 0 fruit", V.str "show 0 ''"]) ++ [V.str "write 0 'a'", V.str "write 0 'a' ##1", V.str "write 0 'a' #01", V.str "write 0 'a' #-0", V.str "write 0 'a' x"]) ++ [V.str "write 0 'a' '", V.str "write 0 'a'b' none", V.str "write 0 'a' #1099511627777"]) ++ [V.str "write 0 'a' none none", V.str "spoil 0 1", V.str "world 2 0-1", V.str "cut 0", V.str "cut 0 1 2", V.str "deliver all"]) ++ [V.str "show 0 'a~'", V.str "write 0 'a' '~'", V.str "show 'a'", V.str "alike 1"])) = Glb5 at slb5 elb5 ⊢
    refine ⟨sz rfl, fun lf0 hlf0 => ?_⟩
    have slf0 : Same Glb5 (upd Glb5 lf0 (.lst [V.str "write 0 'a' ''", V.str "write 0 ' ' #-1", V.str "write 0 'a b' 'c  d'", V.str "spoil 0 0 256", V.str "tick 1048576"])) := same_upd hlf0
    have elf0 := upd_same (H := Glb5) (a := lf0) (o := .lst [V.str "write 0 'a' ''", V.str "write 0 ' ' #-1", V.str "write 0 'a b' 'c  d'", V.str "spoil 0 0 256", V.str "tick 1048576"])
    generalize upd Glb5 lf0 (.lst [V.str "write 0 'a' ''", V.str "write 0 ' ' #-1", V.str "write 0 'a b' 'c  d'", V.str "spoil 0 0 256", V.str "tick 1048576"]) = Glf0 at slf0 elf0 ⊢
    refine ⟨_, rfl, sz rfl, fun mlf1 hmlf1 => ⟨lf0, mlf1, _, _, rfl, rfl, same_upd hmlf1 _ _ elf0, upd_same, sz rfl, fun lf1 hlf1 => ?_⟩⟩
    have slf1 : Same Glf0 (upd (upd Glf0 mlf1 (.lst [V.str "write 9 'a' #1099511627776", V.str "settle 2000"])) lf1 (.lst ([V.str "write 0 'a' ''", V.str "write 0 ' ' #-1", V.str "write 0 'a b' 'c  d'", V.str "spoil 0 0 256", V.str "tick 1048576"] ++ [V.str "write 9 'a' #1099511627776", V.str "settle 2000"]))) := (same_upd hmlf1).trans (same_upd hlf1)
    have elf1 := upd_same (H := upd Glf0 mlf1 (.lst [V.str "write 9 'a' #1099511627776", V.str "settle 2000"])) (a := lf1) (o := .lst ([V.str "write 0 'a' ''", V.str "write 0 ' ' #-1", V.str "write 0 'a b' 'c  d'", V.str "spoil 0 0 256", V.str "tick 1048576"] ++ [V.str "write 9 'a' #1099511627776", V.str "settle 2000"]))
    generalize upd (upd Glf0 mlf1 (.lst [V.str "write 9 'a' #1099511627776", V.str "settle 2000"])) lf1 (.lst ([V.str "write 0 'a' ''", V.str "write 0 ' ' #-1", V.str "write 0 'a b' 'c  d'", V.str "spoil 0 0 256", V.str "tick 1048576"] ++ [V.str "write 9 'a' #1099511627776", V.str "settle 2000"])) = Glf1 at slf1 elf1 ⊢
    have sT : Same H7 Glf1 := (((((((slb0.trans slb1).trans slb2).trans slb3).trans slb4).trans slb5).trans slf0).trans slf1)
    have eB : Glf1 lb5 = some (.lst (badL.map fun s => V.str (S s))) := slf1 _ _ (slf0 _ _ elb5)
    have eF : Glf1 lf1 = some (.lst (fineL.map fun s => V.str (S s))) := elf1
    clear slb0 slb1 slb2 slb3 slb4 slb5 slf0 slf1 elb0 elb1 elb2 elb3 elb4 elb5 elf0 elf1
    generalize Glf1 = H8 at sT eB eF ⊢
    have hb8 := sT _ _ hb7
    have hD8 := sT _ _ hD7
    have hst8 := hst7.keep (Same.tk sT)
    have ok8 := (KpR.same (K := K) (R := ⟨r, p, xs⟩) sT).2 ok7
    have hBr : lb5 ≠ r := fun e => by
      obtain ⟨i, s', t, g1, _⟩ := ok8
      rw [e] at eB
      rw [eB] at g1
      injection g1 with g1
      injection g1 with g1
      have := congrArg List.length g1
      rw [List.length_map] at this
      exact absurd this (by show ¬ badL.length = 4; decide)
    have hFr : lf1 ≠ r := fun e => by
      obtain ⟨i, s', t, g1, _⟩ := ok8
      rw [e] at eF
      rw [eF] at g1
      injection g1 with g1
      injection g1 with g1
      have := congrArg List.length g1
      rw [List.length_map] at this
      exact absurd this (by show ¬ fineL.length = 4; decide)
    clear hb7 hD7 hst7 ok7 sT
    have hlD : (((sts.map mLine).map mkS).map V.str).length = sts.length := by rw [List.length_map, List.length_map, List.length_map]
    refine ⟨_, rfl, _, rfl, D, _, rfl, .inl (.inl (.inl hD8)), ⟨r, p, xs⟩, _, rfl, by rw [hlD]; omega, by rw [hlD]; omega, ok8, fun n0 H9 hn0 k9 => ⟨_, _, rfl, rfl, ?_⟩⟩
    rw [hlD] at hn0
    have hb9 : H9 b = some (.tup ws) := (k9.tk ok8) _ _ hb8
    have hD9 := k9.1 _ _ hrD hD8
    have hst9 := hst8.keep (k9.tk ok8)
    have eB9 := k9.1 _ _ hBr eB
    have eF9 := k9.1 _ _ hFr eF
    have ok9 := k9.2 ok8
    have em : (1 : Int) + (n0 : Int) = ((1 + n0 : Nat) : Int) := by omega
    clear hb8 hD8 hst8 eB eF ok8
    dsimp only
    rw [em]
    generalize hat : 1 + n0 = at_
    have hat1 : 1 ≤ at_ := by omega
    have hat2 : at_ ≤ sts.length := by omega
    clear em hn0 k9
    have hbne : (badL.map fun s => V.str (S s)) ≠ [] := fun h => absurd (congrArg List.length h) (by rw [List.length_map]; decide)
    have hble : (badL.map fun s => V.str (S s)).length ≤ 1000 := by rw [List.length_map]; decide
    have hfne : (fineL.map fun s => V.str (S s)) ≠ [] := fun h => absurd (congrArg List.length h) (by rw [List.length_map]; decide)
    have hfle : (fineL.map fun s => V.str (S s)).length ≤ 1000 := by rw [List.length_map]; decide
    refine ⟨_, rfl, _, rfl, ⟨r, p, xs⟩, lb5, _, rfl, hBr, eB9, hbne, hble, ok9, fun y1 hy1 HA kA => ⟨_, rfl, sz rfl, fun t1 ht1 => ?_⟩⟩
    have kA1 := kA.trans (KpR.new (o := .tup [y1, .int (at_ : Nat)]) (kA.2 ok9) ht1)
    have et1 := upd_same (H := HA) (a := t1) (o := .tup [y1, .int (at_ : Nat)])
    refine ⟨_, rfl, _, rfl, ⟨r, p, xs⟩, lb5, _, rfl, hBr, kA1.1 _ _ hBr eB9, hbne, hble, kA1.2 ok9, fun y2 hy2 HB kB => ⟨_, rfl, sz rfl, fun t2 ht2 => ?_⟩⟩
    have kB0 := kB.trans (KpR.new (o := .tup [y2, .int (at_ : Nat)]) (kB.2 (kA1.2 ok9)) ht2)
    have et1B := kB0.tk (kA1.2 ok9) _ _ et1
    have et2 := upd_same (H := HB) (a := t2) (o := .tup [y2, .int (at_ : Nat)])
    have kB1 := kA1.trans kB0
    refine ⟨_, rfl, _, rfl, ⟨r, p, xs⟩, lf1, _, rfl, hFr, kB1.1 _ _ hFr eF9, hfne, hfle, kB1.2 ok9, fun y3 hy3 HC kC => ⟨sz rfl, fun t3 ht3 => ⟨sz rfl, fun lt hlt => ?_⟩⟩⟩
    have kC0 := kC.trans (KpR.new (o := .tup [y3, .non]) (kC.2 (kB1.2 ok9)) ht3)
    have sL := same_upd (o := .lst [.ref t1, .ref t2, .ref t3]) hlt
    have et1C := sL _ _ (kC0.tk (kB1.2 ok9) _ _ et1B)
    have et2C := sL _ _ (kC0.tk (kB1.2 ok9) _ _ et2)
    have et3C := sL _ _ (upd_same (H := HC) (a := t3) (o := .tup [y3, .non]))
    have elt := upd_same (H := upd HC t3 (.tup [y3, .non])) (a := lt) (o := .lst [.ref t1, .ref t2, .ref t3])
    have kC1 := (kB1.trans kC0).trans (KpR.same (K := K) (R := ⟨r, p, xs⟩) sL)
    have hbZ := (kC1.tk ok9) _ _ hb9
    have hDZ := kC1.1 _ _ hrD hD9
    have hstZ := hst9.keep (kC1.tk ok9)
    clear kA kA1 kB kB0 kB1 kC kC0 kC1 sL et1 et1B et2 eB9 eF9 hD9 hb9 hst9 ok9 ht1 ht2 ht3
    refine ⟨lt, rfl, ⟨_, .inl (.inl elt)⟩, ?_⟩
    generalize upd (upd HC t3 (.tup [y3, .non])) lt (.lst [.ref t1, .ref t2, .ref t3]) = HZ at elt et1C et2C et3C hbZ hDZ hstZ ⊢
    have items : ∀ x ∈ [V.ref t1, V.ref t2, V.ref t3], ∃ t s due, x = .ref t ∧ HZ t = some (.tup [.str (S s), due]) ∧ (10 ∉ cd s ∧ (cd s).length ≤ 100) ∧ ((mRead 0 (ins sts at_ s) = .error at_ ∧ due = .int (at_ : Nat)) ∨ ∃ qq, mRead 0 (ins sts at_ s) = .ok qq ∧ due = .non) := by
      intro x hx
      rcases List.mem_cons.mp hx with rfl | hx
      · obtain ⟨s, hs, rfl⟩ := List.mem_map.mp hy1
        exact ⟨t1, s, _, rfl, et1C, bad_nolf s (List.mem_append_left _ hs), .inl ⟨mRead_badIn hv (by omega) hat2 hat1 (bads s hs), rfl⟩⟩
      rcases List.mem_cons.mp hx with rfl | hx
      · obtain ⟨s, hs, rfl⟩ := List.mem_map.mp hy2
        exact ⟨t2, s, _, rfl, et2C, bad_nolf s (List.mem_append_left _ hs), .inl ⟨mRead_badIn hv (by omega) hat2 hat1 (bads s hs), rfl⟩⟩
      rcases List.mem_cons.mp hx with rfl | hx
      · obtain ⟨s, hs, rfl⟩ := List.mem_map.mp hy3
        obtain ⟨qq, hqq⟩ := mRead_fineIn (l := cd s) hv (by omega) hat2 hat1 (fines s hs)
        exact ⟨t3, s, _, rfl, et3C, bad_nolf s (List.mem_append_right _ hs), .inr ⟨qq, hqq, rfl⟩⟩
      · cases hx
    refine for_list (xs := [V.ref t1, V.ref t2, V.ref t3]) (fun i σ' H' => Same HZ H' ∧ ∃ o1 o2 o3, σ' = [some (.ref p), some (.ref r), some (.ref b), some (.ref D), some (.ref lb5), some (.ref lf1), some (.int (at_ : Nat)), none, none, none, none, o1, o2, o3, none, none, none])
      ⟨Same.refl _, _, _, _, rfl⟩ (fun i σ' H' _ g => .inl (.inl (g.1 _ _ elt))) ?_ ?_
    · rintro i x σ' H' hx ⟨hs, o1, o2, o3, rfl⟩
      obtain ⟨t, s, due, rfl, ht, hsl, hout⟩ := items x (List.mem_of_getElem? hx)
      refine ⟨t, _, rfl, .inl (.inl (hs _ _ ht)), rfl, _, _, rfl, _, _, rfl, rfl, ?_⟩
      have hDn := hs _ _ hDZ
      have hiok := ins_ok (n := at_) hll hsl
      have hil := ins_len sts at_ s
      have hine : ins sts at_ s ≠ [] := fun e => by rw [e] at hil; simp at hil
      have hlnsI : lns (mkS (TL.joinL [10] (ins sts at_ s))) = ins sts at_ s := lns_join hine fun l hl => (hiok l hl).1
      have hpreI := read_pre (m := 14000) (n := 50) hine (fun l hl => (hiok l hl).1) (fun l hl => (hiok l hl).2) (by omega) (by decide) (by decide) (by decide)
      have hsumI : (((ins sts at_ s).map mkS).map (·.length)).sum + ((ins sts at_ s).map mkS).length * (S "\n").length ≤ 16777216 := sum_mk (m := 14000) (n := 50) (fun l hl => (hiok l hl).2) (by omega) (by decide) (s := "\n") (c := 10) (by decide)
      have hjoinI : Txt.join (Str.ofString "\n") ((ins sts at_ s).map mkS) = mkS (TL.joinL [10] (ins sts at_ s)) := join_mk (s := "\n") (c := 10) (by decide)
      refine ⟨⟨_, rfl⟩, _, rfl, _, rfl, _, rfl, D, _, rfl, .inl (.inl hDn), fun p1 hp1 => ?_⟩
      rw [show cutV (((sts.map mLine).map mkS).map V.str) none (some ((at_ : Nat) : Int)) = (((sts.map mLine).map mkS).map V.str).take at_ from cutV_0n]
      refine ⟨_, rfl, sz rfl, fun p2 hp2 => ⟨p1, p2, _, _, rfl, rfl, same_upd hp2 _ _ upd_same, upd_same, ?_, fun p3 hp3 => ?_⟩⟩
      · refine Nat.le_trans (m := 100) ?_ (by decide)
        have := List.length_take_le at_ (((sts.map mLine).map mkS).map V.str)
        show _ + 1 ≤ 100
        omega
      have sP := ((same_upd (o := .lst ((((sts.map mLine).map mkS).map V.str).take at_)) hp1).trans (same_upd (o := .lst [V.str (S s)]) hp2)).trans (same_upd (o := .lst ((((sts.map mLine).map mkS).map V.str).take at_ ++ [V.str (S s)])) hp3)
      refine ⟨_, rfl, _, rfl, _, rfl, D, _, rfl, .inl (.inl (sP _ _ hDn)), fun p4 hp4 => ?_⟩
      rw [show cutV (((sts.map mLine).map mkS).map V.str) (some ((at_ : Nat) : Int)) none = (((sts.map mLine).map mkS).map V.str).drop at_ from cutV_n rfl]
      refine ⟨p3, p4, _, _, rfl, rfl, same_upd hp4 _ _ upd_same, upd_same, ?_, fun p5 hp5 => ?_⟩
      · refine Nat.le_trans (m := 100) ?_ (by decide)
        have h1 := List.length_take_le at_ (((sts.map mLine).map mkS).map V.str)
        have h2 : ((((sts.map mLine).map mkS).map V.str).drop at_).length ≤ sts.length := by rw [List.length_drop, hlD]; omega
        rw [List.length_append]
        show _ + 1 + _ ≤ 100
        omega
      have sQ := (sP.trans (same_upd (o := .lst ((((sts.map mLine).map mkS).map V.str).drop at_)) hp4)).trans (same_upd (o := .lst ((((sts.map mLine).map mkS).map V.str).take at_ ++ [V.str (S s)] ++ (((sts.map mLine).map mkS).map V.str).drop at_)) hp5)
      refine ⟨_, p5, (ins sts at_ s).map mkS, rfl, rfl, .inl (.inl (.inl ?_)), hsumI, ?_⟩
      · rw [upd_same, ins_strs]
      rw [hjoinI]
      have hsQ := hs.trans sQ
      clear sP
      refine ⟨_, rfl, hpreI.1, hpreI.2.1, hpreI.2.2, fun sts' hr' p' ws' H6 s6 hp' hst' hok' => ?_, fun j hj d Hd sd hd => ?_⟩
      · rw [hlnsI] at hr'
        rcases hout with ⟨hm, rfl⟩ | ⟨qq, hm, rfl⟩
        · rw [hm] at hr'
          cases hr'
        · refine ⟨_, rfl, _, rfl, _, _, rfl, Alike.sc rfl, fun H7 s7 => ⟨_, rfl, iteF ?_⟩⟩
          exact ⟨(hsQ.trans s6).trans s7, _, _, _, rfl⟩
      · rw [hlnsI] at hj
        rcases hout with ⟨hm, rfl⟩ | ⟨qq, hm, rfl⟩
        · rw [hm] at hj
          cases hj
          refine ⟨true, B.eL, fun _ ea hea => ?_, fun h => by cases h⟩
          refine ⟨_, rfl, rfl, d, rfl, ⟨_, hd⟩, _, _, _, rfl, (fun u h => h), B.kL, _, rfl, iteT ⟨_, rfl, rfl, rfl, d, _, rfl, hd, ?_⟩⟩
          refine ⟨_, rfl, _, rfl, _, _, rfl, Alike.sc rfl, fun H7 s7 => ⟨_, rfl, iteF ?_⟩⟩
          exact ⟨(hsQ.trans sd).trans s7, _, _, _, rfl⟩
        · rw [hm] at hj
          cases hj
    rintro σ' H' ⟨hs, o1, o2, o3, rfl⟩
    have hbW := hs _ _ hbZ
    have hstW := hstZ.keep (Same.tk hs)
    clear hs items elt et1C et2C et3C hbZ hDZ hstZ
    refine ⟨sz rfl, fun u1 hu1 => ?_⟩
    have su1 : Same H' (upd H' u1 (.tup [.str "", .int 0])) := same_upd hu1
    have eu1 := upd_same (H := H') (a := u1) (o := (.tup [.str "", .int 0]))
    generalize upd H' u1 (.tup [.str "", .int 0]) = R1 at su1 eu1 ⊢
    refine ⟨sz rfl, fun u2 hu2 => ?_⟩
    have su2 : Same R1 (upd R1 u2 (.tup [.str "tick 0", .int 0])) := same_upd hu2
    have eu2 := upd_same (H := R1) (a := u2) (o := (.tup [.str "tick 0", .int 0]))
    generalize upd R1 u2 (.tup [.str "tick 0", .int 0]) = R2 at su2 eu2 ⊢
    refine ⟨sz rfl, fun u3 hu3 => ?_⟩
    have su3 : Same R2 (upd R2 u3 (.tup [.str "world", .int 0])) := same_upd hu3
    have eu3 := upd_same (H := R2) (a := u3) (o := (.tup [.str "world", .int 0]))
    generalize upd R2 u3 (.tup [.str "world", .int 0]) = R3 at su3 eu3 ⊢
    refine ⟨sz rfl, fun u4 hu4 => ?_⟩
    have su4 : Same R3 (upd R3 u4 (.tup [.str "world 2 0-1 1", .int 0])) := same_upd hu4
    have eu4 := upd_same (H := R3) (a := u4) (o := (.tup [.str "world 2 0-1 1", .int 0]))
    generalize upd R3 u4 (.tup [.str "world 2 0-1 1", .int 0]) = R4 at su4 eu4 ⊢
    refine ⟨sz rfl, fun u5 hu5 => ?_⟩
    have su5 : Same R4 (upd R4 u5 (.tup [.str "world 2 0_1", .int 0])) := same_upd hu5
    have eu5 := upd_same (H := R4) (a := u5) (o := (.tup [.str "world 2 0_1", .int 0]))
    generalize upd R4 u5 (.tup [.str "world 2 0_1", .int 0]) = R5 at su5 eu5 ⊢
    refine ⟨sz rfl, fun u6 hu6 => ?_⟩
    have su6 : Same R5 (upd R5 u6 (.tup [.str "world 1", .non])) := same_upd hu6
    have eu6 := upd_same (H := R5) (a := u6) (o := (.tup [.str "world 1", .non]))
    generalize upd R5 u6 (.tup [.str "world 1", .non]) = R6 at su6 eu6 ⊢
    refine ⟨sz rfl, fun l1 hl1 => ?_⟩
    have sl1 : Same R6 (upd R6 l1 (.lst [.ref u1, .ref u2, .ref u3, .ref u4, .ref u5, .ref u6])) := same_upd hl1
    have el1 := upd_same (H := R6) (a := l1) (o := .lst [.ref u1, .ref u2, .ref u3, .ref u4, .ref u5, .ref u6])
    generalize upd R6 l1 (.lst [.ref u1, .ref u2, .ref u3, .ref u4, .ref u5, .ref u6]) = R7 at sl1 el1 ⊢
    refine ⟨_, rfl, sz rfl, fun u7 hu7 => ?_⟩
    have su7 : Same R7 (upd R7 u7 (.tup [.str "world 2\n", .int 1])) := same_upd hu7
    have eu7 := upd_same (H := R7) (a := u7) (o := .tup [.str "world 2\n", .int 1])
    generalize upd R7 u7 (.tup [.str "world 2\n", .int 1]) = R8 at su7 eu7 ⊢
    refine ⟨S "\nalike", 199, rfl, rfl, by decide, by decide, by decide +kernel, by decide +kernel, _, _, rfl, rfl, by decide +kernel, sz rfl, fun u8 hu8 => ?_⟩
    have su8 : Same R8 (upd R8 u8 (.tup [.str (S "world 2" ++ ⟨(List.replicate 199 (S "\nalike").cps.toList).flatten.toArray⟩), .non])) := same_upd hu8
    have eu8 := upd_same (H := R8) (a := u8) (o := .tup [.str (S "world 2" ++ ⟨(List.replicate 199 (S "\nalike").cps.toList).flatten.toArray⟩), .non])
    generalize upd R8 u8 (.tup [.str (S "world 2" ++ ⟨(List.replicate 199 (S "\nalike").cps.toList).flatten.toArray⟩), .non]) = R9 at su8 eu8 ⊢
    refine ⟨S "\nalike", 200, rfl, rfl, by decide, by decide, by decide +kernel, by decide +kernel, _, _, rfl, rfl, by decide +kernel, sz rfl, fun u9 hu9 => ?_⟩
    have su9 : Same R9 (upd R9 u9 (.tup [.str (S "world 2" ++ ⟨(List.replicate 200 (S "\nalike").cps.toList).flatten.toArray⟩), .int 200])) := same_upd hu9
    have eu9 := upd_same (H := R9) (a := u9) (o := .tup [.str (S "world 2" ++ ⟨(List.replicate 200 (S "\nalike").cps.toList).flatten.toArray⟩), .int 200])
    generalize upd R9 u9 (.tup [.str (S "world 2" ++ ⟨(List.replicate 200 (S "\nalike").cps.toList).flatten.toArray⟩), .int 200]) = RA at su9 eu9 ⊢
    refine ⟨sz rfl, fun l2 hl2 => ⟨l1, l2, _, _, rfl, rfl, same_upd hl2 _ _ (su9 _ _ (su8 _ _ (su7 _ _ el1))), upd_same, sz rfl, fun l3 hl3 => ?_⟩⟩
    have sl2 : Same RA (upd (upd RA l2 (.lst [.ref u7, .ref u8, .ref u9])) l3 (.lst ([.ref u1, .ref u2, .ref u3, .ref u4, .ref u5, .ref u6] ++ [.ref u7, .ref u8, .ref u9]))) := (same_upd hl2).trans (same_upd hl3)
    have el3 := upd_same (H := upd RA l2 (.lst [.ref u7, .ref u8, .ref u9])) (a := l3) (o := .lst ([.ref u1, .ref u2, .ref u3, .ref u4, .ref u5, .ref u6] ++ [.ref u7, .ref u8, .ref u9]))
    generalize upd (upd RA l2 (.lst [.ref u7, .ref u8, .ref u9])) l3 (.lst ([.ref u1, .ref u2, .ref u3, .ref u4, .ref u5, .ref u6] ++ [.ref u7, .ref u8, .ref u9])) = RB at sl2 el3 ⊢
    have t9 := sl2; have t8 := su9.trans t9; have t7 := su8.trans t8; have t67 := su7.trans t7; have t6 := sl1.trans t67; have t5 := su6.trans t6; have t4 := su5.trans t5; have t3' := su4.trans t4; have t2' := su3.trans t3'; have t1' := su2.trans t2'; have t0 := su1.trans t1'
    have items2 : ∀ x ∈ [V.ref u1, V.ref u2, V.ref u3, V.ref u4, V.ref u5, V.ref u6] ++ [V.ref u7, V.ref u8, V.ref u9], ∃ t z, ∃ rw ∈ rows, x = .ref t ∧ RB t = some (.tup [.str z, cntV rw.2]) ∧ z = mkS (TL.joinL [10] (rw.1.map cd)) := by
      intro x hx
      rcases List.mem_cons.mp hx with rfl | hx
      · exact ⟨u1, _, ([""], (some 0)), row_mem 0 rfl, rfl, t1' _ _ eu1, rt1 _⟩
      rcases List.mem_cons.mp hx with rfl | hx
      · exact ⟨u2, _, (["tick 0"], (some 0)), row_mem 1 rfl, rfl, t2' _ _ eu2, rt1 _⟩
      rcases List.mem_cons.mp hx with rfl | hx
      · exact ⟨u3, _, (["world"], (some 0)), row_mem 2 rfl, rfl, t3' _ _ eu3, rt1 _⟩
      rcases List.mem_cons.mp hx with rfl | hx
      · exact ⟨u4, _, (["world 2 0-1 1"], (some 0)), row_mem 3 rfl, rfl, t4 _ _ eu4, rt1 _⟩
      rcases List.mem_cons.mp hx with rfl | hx
      · exact ⟨u5, _, (["world 2 0_1"], (some 0)), row_mem 4 rfl, rfl, t5 _ _ eu5, rt1 _⟩
      rcases List.mem_cons.mp hx with rfl | hx
      · exact ⟨u6, _, (["world 1"], none), row_mem 5 rfl, rfl, t6 _ _ eu6, rt1 _⟩
      rcases List.mem_cons.mp hx with rfl | hx
      · exact ⟨u7, _, (["world 2", ""], (some 1)), row_mem 6 rfl, rfl, t7 _ _ eu7, rt7⟩
      rcases List.mem_cons.mp hx with rfl | hx
      · exact ⟨u8, _, (("world 2" :: List.replicate 199 "alike"), none), row_mem 7 rfl, rfl, t8 _ _ eu8, rt8⟩
      rcases List.mem_cons.mp hx with rfl | hx
      · exact ⟨u9, _, (("world 2" :: List.replicate 200 "alike"), (some 200)), row_mem 8 rfl, rfl, t9 _ _ eu9, rt9⟩
      · cases hx
    have hb2 := t0 _ _ hbW
    have hst2 := hstW.keep (Same.tk t0)
    clear t9 t8 t7 t67 t6 t5 t4 t3' t2' t1' t0 su1 su2 su3 su4 su5 su6 su7 su8 su9 sl1 sl2 eu1 eu2 eu3 eu4 eu5 eu6 eu7 eu8 eu9 hbW hstW
    refine ⟨_, rfl, l3, rfl, ⟨_, .inl (.inl el3)⟩, ?_⟩
    refine for_list (xs := [V.ref u1, V.ref u2, V.ref u3, V.ref u4, V.ref u5, V.ref u6] ++ [V.ref u7, V.ref u8, V.ref u9]) (fun i σ' H' => Same RB H' ∧ ∃ o1 o2 o3 o4, σ' = [some (.ref p), some (.ref r), some (.ref b), some (.ref D), some (.ref lb5), some (.ref lf1), some (.int (at_ : Nat)), some (.ref l3), none, none, none, o1, o2, o3, none, o4, none])
      ⟨Same.refl _, _, _, _, _, rfl⟩ (fun i σ' H' _ g => .inl (.inl (g.1 _ _ el3))) ?_ ?_
    · rintro i x σ' H'' hx ⟨hs, o1, o2, o3, o4, rfl⟩
      obtain ⟨t, z, rw_, hrw, rfl, ht, rfl⟩ := items2 x (List.mem_of_getElem? hx)
      refine ⟨t, _, rfl, .inl (.inl (hs _ _ ht)), rfl, _, _, rfl, _, _, rfl, rfl, ?_⟩
      obtain ⟨hr1, hr2, hr3⟩ := rows_sz rw_ hrw
      have hrn : ∀ l ∈ rw_.1.map cd, 10 ∉ l := fun l hl => by
        obtain ⟨s, hs, rfl⟩ := List.mem_map.mp hl
        exact rows_nolf rw_ hrw s hs
      have hrl : ∀ l ∈ rw_.1.map cd, l.length ≤ 100 := fun l hl => by
        obtain ⟨s, hs, rfl⟩ := List.mem_map.mp hl
        exact hr1 s hs
      have hrne : rw_.1.map cd ≠ [] := fun e => hr3 (List.map_eq_nil_iff.mp e)
      have hlnsR := lns_join hrne hrn
      have hpreR := read_pre (m := 100) (n := 300) hrne hrn hrl (by rw [List.length_map]; exact hr2) (by decide) (by decide) (by decide)
      have hout := rows_ok rw_ hrw
      refine ⟨_, rfl, _, rfl, hpreR.1, hpreR.2.1, hpreR.2.2, fun sts' hr' p' ws' H6 s6 hp' hst' hok' => ?_, fun j hj d Hd sd hd => ?_⟩
      · rw [hlnsR] at hr'
        rw [hr'] at hout
        have e2 : rw_.2 = none := hout.symm
        refine ⟨_, rfl, _, rfl, _, _, rfl, ?_, fun H7 s7 => ⟨_, rfl, iteF ?_⟩⟩
        · rw [e2]
          exact Alike.sc rfl
        · exact ⟨(hs.trans s6).trans s7, _, _, _, _, rfl⟩
      · rw [hlnsR] at hj
        rw [hj] at hout
        have e2 : rw_.2 = some j := hout.symm
        refine ⟨true, B.eL, fun _ ea hea => ?_, fun h => by cases h⟩
        refine ⟨_, rfl, rfl, d, rfl, ⟨_, hd⟩, _, _, _, rfl, (fun u h => h), B.kL, _, rfl, iteT ⟨_, rfl, rfl, rfl, d, _, rfl, hd, ?_⟩⟩
        refine ⟨_, rfl, _, rfl, _, _, rfl, ?_, fun H7 s7 => ⟨_, rfl, iteF ?_⟩⟩
        · rw [e2]
          exact Alike.sc rfl
        · exact ⟨(hs.trans sd).trans s7, _, _, _, _, rfl⟩
    rintro σ' H'' ⟨hs, o1, o2, o3, o4, rfl⟩
    have hbW := hs _ _ hb2
    have hstW := hst2.keep (Same.tk hs)
    clear hs items2 el3 hb2 hst2
    refine ⟨sz rfl, fun fd hfd => ?_⟩
    have sf := same_upd (o := .lst []) hfd
    have hbF := sf _ _ hbW
    have hstF := hstW.keep (Same.tk sf)
    have efd := upd_same (H := H'') (a := fd) (o := .lst [])
    generalize upd H'' fd (.lst []) = FA at sf hbF hstF efd ⊢
    have hwl : 1 ≤ ws.length := by omega
    have hokc : ∀ (x : Stp), okS x → ∀ st ∈ sts ++ [x], okS st := fun x hx st hs => by
      rcases List.mem_append.mp hs with hs | hs
      · exact hokA st hs
      · rcases List.mem_cons.mp hs with rfl | hs
        · exact hx
        · cases hs
    have hlc : ∀ (x : Stp), (sts ++ [x]).length ≤ 1000 := fun x => by
      rw [List.length_append]
      show _ + 1 ≤ 1000
      omega
    refine ⟨_, rfl, _, rfl, ?_⟩
    dsimp only [tNoPart]
    refine sl_drop1 hbF hwl fun c0 FB sB hc0 => ?_
    have v0 : ValOk FB (.ref c0) (if sts.length > 1 then .int 0 else .non) := ⟨c0, rfl, .inr ⟨_, _, hc0, Paired.dr_ 1 (hstF.keep (Same.tk sB)), fun st hs => hokA st (List.mem_of_mem_drop hs), by rw [List.length_drop]; omega, wr_drop hv h20⟩⟩
    have hbB := sB _ _ hbF
    have hstB := hstF.keep (Same.tk sB)
    have efB := sB _ _ efd
    have n0 : c0 ≠ fd := fun e => by rw [e, efB] at hc0; cases hc0
    refine ⟨_, rfl, sz rfl, fun q1 hq1 => ⟨sz rfl, fun q2 hq2 => ?_⟩⟩
    have sq := (same_upd (o := .tup [.str "tick", .bl true]) hq1).trans (same_upd (o := .tup [.ref q1]) hq2)
    have hbC := sq _ _ hbB
    have hstC := hstB.keep (Same.tk sq)
    have efC := sq _ _ efB
    have v0C := v0.same sq
    have stq : StepAt (upd (upd FB q1 (.tup [.str "tick", .bl true])) q2 (.tup [.ref q1])) (.ref q1) (.flat (cd "tick") [.bl true]) := ⟨q1, rfl, by rw [mkS_cd]; exact same_upd hq2 _ _ upd_same⟩
    have eq2 := upd_same (H := upd FB q1 (.tup [.str "tick", .bl true])) (a := q2) (o := .tup [.ref q1])
    have hws1 : ws.length + 1 ≤ 4000000 := by omega
    generalize upd (upd FB q1 (.tup [.str "tick", .bl true])) q2 (.tup [.ref q1]) = FC at sq hbC hstC efC v0C stq eq2 ⊢
    have hwne : ws ≠ [] := fun e => by rw [e] at hwl; simp at hwl
    refine cat_tup (.inl (.inl hbC)) (.inl (.inl eq2)) hwne hws1 (fun e => by cases e) (fun _ c1 hc1 => ?_)
    have s1 := same_upd (o := .tup (ws ++ [.ref q1])) hc1
    have n1 : c1 ≠ fd := fun e => by rw [e, efC] at hc1; cases hc1
    have v1 : ValOk (upd FC c1 (.tup (ws ++ [.ref q1]))) (.ref c1) (.int (sts.length : Nat)) := ⟨c1, rfl, .inr ⟨_, _, upd_same, StepsAt.keep (Paired.app hstC (.cons stq .nil)) (Same.tk s1), hokc _ ok3a, hlc _, wr_bad hv h1 h20 (.inl bad_steps.1)⟩⟩
    have hbD := s1 _ _ hbC
    have hstD := hstC.keep (Same.tk s1)
    have efD := s1 _ _ efC
    have v0D := v0C.same s1
    generalize upd FC c1 (.tup (ws ++ [.ref q1])) = FD at s1 v1 hbD hstD efD v0D ⊢
    refine ⟨_, rfl, sz rfl, fun q3 hq3 => ⟨sz rfl, fun q4 hq4 => ?_⟩⟩
    have sq2 := (same_upd (o := .tup [.str "tick"]) hq3).trans (same_upd (o := .tup [.ref q3]) hq4)
    have hbE := sq2 _ _ hbD
    have hstE := hstD.keep (Same.tk sq2)
    have efE := sq2 _ _ efD
    have v0E := v0D.same sq2
    have v1E := v1.same sq2
    have stq2 : StepAt (upd (upd FD q3 (.tup [.str "tick"])) q4 (.tup [.ref q3])) (.ref q3) (.flat (cd "tick") []) := ⟨q3, rfl, by rw [mkS_cd]; exact same_upd hq4 _ _ upd_same⟩
    have eq4 := upd_same (H := upd FD q3 (.tup [.str "tick"])) (a := q4) (o := .tup [.ref q3])
    generalize upd (upd FD q3 (.tup [.str "tick"])) q4 (.tup [.ref q3]) = FE at sq2 hbE hstE efE v0E v1E stq2 eq4 ⊢
    refine cat_tup (.inl (.inl hbE)) (.inl (.inl eq4)) hwne hws1 (fun e => by cases e) (fun _ c2 hc2 => ?_)
    have s2 := same_upd (o := .tup (ws ++ [.ref q3])) hc2
    have n2 : c2 ≠ fd := fun e => by rw [e, efE] at hc2; cases hc2
    have v2 : ValOk (upd FE c2 (.tup (ws ++ [.ref q3]))) (.ref c2) (.int (sts.length : Nat)) := ⟨c2, rfl, .inr ⟨_, _, upd_same, StepsAt.keep (Paired.app hstE (.cons stq2 .nil)) (Same.tk s2), hokc _ ok3b, hlc _, wr_bad hv h1 h20 (.inl bad_steps.2.1)⟩⟩
    have hbG := s2 _ _ hbE
    have hstG := hstE.keep (Same.tk s2)
    have efG := s2 _ _ efE
    have v0G := v0E.same s2
    have v1G := v1E.same s2
    generalize upd FE c2 (.tup (ws ++ [.ref q3])) = FG at s2 v2 hbG hstG efG v0G v1G ⊢
    clear sB hbB hstB efB v0 sq hbC hstC efC v0C stq eq2 s1 v1 hbD hstD efD v0D sq2 hbE hstE efE v0E v1E stq2 eq4 s2 hbF hstF efd sf hbW hstW
    refine ⟨_, rfl, _, rfl, _, rfl, sl_take1 hbG hwl fun t3 FI sI ht3 => ?_⟩
    have hbI := sI _ _ hbG
    have hstI := hstG.keep (Same.tk sI)
    have hlt : (ws.take 1).length = 1 := by rw [List.length_take]; omega
    refine cat_tup (.inl (.inl hbI)) (.inl (.inl ht3)) hwne (by rw [hlt]; exact hws1) (fun e => by rw [e] at hlt; cases hlt) (fun _ c3 hc3 => ?_)
    have s3 := same_upd (o := .tup (ws ++ ws.take 1)) hc3
    have n3 : c3 ≠ fd := fun e => by rw [e, sI _ _ efG] at hc3; cases hc3
    obtain ⟨st0, srest, hsts⟩ : ∃ s r, sts = s :: r := by
      cases sts with
      | nil => simp at h1
      | cons s r => exact ⟨s, r, rfl⟩
    have hw0 : isWorld st0 = true := by
      have := (hv 0 st0 (by rw [hsts]; rfl)).2
      rw [this]
      rfl
    have htk : sts.take 1 = [st0] := by rw [hsts]; rfl
    have v3 : ValOk (upd FI c3 (.tup (ws ++ ws.take 1))) (.ref c3) (.int (sts.length : Nat)) := ⟨c3, rfl, .inr ⟨_, sts ++ [st0], upd_same, StepsAt.keep (Paired.app hstI (by rw [← htk]; exact Paired.tk_ 1 hstI)) (Same.tk s3), hokc _ (hokA st0 (by rw [hsts]; exact List.mem_cons_self)), hlc _, wr_bad hv h1 h20 (.inr hw0)⟩⟩
    have sJ := sI.trans s3
    have hbJ := sJ _ _ hbG
    have hstJ := hstG.keep (Same.tk sJ)
    have efJ := sJ _ _ efG
    have v0J := v0G.same sJ
    have v1J := v1G.same sJ
    have v2J := v2.same sJ
    generalize upd FI c3 (.tup (ws ++ ws.take 1)) = FJ at s3 v3 sJ hbJ hstJ efJ v0J v1J v2J ⊢
    clear sI hbI hstI s3 sJ hbG hstG efG v0G v1G v2 ht3
    refine ⟨by decide, fun c4 hc4 => ?_⟩
    have s4 := same_upd (o := .tup []) hc4
    have n4 : c4 ≠ fd := fun e => by rw [e, efJ] at hc4; cases hc4
    have v4 : ValOk (upd FJ c4 (.tup [])) (.ref c4) .non := ⟨c4, rfl, .inr ⟨[], [], upd_same, .nil, (fun _ h => by cases h), by decide, wr_nil⟩⟩
    refine ⟨_, rfl, b, ws, rfl, .inr (.inl (.inl (s4 _ _ hbJ))), fun c5 hc5 => ?_⟩
    have s5 := s4.trans (same_upd (o := .lst ws) hc5)
    have v4K := v4.same (same_upd (o := .lst ws) hc5)
    have v5 : ValOk (upd (upd FJ c4 (.tup [])) c5 (.lst ws)) (.ref c5) .non := ⟨c5, rfl, .inl ⟨ws, upd_same, rfl⟩⟩
    have hbK := s5 _ _ hbJ
    have hstK := hstJ.keep (Same.tk s5)
    have efK := s5 _ _ efJ
    have v0K := v0J.same s5
    have v1K := v1J.same s5
    have v2K := v2J.same s5
    have v3K := v3.same s5
    have hc5f : c5 ≠ fd := fun e => by
      have := s4 _ _ efJ
      rw [← e, hc5] at this
      cases this
    generalize upd (upd FJ c4 (.tup [])) c5 (.lst ws) = FK at s5 v4K v5 hbK hstK efK v0K v1K v2K v3K ⊢
    clear s4 v4 s5 hbJ hstJ efJ v0J v1J v2J v3
    refine ⟨sz rfl, fun l6 hl6 => ?_⟩
    have s6 := same_upd (o := .lst [.ref c0, .ref c1, .ref c2, .ref c3, .ref c4, .ref c5]) hl6
    have e6 := upd_same (H := FK) (a := l6) (o := .lst [.ref c0, .ref c1, .ref c2, .ref c3, .ref c4, .ref c5])
    have hbL := s6 _ _ hbK
    have hstL := hstK.keep (Same.tk s6)
    have efL := s6 _ _ efK
    have v0L := v0K.same s6
    have v1L := v1K.same s6
    have v2L := v2K.same s6
    have v3L := v3K.same s6
    have v4L := v4K.same s6
    have v5L := v5.same s6
    generalize upd FK l6 (.lst [.ref c0, .ref c1, .ref c2, .ref c3, .ref c4, .ref c5]) = FL at s6 e6 hbL hstL efL v0L v1L v2L v3L v4L v5L ⊢
    clear s6 hbK hstK efK v0K v1K v2K v3K v4K v5
    refine ⟨_, rfl, _, rfl, sz rfl, fun q5 hq5 => ⟨sz rfl, fun q6 hq6 => ?_⟩⟩
    have sq := (same_upd (o := .tup [.str "show", .int 0, .str ""]) hq5).trans (same_upd (o := .tup [.ref q5]) hq6)
    have hbM := sq _ _ hbL
    have hstM := hstL.keep (Same.tk sq)
    have stq : StepAt (upd (upd FL q5 (.tup [.str "show", .int 0, .str ""])) q6 (.tup [.ref q5])) (.ref q5) (.flat (cd "show") [.int 0, .str (S "")]) := ⟨q5, rfl, by rw [mkS_cd]; exact same_upd hq6 _ _ upd_same⟩
    have eq6 := upd_same (H := upd FL q5 (.tup [.str "show", .int 0, .str ""])) (a := q6) (o := .tup [.ref q5])
    have sM := sq
    generalize upd (upd FL q5 (.tup [.str "show", .int 0, .str ""])) q6 (.tup [.ref q5]) = FM at sM sq hbM hstM stq eq6 ⊢
    refine cat_tup (.inl (.inl hbM)) (.inl (.inl eq6)) hwne hws1 (fun e => by cases e) (fun _ c6 hc6 => ?_)
    have s7 := same_upd (o := .tup (ws ++ [.ref q5])) hc6
    have n6 : c6 ≠ fd := fun e => by rw [e, sM _ _ efL] at hc6; cases hc6
    have v6 : ValOk (upd FM c6 (.tup (ws ++ [.ref q5]))) (.ref c6) (.int (sts.length : Nat)) := ⟨c6, rfl, .inr ⟨_, _, upd_same, StepsAt.keep (Paired.app hstM (.cons stq .nil)) (Same.tk s7), hokc _ ok3c, hlc _, wr_bad hv h1 h20 (.inl bad_steps.2.2)⟩⟩
    have sN := sM.trans s7
    have hbN := s7 _ _ hbM
    have hstN := hstM.keep (Same.tk s7)
    generalize upd FM c6 (.tup (ws ++ [.ref q5])) = FN at s7 v6 sN hbN hstN ⊢
    clear hbM hstM stq eq6 s7 sM sq
    refine ⟨_, rfl, _, rfl, sl_take1 hbN hwl fun t7 FO sO ht7 => ?_⟩
    have hstO := Paired.tk_ 1 (hstN.keep (Same.tk sO))
    refine ⟨t7, 201, _, rfl, rfl, .inl (.inl ht7), (fun e => by rw [e] at hlt; cases hlt), by decide, by decide, by rw [hlt]; decide, fun c7 hc7 => ?_⟩
    have s8 := same_upd (o := .tup (List.replicate (201 : Int).toNat (ws.take 1)).flatten) hc7
    have n7 : c7 ≠ fd := fun e => by rw [e, sO _ _ (sN _ _ efL)] at hc7; cases hc7
    have v7 : ValOk (upd FO c7 (.tup (List.replicate (201 : Int).toNat (ws.take 1)).flatten)) (.ref c7) .non := by
      refine ⟨c7, rfl, .inr ⟨_, (List.replicate 201 (sts.take 1)).flatten, upd_same, StepsAt.keep (rep_paired hstO 201) (Same.tk s8), fun st hs => ?_, ?_, wr_many ?_⟩⟩
      · obtain ⟨l, hl, hs⟩ := List.mem_flatten.mp hs
        rw [List.eq_of_mem_replicate hl] at hs
        exact hokA st (List.mem_of_mem_take hs)
      · rw [rep_len, htk]
        show 201 * 1 ≤ 1000
        decide
      · rw [rep_len, htk]
        show 200 < 201 * 1
        decide
    have sP := (sN.trans sO).trans s8
    have v6P := (v6.same sO).same s8
    generalize upd FO c7 (.tup (List.replicate (201 : Int).toNat (ws.take 1)).flatten) = FP at v7 sP v6P ⊢
    refine ⟨sz rfl, fun l7 hl7 => ⟨l6, l7, _, _, rfl, rfl, same_upd hl7 _ _ (sP _ _ e6), upd_same, sz rfl, fun l8 hl8 => ?_⟩⟩
    have sR := (same_upd (o := .lst [.ref c6, .ref c7]) hl7).trans (same_upd (o := .lst ([.ref c0, .ref c1, .ref c2, .ref c3, .ref c4, .ref c5] ++ [.ref c6, .ref c7])) hl8)
    have sS := sP.trans sR
    have e8 := upd_same (H := upd FP l7 (.lst [.ref c6, .ref c7])) (a := l8) (o := .lst ([.ref c0, .ref c1, .ref c2, .ref c3, .ref c4, .ref c5] ++ [.ref c6, .ref c7]))
    have w6 := v6P.same sR
    have w7 := v7.same sR
    refine ⟨l8, rfl, ⟨_, .inl (.inl e8)⟩, ?_⟩
    generalize upd (upd FP l7 (.lst [.ref c6, .ref c7])) l8 (.lst ([.ref c0, .ref c1, .ref c2, .ref c3, .ref c4, .ref c5] ++ [.ref c6, .ref c7])) = FS at sS e8 w6 w7 ⊢
    have hbS := sS _ _ hbL
    have efS := sS _ _ efL
    have w0 := v0L.same sS
    have w1 := v1L.same sS
    have w2 := v2L.same sS
    have w3 := v3L.same sS
    have w4 := v4L.same sS
    have w5 := v5L.same sS
    clear sR sP sN sO s8 hl8 hl7 hc7 hc6 hq5 hq6 hl6 v6 v6P v7 hstO hbN hstN ht7 hbL hstL efL v0L v1L v2L v3L v4L v5L e6 sS
    have hl8f : l8 ≠ fd := fun e => by
      rw [e, efS] at e8
      cases e8
    have pairs : Paired (fun v out => ValOk FS v out ∧ v ≠ .ref fd ∧ sc3 out = true) ([.ref c0, .ref c1, .ref c2, .ref c3, .ref c4, .ref c5] ++ [.ref c6, .ref c7]) [if sts.length > 1 then .int 0 else .non, .int (sts.length : Nat), .int (sts.length : Nat), .int (sts.length : Nat), .non, .non, .int (sts.length : Nat), .non] := by
      have sci : sc3 (if sts.length > 1 then V.int 0 else V.non) = true := by split <;> rfl
      exact .cons ⟨w0, fun e => n0 (V.ref.inj e), sci⟩ (.cons ⟨w1, fun e => n1 (V.ref.inj e), rfl⟩ (.cons ⟨w2, fun e => n2 (V.ref.inj e), rfl⟩ (.cons ⟨w3, fun e => n3 (V.ref.inj e), rfl⟩ (.cons ⟨w4, fun e => n4 (V.ref.inj e), rfl⟩ (.cons ⟨w5, fun e => hc5f (V.ref.inj e), rfl⟩
        (.cons ⟨w6, fun e => n6 (V.ref.inj e), rfl⟩ (.cons ⟨w7, fun e => n7 (V.ref.inj e), rfl⟩ .nil)))))))
    have hscO : ([if sts.length > 1 then V.int 0 else .non, .int (sts.length : Nat), .int (sts.length : Nat), .int (sts.length : Nat), .non, .non, .int (sts.length : Nat), .non]).all sc3 = true := by
      by_cases h : sts.length > 1
      · rw [if_pos h]; rfl
      · rw [if_neg h]; rfl
    have hlO : ([if sts.length > 1 then V.int 0 else .non, .int (sts.length : Nat), .int (sts.length : Nat), .int (sts.length : Nat), .non, .non, .int (sts.length : Nat), .non]).length = 8 := rfl
    have hif : (if sts.length > 1 then V.int 0 else V.non) = V.int 0 ∧ sts.length > 1 ∨ (if sts.length > 1 then V.int 0 else V.non) = V.non ∧ ¬ sts.length > 1 := by
      by_cases h : sts.length > 1
      · exact .inl ⟨if_pos h, h⟩
      · exact .inr ⟨if_neg h, h⟩
    generalize hoe : [if sts.length > 1 then V.int 0 else .non, .int (sts.length : Nat), .int (sts.length : Nat), .int (sts.length : Nat), .non, .non, .int (sts.length : Nat), .non] = outs at pairs hscO hlO
    clear w0 w1 w2 w3 w4 w5 w6 w7
    refine for_list (xs := [.ref c0, .ref c1, .ref c2, .ref c3, .ref c4, .ref c5] ++ [.ref c6, .ref c7]) (fun i σ' H' => (∀ b o, b ≠ fd → FS b = some o → H' b = some o) ∧ H' fd = some (.lst (outs.take i)) ∧ ∃ x9 x11 x12 x13 x15, σ' = [some (.ref p), some (.ref r), some (.ref b), some (.ref D), some (.ref lb5), some (.ref lf1), some (.int (at_ : Nat)), some (.ref l6), some (.ref fd), x9, none, x11, x12, x13, none, x15, none])
      ⟨fun _ _ _ e => e, efS, _, _, _, _, _, rfl⟩ (fun i σ' H' _ g => .inl (.inl (g.1 _ _ hl8f e8))) ?_ ?_
    · rintro i x σ' H1 hx ⟨hkp, hfd1, x9, x11, x12, x13, x15, rfl⟩
      obtain ⟨out, hout, hvok, hne, hsc⟩ := Paired.at_ pairs hx
      have hvok1 := hvok.keep hne hkp efS
      have htk1 : outs.take (i + 1) = outs.take i ++ [out] := by rw [List.take_succ, hout]; rfl
      have hi8 : i < 8 := by
        have := (List.getElem?_eq_some_iff.mp hout).1
        omega
      refine ⟨_, rfl, ?_⟩
      dsimp only [tNil]
      refine val_write hvok1 fun d Hd sd hd => ⟨true, B.eS, fun _ ea hea => ?_, fun h => by cases h⟩
      refine ⟨_, rfl, rfl, d, rfl, ⟨_, hd⟩, _, _, _, rfl, (fun u h => h), B.kS, _, rfl, iteT ⟨_, rfl, rfl, rfl, d, _, rfl, hd, ?_⟩⟩
      refine ⟨_, rfl, .inl ⟨rfl, _, .inl (.inl (sd _ _ hfd1))⟩, _, rfl, fd, _, _, rfl, rfl, sd _ _ hfd1, ?_, fun b' o hb' e => ?_, ?_, _, _, _, _, _, rfl⟩
      · refine Nat.lt_of_le_of_lt (m := 8) ?_ (by decide)
        rw [List.length_take]
        omega
      · rw [upd_ne hb']
        exact sd _ _ (hkp _ _ hb' e)
      · rw [upd_same, htk1]
    rintro σ' H1 ⟨hkp, hfd1, x9, x11, x12, x13, x15, rfl⟩
    have hl9 : ([V.ref c0, V.ref c1, V.ref c2, V.ref c3, V.ref c4, V.ref c5] ++ [V.ref c6, V.ref c7]).length = 8 := rfl
    rw [hl9, List.take_of_length_le (by omega)] at hfd1
    have hbT := hkp _ _ (fun e => by rw [e, efS] at hbS; cases hbS) hbS
    refine ⟨_, rfl, b, ws, rfl, .inr (.inl (.inl hbT)), ?_⟩
    rw [hlw]
    refine ⟨_, rfl, _, rfl, _, _, rfl, rfl, _, rfl, ?_⟩
    rcases hif with ⟨hi1, hi2⟩ | ⟨hi1, hi2⟩
    · refine ite2 (fun _ => ?_) (fun g => absurd (decide_eq_true (by omega)) g)
      refine ⟨_, rfl, _, rfl, _, rfl, _, rfl, sz rfl, fun e he => ⟨_, _, rfl, .inr ⟨fd, e, outs, _, rfl, rfl, .inr ⟨same_upd he _ _ hfd1, upd_same⟩, sz4 rfl, ?_⟩, fun H' s' => q H'⟩⟩
      rw [hi1] at hoe
      rw [← hoe]
      rw [← hoe] at hscO
      exact al_flats hscO
    · refine ite2 (fun g => absurd (of_decide_eq_true g) (by omega)) (fun _ => ?_)
      refine ⟨_, rfl, _, rfl, _, rfl, _, rfl, sz rfl, fun e he => ⟨_, _, rfl, .inr ⟨fd, e, outs, _, rfl, rfl, .inr ⟨same_upd he _ _ hfd1, upd_same⟩, sz4 rfl, ?_⟩, fun H' s' => q H'⟩⟩
      rw [hi1] at hoe
      rw [← hoe]
      rw [← hoe] at hscO
      exact al_flats hscO)
end
end Ms


set_option Elab.async false
set_option linter.all false
set_option maxRecDepth 100000
set_option maxHeartbeats 4000000
/-! # The end: what the top has written, told as facts; all defs; law -/
namespace Ms
open PySem PySem.Spec PyProof.Rows L2
def HasDef (K : PySem.W.Frag) (x : Str) (st : Stmt) : Prop := ∃ (f : Addr) (oc : Value) (od : Option Addr) (sl : Array (Option Value)) (kV dc pm : Value) (an : Option Addr) (cd ct : Value),
  PySem.W.nsIn K mainGlobals x = some (some (.ref f)) ∧ K.lookup f = some ⟨oc, od, .func (PySem.W.fnOf x x (defArgs st) (defBody st) (defScope st) .none kV dc pm an cd ct), sl⟩ ∧ PySem.W.codeIn K cd x = true ∧ PySem.W.keepIn K (.ref f) = true
theorem defx {K : PySem.W.Frag} {h : Heap} {mg : Str → Option Value} {x : Str} {st : Stmt} {ps : List Str} (X : K.In h) (G : h.Ns mainGlobals mg) (d : HasDef K x st)
    (hb : ∀ (kV doc pm : Value) (an : Option Addr) (cdv ct : Value) (us : List Value), us.length = ps.length → bindArgs (PySem.W.fnOf x x (defArgs st) (defBody st) (defScope st) .none kV doc pm an cdv ct) ⟨us, []⟩ = pure (ps.zip us)) : DefX K mg x st ps := by
  obtain ⟨f, oc, od, sl, kV, dc, pm, an, cd, ct, h1, h2, h3, h4⟩ := d
  have F := fun_mk (st := st) h2 h3 h4
  exact ⟨f, _, F, PySem.W.mg_of X G h1, F.binds hb⟩
def HasInt (K : PySem.W.Frag) (x : Str) (i : Int) : Prop := ∃ t, PySem.W.nsIn K mainGlobals x = some (some (.int i t))
def HasStr (K : PySem.W.Frag) (x : Str) (z : Str) : Prop := ∃ t, PySem.W.nsIn K mainGlobals x = some (some (.str z t))
theorem cst_int {K : PySem.W.Frag} {h : Heap} {mg : Str → Option Value} {x : Str} {i : Int} (X : K.In h) (G : h.Ns mainGlobals mg) (d : HasInt K x i) : Cst mg x (.int i) := by
  obtain ⟨t, e⟩ := d
  exact ⟨_, PySem.W.mg_of X G e, t, rfl⟩
theorem cst_str {K : PySem.W.Frag} {h : Heap} {mg : Str → Option Value} {x : Str} {z : Str} (X : K.In h) (G : h.Ns mainGlobals mg) (d : HasStr K x z) : Cst mg x (.str z) := by
  obtain ⟨t, e⟩ := d
  exact ⟨_, PySem.W.mg_of X G e, t, rfl⟩
/-- «except S» at an error of the class at D -/
theorem exm_of {K : PySem.W.Frag} {D S : Addr} (h1 : PySem.W.subIn K (.ref D) (.type "BaseException") = some true) (h2 : PySem.W.isClsIn K S = true) (h3 : PySem.W.typeIn K (.ref S) = some (.type "type")) (h0 : PySem.W.subIn K (.ref S) (.type "BaseException") = some true) (h4 : PySem.W.subIn K (.ref D) (.ref S) = some true) :
    PySem.W.exmOne K (.ref D) (.ref S) = some true := by
  have e1 : (PySem.W.subIn K (.ref S) (.type "BaseException") == some true) = true := by rw [h0] <;> rfl
  have e2 : ((PySem.W.clsIn K S).isSome && PySem.W.typeIn K (.ref S) == some (.type "type")) = true := by
    have h2' : (PySem.W.clsIn K S).isSome = true := h2
    rw [h2', h3] <;> rfl
  show (if (PySem.W.subIn K (.ref S) (.type "BaseException") == some true) = true then (if ((PySem.W.clsIn K S).isSome && PySem.W.typeIn K (.ref S) == some (.type "type")) = true then PySem.W.subIn K (.ref D) (.ref S) else none) else none) = some true
  rw [if_pos e1, if_pos e2]
  exact h4
theorem kit_self {K : PySem.W.Frag} {D : Addr} : PySem.W.kitOne K (.ref D) (.ref D) = some true := by
  unfold PySem.W.kitOne
  have e : (Value.ref D == Value.ref D) = true := beq_self_eq_true _
  rw [if_pos e]
/-! ### the commands -/
def cmdNames : List (String × Nat × Nat) := [("write", 1, 2), ("show", 1, 1), ("notes", 1, 0), ("tick", 1, 0), ("fall", 1, 0), ("cut", 2, 0), ("heal", 2, 0), ("lose", 1, 0), ("double", 1, 0), ("spoil", 3, 0), ("deliver", 1, 0), ("flush", 0, 0), ("settle", 1, 0), ("flight", 0, 0), ("alike", 0, 0)]
theorem cmd_names : cmds = cmdNames.map fun q => (cd q.1, q.2) := by decide +kernel
def TupCmd (K : PySem.W.Frag) (p : Addr) (many more : Nat) : Prop := ∃ od its n sl, K.lookup p = some ⟨.type "tuple", od, .seq its n, sl⟩ ∧ ∃ t1 t2, its.toList = [.int many t1, .str (S (kindS more)) t2]
theorem TupCmd.at_ {K : PySem.W.Frag} {p : Addr} {many more : Nat} (h : TupCmd K p many more) (H : Hp) : SqT K H p [.int many, .str (S (kindS more))] := by
  obtain ⟨od, its, n, sl, h1, t1, t2, h2⟩ := h
  refine .inr ⟨_, its, n, h1, rfl, rfl, ?_, ?_⟩
  · rw [← Array.length_toList, h2]
    show 2 ≤ sizeLine
    decide
  · rw [h2]
    exact .cons ⟨t1, rfl⟩ (.cons ⟨t2, rfl⟩ .nil)
def Ents (K : PySem.W.Frag) : List DictEntry → List (String × Nat × Nat) → Prop
  | [], [] => True
  | e :: r, q :: t => (∃ tk p, e.key = .str (S q.1) tk ∧ e.val = .ref p ∧ TupCmd K p q.2.1 q.2.2) ∧ Ents K r t
  | _, _ => False
theorem ents_look {K : PySem.W.Frag} : ∀ {es : List DictEntry} {l : List (String × Nat × Nat)}, Ents K es l → ∀ z : Str, (es.any (·.refKey) = false) ∧
    match (l.map fun q => (cd q.1, q.2)).lookup (TL.tl z) with
    | none => es.find? (·.key.isStr z) = none
    | some mm => ∃ e p, es.find? (·.key.isStr z) = some e ∧ e.val = .ref p ∧ TupCmd K p mm.1 mm.2
  | [], [], _, z => ⟨rfl, rfl⟩
  | e :: r, q :: t, ⟨⟨tk, p, h1, h2, h3⟩, ht⟩, z => by
    obtain ⟨g1, g2⟩ := ents_look ht z
    have hrk : e.refKey = false := by
      unfold DictEntry.refKey
      rw [h1]
    refine ⟨by rw [List.any_cons, hrk, g1]; rfl, ?_⟩
    rw [List.map_cons, List.lookup_cons, List.find?_cons]
    have hs : e.key.isStr z = decide (TL.tl z = cd q.1) := by
      rw [h1]
      show (S q.1 == z) = _
      by_cases h : TL.tl z = cd q.1
      · rw [decide_eq_true h, S_iff.mpr h]
        exact beq_self_eq_true _
      · rw [decide_eq_false h]
        exact beq_eq_false_iff_ne.mpr fun g => h (by rw [← g, tl_S])
    rw [hs]
    by_cases h : TL.tl z = cd q.1
    · have hb : (TL.tl z == cd q.1) = true := beq_iff_eq.mpr h
      rw [hb, decide_eq_true h]
      exact ⟨e, p, rfl, h2, h3⟩
    · have hb : (TL.tl z == cd q.1) = false := beq_eq_false_iff_ne.mpr h
      rw [hb, decide_eq_false h]
      exact g2
  | [], _ :: _, h, _ => h.elim
  | _ :: _, [], h, _ => h.elim
theorem cmds_in_K {K : PySem.W.Frag} {D : Addr} {es : Array DictEntry} {n : Nat} (hl : K.lookup D = some ⟨.type "dict", none, .dict es n, #[]⟩) (he : Ents K es.toList cmdNames) :
    (∀ z : Str, cmd (TL.tl z) = none → PySem.W.nsIn K D z = some none) ∧ ∀ (z : Str) (many more : Nat), cmd (TL.tl z) = some (many, more) → ∃ p : Addr, PySem.W.nsIn K D z = some (some (.ref p)) ∧ ∀ H, SqT K H p [.int many, .str (S (kindS more))] := by
  refine ⟨fun z hz => ?_, fun z many more hz => ?_⟩
  · obtain ⟨g1, g2⟩ := ents_look he z
    rw [cmd, cmd_names] at hz
    rw [hz] at g2
    dsimp only at g2
    unfold PySem.W.nsIn
    rw [hl]
    dsimp only
    rw [g2]
    dsimp only
    rw [g1]
    rfl
  · obtain ⟨g1, g2⟩ := ents_look he z
    rw [cmd, cmd_names] at hz
    rw [hz] at g2
    obtain ⟨e, p, h1, h2, h3⟩ := g2
    refine ⟨p, ?_, h3.at_⟩
    unfold PySem.W.nsIn
    rw [hl]
    dsimp only
    rw [h1]
    dsimp only
    rw [h2]
/-- one own error's facts -/
structure ErrK (P : Program) (K : PySem.W.Frag) (nm qn : Str) (C fI : Addr) : Prop where
  aC : PySem.W.nsIn K mainGlobals nm = some (some (.ref C))
  cls : ∃ nm' q N bs bm sn sub ab col dd k0 k1 k2 k3 k5, K.lookup C = some (excClassObj nm' q C N bs bm true sn sub ab col dd k0 k1 k2 k3 k5 "ValueError.__new__") ∧ PySem.HandSPX.refsVE bm = true
  sa : PySem.W.findIn K (.ref C) "__setattr__" = some (some (.builtin "object.__setattr__"))
  ga : PySem.W.findIn K (.ref C) "__getattribute__" = some (some (.builtin "BaseException.__getattribute__"))
  gg : PySem.W.findIn K (.ref C) "__getattr__" = some none
  noN : PySem.W.findIn K (.ref C) "index" = some none
  iC : PySem.W.findIn K (.ref C) "__init__" = some (some (.ref fI))
  tC : PySem.W.typeIn K (.ref fI) = some (.type "function")
  kC : PySem.W.keepIn K (.ref C) = true
  exC : PySem.W.subIn K (.ref C) (.type "BaseException") = some true
  vC : PySem.W.subIn K (.ref C) (.type "ValueError") = some true
  tyC : PySem.W.typeIn K (.ref C) = some (.type "type")
  hdC : PySem.W.hasDictIn K C = true
  su : PySem.W.ks_superIn K C C "__init__" = some (some (.builtin "ValueError.__init__"))
  slf : PySem.W.mroIn K C (.ref C) = some true
  op : PySem.W.nsIn K cStatics "thirdparty.any" = some none
  top : (P.main.scope.names.lookup ("super" : Str)).isSome = false
  fn : ∃ (oc : Value) (od : Option Addr) (doc pm : Value) (an : Option Addr) (cda cc : Addr) (ct : Value) (osl : Array (Option Value)) (p1 p2 r1 r2 r3 r4 r5 r6 q1 q2 q3 q4 : Pos),
    K.lookup fI = some ⟨oc, od, .func (PySem.W.ksFn "__init__" qn (PySem.MsX.iA p1 p2) (PySem.MsX.iB r1 r2 r3 r4 r5 r6 q1 q2 q3 q4) PySem.MsX.iS .none .none doc pm an (.ref cda) ct cc), osl⟩ ∧ PySem.W.codeIn K (.ref cda) qn = true ∧
    (∃ oc cd cs vs file tf, K.lookup cda = some ⟨oc, cd, .fields vs, cs⟩ ∧ vs[2]? = some (.str file tf) ∧ ((P.main.file : Str) == file) = true) ∧
    (∃ ol cl csl, K.lookup cc = some ⟨ol, cl, .cell (some (.ref C)), csl⟩) ∧ (r3.endLine == r5.line) = true
  ha : PySem.W.findIn K (.ref C) "__class__" = some (some (.builtin "object.__class__"))
  hn : PySem.W.specialIn K (.builtin "object.__class__") "__get__" = some (some (.builtin "getset_descriptor.__get__"))
  ht : PySem.W.takesIn K (.builtin "object.__class__") = some true
  hm : PySem.W.mroIn K C (.type "object") = some true
theorem ErrK.bad {P : Program} {K : PySem.W.Frag} {h : Heap} {mg : Str → Option Value} {nm qn : Str} {C fI : Addr} (E : ErrK P K nm qn C fI) (X : K.In h) (G : h.Ns mainGlobals mg) (zs : PySem.W.nsIn K mainGlobals "super" = some none) : PySem.MsX.BadTxt P K mg nm qn C fI :=
  { gC := PySem.W.mg_of X G E.aC, cls := E.cls, sa := E.sa, ga := E.ga, gg := E.gg, noN := E.noN, iC := E.iC, tC := E.tC, kC := E.kC, exC := E.exC, vC := E.vC, tyC := E.tyC, hdC := E.hdC, su := E.su, slf := E.slf, op := E.op, gS := PySem.W.mg_none_of X G zs, top := E.top, fn := by
      obtain ⟨oc, od, doc, pm, an, cda, cc, ct, osl, p1, p2, r1, r2, r3, r4, r5, r6, q1, q2, q3, q4, h1, h2, h3, h4, h5⟩ := E.fn
      exact ⟨oc, od, doc, pm, an, cda, cc, ct, osl, p1, p2, r1, r2, r3, r4, r5, r6, q1, q2, q3, q4, h5, h1, h2, h3, h4⟩ }
theorem ErrK.exc {P : Program} {K : PySem.W.Frag} {nm qn : Str} {C fI : Addr} (E : ErrK P K nm qn C fI) : ExcC K C := ⟨E.ga, E.gg, E.exC, E.hdC, E.ha, E.hn, E.ht, E.hm⟩
theorem all_mk {P : Program} {w : World} {K : PySem.W.Frag} {h : Heap} {mg : Str → Option Value} {fa CE CL CS fL fS DC f0 : Addr} {es : Array DictEntry} {en : Nat} {od0 an0 : Option Addr} {sl0 : Array (Option Value)} {oc0 kV0 dc0 pm0 cd0 ct0 : Value} (X : K.In h) (G : h.Ns mainGlobals mg) (hfa : mg "law" = some (.ref fa))
    (z_isinstance : PySem.W.nsIn K mainGlobals "isinstance" = some none)
    (z_len : PySem.W.nsIn K mainGlobals "len" = some none)
    (z_min : PySem.W.nsIn K mainGlobals "min" = some none)
    (z_sorted : PySem.W.nsIn K mainGlobals "sorted" = some none)
    (z_int : PySem.W.nsIn K mainGlobals "int" = some none)
    (z_bool : PySem.W.nsIn K mainGlobals "bool" = some none)
    (z_str : PySem.W.nsIn K mainGlobals "str" = some none)
    (z_list : PySem.W.nsIn K mainGlobals "list" = some none)
    (z_tuple : PySem.W.nsIn K mainGlobals "tuple" = some none)
    (z_set : PySem.W.nsIn K mainGlobals "set" = some none)
    (z_range : PySem.W.nsIn K mainGlobals "range" = some none)
    (z_enumerate : PySem.W.nsIn K mainGlobals "enumerate" = some none)
    (z_super : PySem.W.nsIn K mainGlobals "super" = some none)
    (v_MOST_SIGNS : HasInt K "MOST_SIGNS" 200)
    (v_MOST_NUMBER : HasInt K "MOST_NUMBER" (2 ^ 40))
    (v_MOST_KEY : HasInt K "MOST_KEY" 40)
    (v_MOST_FIGURES : HasInt K "MOST_FIGURES" 20)
    (v_MOST_LINES : HasInt K "MOST_LINES" 200)
    (v_MOST_ARGUMENT : HasInt K "MOST_ARGUMENT" (2 ^ 20))
    (v_SIGNS : HasStr K "SIGNS" (S "abcdefghijklmnopqrstuvwxyzABCDEFGHIJKLMNOPQRSTUVWXYZ0123456789 .,:;-_/+*()=?!"))
    (v_QUOTE : HasStr K "QUOTE" (S "'"))
    (v_FIGURES : HasStr K "FIGURES" (S "0123456789"))
    (aD : PySem.W.nsIn K mainGlobals "COMMANDS" = some (some (.ref DC)))
    (lD : K.lookup DC = some ⟨.type "dict", none, .dict es en, #[]⟩)
    (lit : PySem.W.KeysLit w.params es.toList)
    (low : (DC == sysModules) = false)
    (ent : Ents K es.toList cmdNames)
    (aE : PySem.W.nsIn K mainGlobals "StoreError" = some (some (.ref CE)))
    (iE : PySem.W.isClsIn K CE = true)
    (tE : PySem.W.typeIn K (.ref CE) = some (.type "type"))
    (bE : PySem.W.subIn K (.ref CE) (.type "BaseException") = some true)
    (eL : ErrK P K "BadLine" "BadLine.__init__" CL fL)
    (sL : PySem.W.subIn K (.ref CL) (.ref CE) = some true)
    (eS : ErrK P K "BadSteps" "BadSteps.__init__" CS fS)
    (sS : PySem.W.subIn K (.ref CS) (.ref CE) = some true)
    (d_is_in : HasDef K "is_in" sIsIn)
    (d_is_text : HasDef K "is_text" sIsText)
    (d_is_value : HasDef K "is_value" sIsValue)
    (d_is_key : HasDef K "is_key" sIsKey)
    (d_word_end : HasDef K "word_end" sWordEnd)
    (d_words_of : HasDef K "words_of" sWordsOf)
    (d_count_in : HasDef K "count_in" sCountIn)
    (d_text_in : HasDef K "text_in" sTextIn)
    (d_value_in : HasDef K "value_in" sValueIn)
    (d_word_of_value : HasDef K "word_of_value" sWordOfValue)
    (d_step_in : HasDef K "step_in" sStepIn)
    (d_link_in : HasDef K "link_in" sLinkIn)
    (d_world_in : HasDef K "world_in" sWorldIn)
    (d_is_step : HasDef K "is_step" sIsStep)
    (d_are_links : HasDef K "are_links" sAreLinks)
    (d_line_of : HasDef K "line_of" sLineOf)
    (d_need_steps : HasDef K "need_steps" sNeedSteps)
    (d_write_script : HasDef K "write_script" sWriteScript)
    (d_read_script : HasDef K "read_script" sReadScript)
    (d__law_taken : HasDef K "_law_taken" sLawTaken)
    (d__law_links : HasDef K "_law_links" sLawLinks)
    (d__law_pick : HasDef K "_law_pick" sLawPick)
    (d__law_some_key : HasDef K "_law_some_key" sLawSomeKey)
    (d__law_signs_row : HasDef K "_law_signs_row" sLawSignsRow)
    (d__law_some_text : HasDef K "_law_some_text" sLawSomeText)
    (d__law_signed : HasDef K "_law_signed" sLawSigned)
    (d__law_some_value : HasDef K "_law_some_value" sLawSomeValue)
    (d__law_step : HasDef K "_law_step" sLawStep)
    (d__law_script : HasDef K "_law_script" sLawScript)
    (d__law_value_word : HasDef K "_law_value_word" sLawValueWord)
    (d__law_line : HasDef K "_law_line" sLawLine)
    (d__law_alike : HasDef K "_law_alike" sLawAlike)
    (aLaw : PySem.W.nsIn K mainGlobals "law" = some (some (.ref f0)))
    (lLaw : K.lookup f0 = some ⟨oc0, od0, .func (PySem.W.fnOf "law" "law" (defArgs sLaw) (defBody sLaw) (defScope sLaw) .none kV0 dc0 pm0 an0 cd0 ct0), sl0⟩)
    (cLaw : PySem.W.codeIn K cd0 "law" = true)
    (kLaw : PySem.W.keepIn K (.ref f0) = true)
    : ∃ fd : FuncData, (∀ (s : Shared) (v : Value), BindsTo s fd ⟨[v], []⟩ [("_law_script_here", v)]) ∧ ∀ base : Heap, K.In base → base.Ns mainGlobals mg → FnOk P w K mg base CX0 7 fa fd ["_law_script_here"] (spLaw K) := by
  have e := hfa.symm.trans (PySem.W.mg_of X G aLaw)
  cases e
  have hsg : S "abcdefghijklmnopqrstuvwxyzABCDEFGHIJKLMNOPQRSTUVWXYZ0123456789 .,:;-_/+*()=?!" = mkS signs := (mkS_cd _).symm
  rw [hsg] at v_SIGNS
  obtain ⟨cN, cS⟩ := cmds_in_K lD ent
  have B : Bu P w K mg ⟨CE, CL, CS, fL, fS, DC, es, en⟩ :=
    { b_isinstance := PySem.W.mg_none_of X G z_isinstance, b_len := PySem.W.mg_none_of X G z_len, b_min := PySem.W.mg_none_of X G z_min, b_sorted := PySem.W.mg_none_of X G z_sorted, b_int := PySem.W.mg_none_of X G z_int, b_bool := PySem.W.mg_none_of X G z_bool, b_str := PySem.W.mg_none_of X G z_str, b_list := PySem.W.mg_none_of X G z_list, b_tuple := PySem.W.mg_none_of X G z_tuple, b_set := PySem.W.mg_none_of X G z_set, b_range := PySem.W.mg_none_of X G z_range, b_enumerate := PySem.W.mg_none_of X G z_enumerate,
      c_MOST_SIGNS := cst_int X G v_MOST_SIGNS, c_MOST_NUMBER := cst_int X G v_MOST_NUMBER, c_SIGNS := cst_str X G v_SIGNS, c_MOST_KEY := cst_int X G v_MOST_KEY, c_QUOTE := cst_str X G v_QUOTE, c_FIGURES := cst_str X G v_FIGURES,
      c_MOST_FIGURES := cst_int X G v_MOST_FIGURES, c_MOST_LINES := cst_int X G v_MOST_LINES, c_MOST_ARGUMENT := cst_int X G v_MOST_ARGUMENT,
      c_COMMANDS := ⟨_, PySem.W.mg_of X G aD, rfl⟩, c_BadLine := ⟨_, PySem.W.mg_of X G eL.aC, rfl⟩, c_BadSteps := ⟨_, PySem.W.mg_of X G eS.aC, rfl⟩, g_StoreError := PySem.W.mg_of X G aE,
      bl := eL.bad X G z_super, bs := eS.bad X G z_super, xBadLine := eL.exc, xBadSteps := eS.exc, eL := exm_of eL.exC iE tE bE sL, eS := exm_of eS.exC iE tE bE sS, kL := kit_self, kS := kit_self,
      cmdD := ⟨lD, lit, low⟩, cmdN := cN, cmdS := cS }
  have x_is_in := defx (ps := ["value", "least", "most"]) X G d_is_in fun _ _ _ _ _ _ us hl => match us, hl with | [_, _, _], _ => rfl
  have x_is_text := defx (ps := ["value", "most"]) X G d_is_text fun _ _ _ _ _ _ us hl => match us, hl with | [_, _], _ => rfl
  have x_is_value := defx (ps := ["value"]) X G d_is_value fun _ _ _ _ _ _ us hl => match us, hl with | [_], _ => rfl
  have x_is_key := defx (ps := ["value"]) X G d_is_key fun _ _ _ _ _ _ us hl => match us, hl with | [_], _ => rfl
  have x_word_end := defx (ps := ["line", "at"]) X G d_word_end fun _ _ _ _ _ _ us hl => match us, hl with | [_, _], _ => rfl
  have x_words_of := defx (ps := ["line"]) X G d_words_of fun _ _ _ _ _ _ us hl => match us, hl with | [_], _ => rfl
  have x_count_in := defx (ps := ["word"]) X G d_count_in fun _ _ _ _ _ _ us hl => match us, hl with | [_], _ => rfl
  have x_text_in := defx (ps := ["word"]) X G d_text_in fun _ _ _ _ _ _ us hl => match us, hl with | [_], _ => rfl
  have x_value_in := defx (ps := ["word"]) X G d_value_in fun _ _ _ _ _ _ us hl => match us, hl with | [_], _ => rfl
  have x_word_of_value := defx (ps := ["value"]) X G d_word_of_value fun _ _ _ _ _ _ us hl => match us, hl with | [_], _ => rfl
  have x_step_in := defx (ps := ["line"]) X G d_step_in fun _ _ _ _ _ _ us hl => match us, hl with | [_], _ => rfl
  have x_link_in := defx (ps := ["word"]) X G d_link_in fun _ _ _ _ _ _ us hl => match us, hl with | [_], _ => rfl
  have x_world_in := defx (ps := ["words"]) X G d_world_in fun _ _ _ _ _ _ us hl => match us, hl with | [_], _ => rfl
  have x_is_step := defx (ps := ["step"]) X G d_is_step fun _ _ _ _ _ _ us hl => match us, hl with | [_], _ => rfl
  have x_are_links := defx (ps := ["value"]) X G d_are_links fun _ _ _ _ _ _ us hl => match us, hl with | [_], _ => rfl
  have x_line_of := defx (ps := ["step"]) X G d_line_of fun _ _ _ _ _ _ us hl => match us, hl with | [_], _ => rfl
  have x_need_steps := defx (ps := ["steps"]) X G d_need_steps fun _ _ _ _ _ _ us hl => match us, hl with | [_], _ => rfl
  have x_write_script := defx (ps := ["steps"]) X G d_write_script fun _ _ _ _ _ _ us hl => match us, hl with | [_], _ => rfl
  have x_read_script := defx (ps := ["text"]) X G d_read_script fun _ _ _ _ _ _ us hl => match us, hl with | [_], _ => rfl
  have x__law_taken := defx (ps := ["_law_row", "_law_many"]) X G d__law_taken fun _ _ _ _ _ _ us hl => match us, hl with | [_, _], _ => rfl
  have x__law_links := defx (ps := ["_law_row", "_law_many"]) X G d__law_links fun _ _ _ _ _ _ us hl => match us, hl with | [_, _], _ => rfl
  have x__law_pick := defx (ps := ["_law_row", "_law_things"]) X G d__law_pick fun _ _ _ _ _ _ us hl => match us, hl with | [_, _], _ => rfl
  have x__law_some_key := defx (ps := ["_law_row"]) X G d__law_some_key fun _ _ _ _ _ _ us hl => match us, hl with | [_], _ => rfl
  have x__law_signs_row := defx (ps := []) X G d__law_signs_row fun _ _ _ _ _ _ us hl => match us, hl with | [], _ => rfl
  have x__law_some_text := defx (ps := ["_law_row", "_law_most"]) X G d__law_some_text fun _ _ _ _ _ _ us hl => match us, hl with | [_, _], _ => rfl
  have x__law_signed := defx (ps := ["_law_row", "_law_most"]) X G d__law_signed fun _ _ _ _ _ _ us hl => match us, hl with | [_, _], _ => rfl
  have x__law_some_value := defx (ps := ["_law_row"]) X G d__law_some_value fun _ _ _ _ _ _ us hl => match us, hl with | [_], _ => rfl
  have x__law_step := defx (ps := ["_law_row", "_law_many"]) X G d__law_step fun _ _ _ _ _ _ us hl => match us, hl with | [_, _], _ => rfl
  have x__law_script := defx (ps := ["_law_row"]) X G d__law_script fun _ _ _ _ _ _ us hl => match us, hl with | [_], _ => rfl
  have x__law_value_word := defx (ps := ["_law_value"]) X G d__law_value_word fun _ _ _ _ _ _ us hl => match us, hl with | [_], _ => rfl
  have x__law_line := defx (ps := ["_law_step_here"]) X G d__law_line fun _ _ _ _ _ _ us hl => match us, hl with | [_], _ => rfl
  have x__law_alike := defx (ps := ["_law_found", "_law_due"]) X G d__law_alike fun _ _ _ _ _ _ us hl => match us, hl with | [_, _], _ => rfl
  have F0 := fun_mk (st := sLaw) lLaw cLaw kLaw
  refine ⟨PySem.W.fnOf "law" "law" (defArgs sLaw) (defBody sLaw) (defScope sLaw) .none kV0 dc0 pm0 an0 cd0 ct0, fun s v => .of_eq rfl, fun base _ _ => ?_⟩
  have y_is_in := ok_is_in (base := base) (k := 0) x_is_in B 
  have y_is_text := ok_is_text (base := base) (k := 0) x_is_text B 
  have y_word_end := ok_word_end (base := base) (k := 0) x_word_end B 
  have y_count_in := ok_count_in (base := base) (k := 0) x_count_in B 
  have y_word_of_value := ok_word_of_value (base := base) (k := 0) x_word_of_value B 
  have y__law_taken := ok__law_taken (base := base) (k := 0) x__law_taken B 
  have y__law_signs_row := ok__law_signs_row (base := base) (k := 0) x__law_signs_row B 
  have y__law_value_word := ok__law_value_word (base := base) (k := 0) x__law_value_word B 
  have y_is_value := ok_is_value (base := base) (k := 1) x_is_value B (c_is_in := y_is_in.mono (by decide)) (c_is_text := y_is_text.mono (by decide))
  have y_is_key := ok_is_key (base := base) (k := 1) x_is_key B (c_is_text := y_is_text.mono (by decide))
  have y_words_of := ok_words_of (base := base) (k := 1) x_words_of B (c_word_end := y_word_end.mono (by decide))
  have y_text_in := ok_text_in (base := base) (k := 1) x_text_in B (c_is_text := y_is_text.mono (by decide))
  have y_are_links := ok_are_links (base := base) (k := 1) x_are_links B (c_is_in := y_is_in.mono (by decide))
  have y_link_in := ok_link_in (base := base) (k := 1) x_link_in B (c_count_in := y_count_in.mono (by decide))
  have y_line_of := ok_line_of (base := base) (k := 1) x_line_of B (c_word_of_value := y_word_of_value.mono (by decide))
  have y__law_links := ok__law_links (base := base) (k := 1) x__law_links B (c__law_taken := y__law_taken.mono (by decide))
  have y__law_pick := ok__law_pick (base := base) (k := 1) x__law_pick B (c__law_taken := y__law_taken.mono (by decide))
  have y__law_signed := ok__law_signed (base := base) (k := 1) x__law_signed B (c__law_taken := y__law_taken.mono (by decide))
  have y__law_line := ok__law_line (base := base) (k := 1) x__law_line B (c__law_value_word := y__law_value_word.mono (by decide))
  have y_value_in := ok_value_in (base := base) (k := 2) x_value_in B (c_text_in := y_text_in.mono (by decide)) (c_count_in := y_count_in.mono (by decide)) (c_is_in := y_is_in.mono (by decide))
  have y_world_in := ok_world_in (base := base) (k := 2) x_world_in B (c_count_in := y_count_in.mono (by decide)) (c_link_in := y_link_in.mono (by decide))
  have y_is_step := ok_is_step (base := base) (k := 2) x_is_step B (c_is_value := y_is_value.mono (by decide)) (c_is_in := y_is_in.mono (by decide)) (c_are_links := y_are_links.mono (by decide)) (c_is_key := y_is_key.mono (by decide))
  have y__law_some_key := ok__law_some_key (base := base) (k := 2) x__law_some_key B (c__law_pick := y__law_pick.mono (by decide))
  have y__law_some_text := ok__law_some_text (base := base) (k := 2) x__law_some_text B (c__law_pick := y__law_pick.mono (by decide)) (c__law_signs_row := y__law_signs_row.mono (by decide)) (c__law_taken := y__law_taken.mono (by decide))
  have y_step_in := ok_step_in (base := base) (k := 3) x_step_in B (c_words_of := y_words_of.mono (by decide)) (c_world_in := y_world_in.mono (by decide)) (c_text_in := y_text_in.mono (by decide)) (c_value_in := y_value_in.mono (by decide)) (c_count_in := y_count_in.mono (by decide))
  have y_need_steps := ok_need_steps (base := base) (k := 3) x_need_steps B (c_is_step := y_is_step.mono (by decide))
  have y__law_some_value := ok__law_some_value (base := base) (k := 3) x__law_some_value B (c__law_taken := y__law_taken.mono (by decide)) (c__law_some_text := y__law_some_text.mono (by decide)) (c__law_signed := y__law_signed.mono (by decide)) (c__law_pick := y__law_pick.mono (by decide))
  have y_write_script := ok_write_script (base := base) (k := 4) x_write_script B (c_need_steps := y_need_steps.mono (by decide)) (c_line_of := y_line_of.mono (by decide))
  have y_read_script := ok_read_script (base := base) (k := 4) x_read_script B (c_step_in := y_step_in.mono (by decide)) (c_is_step := y_is_step.mono (by decide))
  have y__law_step := ok__law_step (base := base) (k := 4) x__law_step B (c__law_pick := y__law_pick.mono (by decide)) (c__law_taken := y__law_taken.mono (by decide)) (c__law_some_key := y__law_some_key.mono (by decide)) (c__law_some_value := y__law_some_value.mono (by decide))
  have y__law_script := ok__law_script (base := base) (k := 5) x__law_script B (c__law_taken := y__law_taken.mono (by decide)) (c__law_links := y__law_links.mono (by decide)) (c__law_step := y__law_step.mono (by decide))
  have a0 := ok__law_alike (base := base) (n := 0) (k := 0) x__law_alike B (cl_none x__law_alike) (fun m h => by cases h)
  have a1 := ok__law_alike (n := 1) (k := 1) x__law_alike B a0 (fun m h => by cases h; rfl)
  have a2 := ok__law_alike (n := 2) (k := 2) x__law_alike B a1 (fun m h => by cases h; rfl)
  have a3 := ok__law_alike (n := 3) (k := 3) x__law_alike B a2 (fun m h => by cases h; rfl)
  have a4 := ok__law_alike (n := 4) (k := 4) x__law_alike B a3 (fun m h => by cases h; rfl)
  exact ok_law (k := 6) F0 B (c__law_script := y__law_script.mono (by decide)) (c__law_alike := a4.mono (by decide)) (c__law_line := y__law_line.mono (by decide)) (c__law_taken := y__law_taken.mono (by decide)) (c_write_script := y_write_script.mono (by decide)) (c_read_script := y_read_script.mono (by decide)) (c__law_pick := y__law_pick.mono (by decide))
theorem walk {l : PySem.W.OpenLaw} {q : Program} {loose : List Str} {XP : (Str → Option Value) → Heap → Prop} {YP : World → Heap → Prop} {d : DefRec} {K : Params → PySem.W.Frag} (hn : l.most = some 63) (hdf : d.params.defaults = [])
    (hY : ∀ (w : World) (h : Heap), YP w h → (K w.params).In h)
    (F : ∀ (w : World) (mg : Str → Option Value) (fa : Addr) (h : Heap), (K w.params).In h → h.Ns mainGlobals mg → mg d.name = some (.ref fa) →
      ∃ fd : FuncData, (∀ (s : Shared) (u : Value), BindsTo s fd ⟨[u], []⟩ [("_law_script_here", u)]) ∧ ∀ base : Heap, (K w.params).In base → base.Ns mainGlobals mg → FnOk l.prog w (K w.params) mg base CX0 7 fa fd ["_law_script_here"] (spLaw (K w.params))) :
    PySem.W.WalkO q loose XP YP l.row.toRowW d [] (fun f vs => PySem.call f vs) :=
  L2.walk_ofB (n := 63) (k := 7) (x := "_law_script_here") (CX := fun _ => CX0) (sp := fun w => spLaw (K w.params)) hn (by decide) hdf ⟨rfl, by decide, by decide⟩ hY F (fun _ _ a ns _ _ _ hS => ⟨a, ns, rfl, hS, fun _ => rfl⟩) fun _ _ _ _ _ z => z
end Ms

open PySem PySem.W PyProof.Rows
set_option maxRecDepth 100000 in
set_option maxHeartbeats 0 in
theorem PySem.Challenge.cw_meetstores_k19_whole_scripts_as_text_holds : PySem.Challenge.rw_meetstores_k19_whole_scripts_as_text.Holds := by
  refine hd ?_
  k_fill
  refine Ms.walk (l := PySem.Challenge.rw_meetstores_k19_whole_scripts_as_text) rfl rfl (fun w h Y => PySem.W.kIn_of Y) ?F
  case F =>
    intro w mg fa h KX G hmg
    refine' Ms.all_mk KX G hmg ?z_isinstance ?z_len ?z_min ?z_sorted ?z_int ?z_bool ?z_str ?z_list ?z_tuple ?z_set ?z_range ?z_enumerate ?z_super ?v_MOST_SIGNS ?v_MOST_NUMBER ?v_MOST_KEY ?v_MOST_FIGURES ?v_MOST_LINES ?v_MOST_ARGUMENT ?v_SIGNS ?v_QUOTE ?v_FIGURES ?aD ?lD ?lit ?low ?ent ?aE ?iE ?tE ?bE ?eL ?sL ?eS ?sS ?d_is_in ?d_is_text ?d_is_value ?d_is_key ?d_word_end ?d_words_of ?d_count_in ?d_text_in ?d_value_in ?d_word_of_value ?d_step_in ?d_link_in ?d_world_in ?d_is_step ?d_are_links ?d_line_of ?d_need_steps ?d_write_script ?d_read_script ?d__law_taken ?d__law_links ?d__law_pick ?d__law_some_key ?d__law_signs_row ?d__law_some_text ?d__law_signed ?d__law_some_value ?d__law_step ?d__law_script ?d__law_value_word ?d__law_line ?d__law_alike ?aLaw ?lLaw ?cLaw ?kLaw
    (case z_isinstance => k_is)
    (case z_len => k_is)
    (case z_min => k_is)
    (case z_sorted => k_is)
    (case z_int => k_is)
    (case z_bool => k_is)
    (case z_str => k_is)
    (case z_list => k_is)
    (case z_tuple => k_is)
    (case z_set => k_is)
    (case z_range => k_is)
    (case z_enumerate => k_is)
    (case z_super => k_is)
    (case v_MOST_SIGNS => exact ⟨_, by k_is⟩)
    (case v_MOST_NUMBER => exact ⟨_, by k_is⟩)
    (case v_MOST_KEY => exact ⟨_, by k_is⟩)
    (case v_MOST_FIGURES => exact ⟨_, by k_is⟩)
    (case v_MOST_LINES => exact ⟨_, by k_is⟩)
    (case v_MOST_ARGUMENT => exact ⟨_, by k_is⟩)
    (case v_SIGNS => exact ⟨_, by k_is⟩)
    (case v_QUOTE => exact ⟨_, by k_is⟩)
    (case v_FIGURES => exact ⟨_, by k_is⟩)
    (case aD => first | k_is | rfl)
    (case lD => first | k_is | rfl)
    (case lit => exact ⟨⟨_, _, rfl, rfl⟩, ⟨⟨_, _, rfl, rfl⟩, ⟨⟨_, _, rfl, rfl⟩, ⟨⟨_, _, rfl, rfl⟩, ⟨⟨_, _, rfl, rfl⟩, ⟨⟨_, _, rfl, rfl⟩, ⟨⟨_, _, rfl, rfl⟩, ⟨⟨_, _, rfl, rfl⟩, ⟨⟨_, _, rfl, rfl⟩, ⟨⟨_, _, rfl, rfl⟩, ⟨⟨_, _, rfl, rfl⟩, ⟨⟨_, _, rfl, rfl⟩, ⟨⟨_, _, rfl, rfl⟩, ⟨⟨_, _, rfl, rfl⟩, ⟨⟨_, _, rfl, rfl⟩, trivial⟩⟩⟩⟩⟩⟩⟩⟩⟩⟩⟩⟩⟩⟩⟩)
    (case low => first | rfl | decide)
    (case ent => exact ⟨⟨_, _, rfl, rfl, ⟨_, _, _, _, by k_is, ⟨_, _, rfl⟩⟩⟩, ⟨⟨_, _, rfl, rfl, ⟨_, _, _, _, by k_is, ⟨_, _, rfl⟩⟩⟩, ⟨⟨_, _, rfl, rfl, ⟨_, _, _, _, by k_is, ⟨_, _, rfl⟩⟩⟩, ⟨⟨_, _, rfl, rfl, ⟨_, _, _, _, by k_is, ⟨_, _, rfl⟩⟩⟩, ⟨⟨_, _, rfl, rfl, ⟨_, _, _, _, by k_is, ⟨_, _, rfl⟩⟩⟩, ⟨⟨_, _, rfl, rfl, ⟨_, _, _, _, by k_is, ⟨_, _, rfl⟩⟩⟩, ⟨⟨_, _, rfl, rfl, ⟨_, _, _, _, by k_is, ⟨_, _, rfl⟩⟩⟩, ⟨⟨_, _, rfl, rfl, ⟨_, _, _, _, by k_is, ⟨_, _, rfl⟩⟩⟩, ⟨⟨_, _, rfl, rfl, ⟨_, _, _, _, by k_is, ⟨_, _, rfl⟩⟩⟩, ⟨⟨_, _, rfl, rfl, ⟨_, _, _, _, by k_is, ⟨_, _, rfl⟩⟩⟩, ⟨⟨_, _, rfl, rfl, ⟨_, _, _, _, by k_is, ⟨_, _, rfl⟩⟩⟩, ⟨⟨_, _, rfl, rfl, ⟨_, _, _, _, by k_is, ⟨_, _, rfl⟩⟩⟩, ⟨⟨_, _, rfl, rfl, ⟨_, _, _, _, by k_is, ⟨_, _, rfl⟩⟩⟩, ⟨⟨_, _, rfl, rfl, ⟨_, _, _, _, by k_is, ⟨_, _, rfl⟩⟩⟩, ⟨⟨_, _, rfl, rfl, ⟨_, _, _, _, by k_is, ⟨_, _, rfl⟩⟩⟩, trivial⟩⟩⟩⟩⟩⟩⟩⟩⟩⟩⟩⟩⟩⟩⟩)
    (case aE => first | k_is | rfl)
    (case iE => first | k_is | rfl)
    (case tE => first | k_is | rfl)
    (case bE => first | k_is | rfl)
    (case eL => (refine' { aC := ?aC, cls := ?cls, sa := ?sa, ga := ?ga, gg := ?gg, noN := ?noN, iC := ?iC, tC := ?tC, kC := ?kC, exC := ?exC, vC := ?vC, tyC := ?tyC, hdC := ?hdC, su := ?su, slf := ?slf, op := ?op, top := ?top, fn := ?fn, ha := ?ha, hn := ?hn, ht := ?ht, hm := ?hm }; (case aC => k_is); (case cls => exact ⟨_, _, _, _, _, _, _, _, _, _, _, _, _, _, _, by k_is, by decide +kernel⟩); (case sa => first | k_is | rfl); (case ga => first | k_is | rfl); (case gg => first | k_is | rfl); (case noN => first | k_is | rfl); (case iC => first | k_is | rfl); (case tC => first | k_is | rfl); (case kC => first | k_is | rfl); (case exC => first | k_is | rfl); (case vC => first | k_is | rfl); (case tyC => first | k_is | rfl); (case hdC => first | k_is | rfl); (case su => ks_is); (case slf => first | k_is | rfl); (case op => first | k_is | rfl); (case ha => first | k_is | rfl); (case hn => first | k_is | rfl); (case ht => first | k_is | rfl); (case hm => first | k_is | rfl); (case top => rfl); (case fn => exact ⟨_, _, _, _, _, _, _, _, _, _, _, _, _, _, _, _, _, _, _, _, _, by k_is, by k_is, ⟨_, _, _, _, _, _, by k_is, by rfl, by rfl⟩, ⟨_, _, _, by k_is⟩, by rfl⟩)))
    (case sL => first | k_is | rfl)
    (case eS => (refine' { aC := ?aC, cls := ?cls, sa := ?sa, ga := ?ga, gg := ?gg, noN := ?noN, iC := ?iC, tC := ?tC, kC := ?kC, exC := ?exC, vC := ?vC, tyC := ?tyC, hdC := ?hdC, su := ?su, slf := ?slf, op := ?op, top := ?top, fn := ?fn, ha := ?ha, hn := ?hn, ht := ?ht, hm := ?hm }; (case aC => k_is); (case cls => exact ⟨_, _, _, _, _, _, _, _, _, _, _, _, _, _, _, by k_is, by decide +kernel⟩); (case sa => first | k_is | rfl); (case ga => first | k_is | rfl); (case gg => first | k_is | rfl); (case noN => first | k_is | rfl); (case iC => first | k_is | rfl); (case tC => first | k_is | rfl); (case kC => first | k_is | rfl); (case exC => first | k_is | rfl); (case vC => first | k_is | rfl); (case tyC => first | k_is | rfl); (case hdC => first | k_is | rfl); (case su => ks_is); (case slf => first | k_is | rfl); (case op => first | k_is | rfl); (case ha => first | k_is | rfl); (case hn => first | k_is | rfl); (case ht => first | k_is | rfl); (case hm => first | k_is | rfl); (case top => rfl); (case fn => exact ⟨_, _, _, _, _, _, _, _, _, _, _, _, _, _, _, _, _, _, _, _, _, by k_is, by k_is, ⟨_, _, _, _, _, _, by k_is, by rfl, by rfl⟩, ⟨_, _, _, by k_is⟩, by rfl⟩)))
    (case sS => first | k_is | rfl)
    (case d_is_in => exact ⟨_, _, _, _, _, _, _, _, _, _, by k_is, by k_is, by k_is, by k_is⟩)
    (case d_is_text => exact ⟨_, _, _, _, _, _, _, _, _, _, by k_is, by k_is, by k_is, by k_is⟩)
    (case d_is_value => exact ⟨_, _, _, _, _, _, _, _, _, _, by k_is, by k_is, by k_is, by k_is⟩)
    (case d_is_key => exact ⟨_, _, _, _, _, _, _, _, _, _, by k_is, by k_is, by k_is, by k_is⟩)
    (case d_word_end => exact ⟨_, _, _, _, _, _, _, _, _, _, by k_is, by k_is, by k_is, by k_is⟩)
    (case d_words_of => exact ⟨_, _, _, _, _, _, _, _, _, _, by k_is, by k_is, by k_is, by k_is⟩)
    (case d_count_in => exact ⟨_, _, _, _, _, _, _, _, _, _, by k_is, by k_is, by k_is, by k_is⟩)
    (case d_text_in => exact ⟨_, _, _, _, _, _, _, _, _, _, by k_is, by k_is, by k_is, by k_is⟩)
    (case d_value_in => exact ⟨_, _, _, _, _, _, _, _, _, _, by k_is, by k_is, by k_is, by k_is⟩)
    (case d_word_of_value => exact ⟨_, _, _, _, _, _, _, _, _, _, by k_is, by k_is, by k_is, by k_is⟩)
    (case d_step_in => exact ⟨_, _, _, _, _, _, _, _, _, _, by k_is, by k_is, by k_is, by k_is⟩)
    (case d_link_in => exact ⟨_, _, _, _, _, _, _, _, _, _, by k_is, by k_is, by k_is, by k_is⟩)
    (case d_world_in => exact ⟨_, _, _, _, _, _, _, _, _, _, by k_is, by k_is, by k_is, by k_is⟩)
    (case d_is_step => exact ⟨_, _, _, _, _, _, _, _, _, _, by k_is, by k_is, by k_is, by k_is⟩)
    (case d_are_links => exact ⟨_, _, _, _, _, _, _, _, _, _, by k_is, by k_is, by k_is, by k_is⟩)
    (case d_line_of => exact ⟨_, _, _, _, _, _, _, _, _, _, by k_is, by k_is, by k_is, by k_is⟩)
    (case d_need_steps => exact ⟨_, _, _, _, _, _, _, _, _, _, by k_is, by k_is, by k_is, by k_is⟩)
    (case d_write_script => exact ⟨_, _, _, _, _, _, _, _, _, _, by k_is, by k_is, by k_is, by k_is⟩)
    (case d_read_script => exact ⟨_, _, _, _, _, _, _, _, _, _, by k_is, by k_is, by k_is, by k_is⟩)
    (case d__law_taken => exact ⟨_, _, _, _, _, _, _, _, _, _, by k_is, by k_is, by k_is, by k_is⟩)
    (case d__law_links => exact ⟨_, _, _, _, _, _, _, _, _, _, by k_is, by k_is, by k_is, by k_is⟩)
    (case d__law_pick => exact ⟨_, _, _, _, _, _, _, _, _, _, by k_is, by k_is, by k_is, by k_is⟩)
    (case d__law_some_key => exact ⟨_, _, _, _, _, _, _, _, _, _, by k_is, by k_is, by k_is, by k_is⟩)
    (case d__law_signs_row => exact ⟨_, _, _, _, _, _, _, _, _, _, by k_is, by k_is, by k_is, by k_is⟩)
    (case d__law_some_text => exact ⟨_, _, _, _, _, _, _, _, _, _, by k_is, by k_is, by k_is, by k_is⟩)
    (case d__law_signed => exact ⟨_, _, _, _, _, _, _, _, _, _, by k_is, by k_is, by k_is, by k_is⟩)
    (case d__law_some_value => exact ⟨_, _, _, _, _, _, _, _, _, _, by k_is, by k_is, by k_is, by k_is⟩)
    (case d__law_step => exact ⟨_, _, _, _, _, _, _, _, _, _, by k_is, by k_is, by k_is, by k_is⟩)
    (case d__law_script => exact ⟨_, _, _, _, _, _, _, _, _, _, by k_is, by k_is, by k_is, by k_is⟩)
    (case d__law_value_word => exact ⟨_, _, _, _, _, _, _, _, _, _, by k_is, by k_is, by k_is, by k_is⟩)
    (case d__law_line => exact ⟨_, _, _, _, _, _, _, _, _, _, by k_is, by k_is, by k_is, by k_is⟩)
    (case d__law_alike => exact ⟨_, _, _, _, _, _, _, _, _, _, by k_is, by k_is, by k_is, by k_is⟩)
    (case aLaw => first | k_is | rfl)
    (case lLaw => first | k_is | rfl)
    (case cLaw => first | k_is | rfl)
    (case kLaw => first | k_is | rfl)
