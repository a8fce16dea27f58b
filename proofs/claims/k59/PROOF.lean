import PyProof.Rows.All
import Wide.All
import OpenK.AllK
import Wide.FinOn
import HandS.RevTup
import PyProof.ReprReads
import HandS.ForMost
import HandS.Exc
import HandS.TupAny
import HandS.Conv
import HandS.Deep
import HandS.IsInst
import HandS.Flow
import KE.SortData
import HandS.Style
import HandS.Strs
import HandS.TupMul
import KE.DataCmp
import HandS.SortInts
import KE.DataMinMax
import KE.DataAny
import HandS.SortKw
import PyProof.ReprRoads
import HandS.Zip
import KE.GoesMore
import HandS.More
import HandS.Rev
import HandS.SetFor
import HandS.TupSets
import HandS.HeadHook3
import PyProof.FitsInt
import PyProof.ReprLoop
import PyProof.Fits
import PySem.Challenge.RW_saidwish_k59_the_fewest_orders
set_option Elab.async false
set_option linter.all false
set_option maxRecDepth 100000
section
set_option Elab.async false
set_option linter.all false
set_option maxRecDepth 100000
set_option maxHeartbeats 1000000
/-! tuple(reversed(a tuple)) -/
namespace Mn
open PySem PySem.Spec PyProof.Rows RT
theorem nolen_rt : typeLookup (.type "reversed") "__len__" = pure none := by rw [typeLookup_type, builtinLookup_eq_fast]; kernel_rfl
theorem hint_rt : typeLookup (.type "reversed") "__length_hint__" = pure (some (.builtin "reversed.__length_hint__")) := by rw [typeLookup_type, builtinLookup_eq_fast]; kernel_rfl
/-- the walk of reversed(a tuple) -/
theorem walks_rt {prog : Program} {w : World} {A : Around} (calm : A.handled = none) (I t : Addr) (ne : t ≠ I) (its : Array Value) (sz : its.size ≤ sizeLine) :
    Walks prog w A I [I, t] [I] its.size (fun j v => its[its.size - 1 - j]? = some v) (fun j h => j ≤ its.size ∧ IsRt h I t ((its.size : Int) - 1 - (j : Int)) ∧ IsTup h t its) where
  sub := fun b q => by simp at q; simp [q]
  frame := fun _ _ _ z hk => by
    refine ⟨z.1, z.2.1.at fun o q => hk I (by simp) o q, ?_⟩
    obtain ⟨o, ho, rest⟩ := z.2.2
    exact ⟨o, hk t (by simp) o ho, rest⟩
  item := fun j s Q E lt z goal => by
    have at1 : (its.size : Int) - 1 - (j : Int) = ((its.size - 1 - j : Nat) : Int) := by omega
    have here := z.2.1
    rw [at1] at here
    have got : its[its.size - 1 - j]? = some (its[its.size - 1 - j]'(by omega)) := Array.getElem?_eq_getElem (by omega)
    refine next_rt_item here z.2.2 got sz fun h' here' same => ?_
    have at2 : ((its.size - 1 - j : Nat) : Int) - 1 = (its.size : Int) - 1 - ((j + 1 : Nat) : Int) := by omega
    rw [at2] at here'
    exact goal _ h' (s.toks + 1) got ⟨lt, here', z.2.2.extBut same.extBut ne⟩ fun b o nb q => same.extBut b o (fun h => nb (by simp [h])) q
  done := fun s Q E z goal => by
    have at1 : (its.size : Int) - 1 - (its.size : Int) = -1 := by omega
    have here := z.2.1
    rw [at1] at here
    exact next_rt_end calm here fun h' ext => goal h' s.toks fun b o nb q => ext b o (fun h => nb (by simp [h])) q
  self := fun _ _ _ _ z goal => iter_rt z.2.1 goal
section
variable {prog : Program} {w : World} {A : Around} {E : Value → Shared → Prop} {s : Shared}
theorem slot_rt_hint : Slot "reversed" "__length_hint__" "reversed.__length_hint__" :=
  .of (owner := "reversed") (n := "__length_hint__") hint_rt (by decide +kernel) (by decide +kernel) (by decide +kernel) (by first | exact .inl (by decide +kernel) | exact .inr (by decide +kernel)) (by rw [isSubtype_type]; kernel_rfl)
theorem entry_rt_hint : entryFor table "reversed.__length_hint__" = some Builtin.«reversed.__length_hint__» := entryFor_of_tree (by kernel_rfl)
theorem args_rt_hint (a : Value) : argsOk "reversed.__length_hint__" ⟨[a], []⟩ := by
  unfold argsOk; rw [signature?_of (id := "reversed.__length_hint__") (n := ['_', '_', 't', 'n', 'i', 'h', '_', 'h', 't', 'g', 'n', 'e', 'l', '_', '_']) (o := ['d', 'e', 's', 'r', 'e', 'v', 'e', 'r']) (by kernel_rfl) owner_rt]; kernel_rfl
theorem call_hint_rt {it t : Addr} {its : Array Value} {Q : Value → Shared → Prop} (here : IsRt s.heap it t ((its.size : Int) - 1)) (tu : IsTup s.heap t its) (sz : its.size ≤ sizeLine)
    (goal : ∀ a tk, Q (.int (its.size : Nat) a) { s with toks := tk }) : wpAny (model prog w) A (call (.builtin "reversed.__length_hint__") [.ref it]) Q E s := by
  obtain ⟨o, ho, hc, hd⟩ := id here
  rw [sizeLine_eq] at sz
  refine wpAny_call_entry slot_rt_hint here.typeIs entry_rt_hint ?_ (args_rt_hint _)
  unfold Builtin.«reversed.__length_hint__»
  refine wpAny_bind (wpAny_of_eq (a := Value.ref it) rfl ?_)
  try dsimp only
  refine wpAny_bind (wpAny_field ho hd (x := .ref t) rfl ?_)
  try dsimp only
  rw [if_neg (by simp)]
  try dsimp only
  refine wpAny_bind (len_tuple tu (by omega) ?_)
  refine wpAny_bind (wpAny_of_eq (a := some ((its.size : Nat) : Int)) rfl ?_)
  try dsimp only
  refine wpAny_bind (wpAny_field (s := { s with toks := s.toks + 1 + 1 }) ho hd (x := rawInt ((its.size : Int) - 1)) rfl ?_)
  show wpAny _ _ (if ((its.size : Nat) : Int) < (its.size : Int) - 1 + 1 then _ else _) _ _ _
  rw [if_neg (by omega)]
  rw [show (its.size : Int) - 1 + 1 = (its.size : Int) by omega]
  refine wpAny_bind (wpAny_mkInt ?_)
  exact wpAny_pure ⟨_, rfl, goal _ _⟩
abbrev nilL : Obj := { cls := .type "list", data := .seq ([] : List Value).toArray }
theorem collect_rt {it t : Addr} {its : Array Value} {Q : List Value → Shared → Prop} (calm : A.handled = none) (here : IsRt s.heap it t ((its.size : Int) - 1)) (tu : IsTup s.heap t its) (ne : t ≠ it) (sz : its.size ≤ sizeLine)
    (goal : ∀ (h' : Heap) (tk : Nat) (got : Array Value), (∀ b o, b ≠ it → s.heap.get? b = some o → h'.get? b = some o) → ItemsOf (fun j v => its[its.size - 1 - j]? = some v) got its.size → Q got.toList { s with heap := h', toks := tk }) :
    wpAny (model prog w) A (collect (.ref it)) Q E s := by
  have W := (walks_rt (prog := prog) (w := w) (A := A.in1) calm it t ne its sz).toS
  have n1 : s.heap.objs.size ≠ it := by obtain ⟨o, q, _⟩ := id here; exact Nat.ne_of_gt (Heap.lt_size q)
  have n2 : s.heap.objs.size ≠ t := Nat.ne_of_gt tu.lt
  have n3 : s.heap.objs.size ∉ [it, t] := by simp [n1, n2]
  unfold collect
  refine wpAny_bind (wpAny_runValue (codeAny_builtin F.entry_proto_collect ?_)); rw [Around.under_plainId F.plain_proto_collect _]
  show wpAny _ A.in1 (newList [] >>= fun made => again (.builtin "list.__iadd__" ⟨[made, .ref it], []⟩)) _ _ s
  refine wpAny_bind (wpAny_newObj_type ?_); refine wpAny_pure ⟨plainId_quiet F.plain_list_iadd _, codeAny_builtin F.entry_list_iadd ?_⟩; rw [Around.under_plainId F.plain_list_iadd _]
  have g1 : (s.heap.push nilL).get? s.heap.objs.size = some nilL := Heap.get?_push_size _ rfl
  have g2 : IsRt (s.heap.push nilL) it t ((its.size : Int) - 1) := here.at fun o e => Heap.get?_push_of_some _ e
  have g3 : IsTup (s.heap.push nilL) t its := tu.push _
  have ty : ({ s with heap := s.heap.push nilL } : Shared).TypeIs (.ref it) "reversed" := IsRt.typeIs (s := { s with heap := s.heap.push nilL }) g2
  have sm : Builtin.List.listSameRef (.ref s.heap.objs.size) (.ref it) = false := by simp [Builtin.List.listSameRef, n1]
  show wpAny _ A.in1 (Builtin.List.listExtendWith (.ref s.heap.objs.size) (.ref it) (.ref s.heap.objs.size)) _ _ _; unfold Builtin.List.listExtendWith
  refine wpAny_bind (wpAny_typeOf ty ?_); rw [if_neg (by rw [sm]; decide)]
  refine wpAny_bind (iter_rt (s := { s with heap := s.heap.push nilL }) g2 ?_); refine wpAny_bind (wpAny_holding ?_)
  unfold Builtin.List.listLengthHint
  refine wpAny_bind (wpAny_specialOf ty nolen_rt ?_)
  show wpAny _ A.in1 (specialOf (Value.ref it) (Str.ofString "__length_hint__") >>= _) _ _ _; refine wpAny_bind (wpAny_specialOf ty hint_rt ?_)
  generalize hid : ("reversed.__length_hint__" : String) = idn
  wp_delta
  rw [show splitId idn = some ("reversed", "__length_hint__") from by subst hid; decide +kernel]
  subst hid
  refine wpAny_bind (wpAny_isInstance (b := true) ty (by rw [isSubtype_type]; kernel_rfl) ?_)
  rw [if_neg (by decide)]
  try dsimp only
  rw [if_neg (by decide +kernel)]
  refine wpAny_bind (wpAny_rule ?_); refine wpAny_bind (wpAny_of_eq (slot_rt_hint.bind _) ?_)
  refine wpAny_bind (wpAny_attempt (call_hint_rt (s := { s with heap := s.heap.push nilL }) g2 g3 sz fun a tk => ?_))
  show wpAny _ A.in1 (asInt? (Value.int ((its.size : Nat) : Int) a) >>= _) _ _ _
  have ai : asInt? (Value.int ((its.size : Nat) : Int) a) = pure (some ((its.size : Nat) : Int)) := rfl
  rw [ai, pure_bind]
  have z0 : ((its.size : Nat) : Int) - 1 - ((0 : Nat) : Int) = (its.size : Int) - 1 := by omega
  have key : ∀ (h1 : Heap) (c : Nat) (R : Result → Shared → Prop), h1.get? s.heap.objs.size = some { cls := .type "list", dict := none, data := .seq #[] c, slots := #[] } → (∀ b o, b ≠ s.heap.objs.size → (s.heap.push nilL).get? b = some o → h1.get? b = some o) →
      (∀ s' got c', s'.heap.get? s.heap.objs.size = some { cls := .type "list", dict := none, data := .seq got c', slots := #[] } → Q got.toList s' → R (.ok (.ret (.ref s.heap.objs.size))) s') →
      codeAny (model prog w) A (.builtin "list.extend.loop" ⟨[.ref s.heap.objs.size, .ref it, .ref s.heap.objs.size], []⟩) R { s with heap := h1, toks := tk } := by
    intro h1 c R at1 oth fin
    refine codeAny_extend_loopS W sz _ n3 _ its.size 0 _ _ _ rfl (Nat.zero_le _) ⟨Nat.zero_le _, by rw [z0]; exact g2.at fun o q => oth it o (Ne.symm n1) q, ?_⟩ at1 (ItemsOf.nil _) fun s' got' c' mv ld all => ?_
    · obtain ⟨o, ho, rest⟩ := g3
      exact ⟨o, oth t o (Ne.symm n2) ho, rest⟩
    · refine fin s' got' c' ld ?_
      rw [Moved.eq_with mv]
      refine goal s'.heap s'.toks got' (fun b o nb q => mv.heap b o (fun mem => ?_) (oth b o (fun e1 => absurd (Heap.lt_size q) (by rw [e1]; exact Nat.lt_irrefl _)) (Heap.get?_push_of_some _ q))) all
      rcases List.mem_cons.mp mem with e1 | mem
      · exact absurd (Heap.lt_size q) (by rw [e1]; exact Nat.lt_irrefl _)
      · exact nb (List.mem_singleton.mp mem)
  have f1 : (!Builtin.List.listFitsIndex ((its.size : Nat) : Int)) = false := by
    rw [sizeLine_eq] at sz
    have : -(2 ^ 63 : Int) ≤ ((its.size : Nat) : Int) ∧ ((its.size : Nat) : Int) < 2 ^ 63 := by omega
    unfold Builtin.List.listFitsIndex
    rw [decide_eq_true this.1, decide_eq_true this.2]; rfl
  have f2 : ¬ ((its.size : Nat) : Int) < 0 := by omega
  have f3 : Builtin.List.listTooLong ((its.size : Nat) : Int).toNat = false := by
    have : ((its.size : Nat) : Int).toNat = its.size := Int.toNat_natCast _
    rw [this]; unfold Builtin.List.listTooLong; simp; exact sz
  dsimp only
  rw [if_neg (by rw [f1]; decide), if_neg f2, if_neg (by rw [f3]; decide)]
  refine wpAny_pure ?_
  by_cases em : its.size = 0
  · have e0 : (((its.size : Nat) : Int) != 0) = false := by rw [em]; rfl
    rw [e0]
    rw [if_neg (by decide)]
    refine wpAny_pure ⟨plainId_quiet F.plain_extend_loop _, key _ _ _ g1 (fun b o _ q => q) fun s' got c' ld q => ?_⟩
    show wpAny _ A (load s.heap.objs.size >>= _) _ _ s'; refine wpAny_bind (wpAny_load ld ?_); exact wpAny_pure q
  · have e0 : (((its.size : Nat) : Int) != 0) = true := by simp; exact fun q => em (by rw [q]; rfl)
    rw [e0]
    rw [if_pos (by decide)]
    refine wpAny_bind (wpAny_rule ?_); refine wpAny_bind ?_
    show wpAny _ A.in1 (updateSeq s.heap.objs.size (fun x => x.push .none) >>= fun _ => updateSeq s.heap.objs.size (fun x => x.pop)) _ _ _
    refine wpAny_bind (wpAny_updateSeq (xs := #[]) g1 rfl ?_ (Nat.zero_le _) (by rw [sizeLine_eq]; exact Nat.succ_le_succ (Nat.zero_le _)))
    have u2 := Heap.get?_update_self (Obj.mapSeq (fun x => x.push Value.none)) g1 rfl
    refine wpAny_updateSeq (xs := #[Value.none]) u2 rfl ?_ (by rw [sizeLine_eq]; exact Nat.succ_le_succ (Nat.zero_le _)) (Nat.zero_le _)
    have u3 := Heap.get?_update_self (Obj.mapSeq (fun x => x.pop)) u2 rfl
    refine wpAny_pure ⟨plainId_quiet F.plain_extend_loop _, key _ _ _ u3 (fun b o nb q => (Heap.get?_update_other _ _ (Ne.symm nb)).trans ((Heap.get?_update_other _ _ (Ne.symm nb)).trans q)) fun s' got c' ld q => ?_⟩
    show wpAny _ A (load s.heap.objs.size >>= _) _ _ s'; refine wpAny_bind (wpAny_load ld ?_); exact wpAny_pure q
theorem code_tuple_rt {it t : Addr} {its : Array Value} {R : Value → Shared → Prop} (calm : A.handled = none) (here : IsRt s.heap it t ((its.size : Int) - 1)) (tu : IsTup s.heap t its) (ne : t ≠ it) (sz : its.size ≤ sizeLine)
    (h : ∀ (h' : Heap) (tk : Nat) (got : Array Value), (∀ b o, b ≠ it → s.heap.get? b = some o → h'.get? b = some o) → ItemsOf (fun j v => its[its.size - 1 - j]? = some v) got its.size → R (.ref h'.objs.size) { s with heap := h'.push { cls := .type "tuple", data := .seq got }, toks := tk }) :
    codeAny (model prog w) A (.call (.builtin "tuple.__new__") ⟨[.type "tuple", .ref it], []⟩) (wants R E) s := by
  refine codeAny_of_tree ?_; show wpAny _ A.in1 (do checkBuiltinCall "tuple.__new__" ⟨[.type "tuple", .ref it], []⟩; again (.builtin "tuple.__new__" ⟨[.type "tuple", .ref it], []⟩)) _ _ s
  refine wpAny_bind (wpAny_of_eq (F.newCall_tuple_1 _) (wpAny_pure ⟨plainId_quiet F.plain_tuple_new _, codeAny_builtin F.entry_tuple_new ?_⟩)); rw [Around.under_plainId F.plain_tuple_new _]
  have hsub := sub_tuple_self
  have hinit := init_tuple_lookup
  have hmh := madeHere_tuple
  have ty : s.TypeIs (.ref it) "reversed" := here.typeIs
  have calm1 : A.in1.handled = none := calm
  wp_walk using wpAny_typeOf ty, collect_rt (A := A.in1) calm1 here tu ne sz
  intro h' tk got keep all
  show wpAny _ _ (Builtin.Tuple.tupleExact got.toList.toArray >>= fun v => ret v) _ _ _; unfold Builtin.Tuple.tupleExact
  refine wpAny_bind (wpAny_newObj_type ?_ (by show got.toList.toArray.size ≤ sizeLine; simp only [Array.toArray_toList]; rw [all.1]; exact sz)); refine wpAny_pure ?_
  have e : got.toList.toArray = got := by simp
  rw [e]; exact h h' tk got keep all
theorem call_tuple_rt {it t : Addr} {its : Array Value} {Q : Value → Shared → Prop} (calm : A.handled = none) (here : IsRt s.heap it t ((its.size : Int) - 1)) (tu : IsTup s.heap t its) (ne : t ≠ it) (sz : its.size ≤ sizeLine)
    (goal : ∀ (h' : Heap) (tk : Nat) (got : Array Value), (∀ b o, b ≠ it → s.heap.get? b = some o → h'.get? b = some o) → ItemsOf (fun j v => its[its.size - 1 - j]? = some v) got its.size → Q (.ref h'.objs.size) { s with heap := h'.push { cls := .type "tuple", data := .seq got }, toks := tk }) :
    wpAny (model prog w) A (call (.type "tuple") [.ref it]) Q E s := by
  refine callType_codes (Q₁ := fun made s₁ => s₁.TypeIs made "tuple" ∧ Q made s₁) F.called_tuple (F.typeCall_tuple_1 _) F.entry_object_init (code_tuple_rt (A := A.in1) calm here tu ne sz fun h' tk got keep all => ⟨⟨_, Heap.get?_push_size _ rfl, rfl⟩, goal h' tk got keep all⟩) fun made s₁ h₁ => ?_
  exact ⟨h₁.1, F.args_object_init_2 made _, object_init_meets F.called_tuple.init.lookup F.called_tuple.made (by decide) prog w A.in1 _ s₁ ⟨h₁.1, rfl, h₁.2⟩⟩
end
end Mn
end
section
set_option Elab.async false
set_option linter.all false
set_option maxRecDepth 100000
namespace Mn
open PySem

/-- values: tuples by value, changing things by their place in the mini memory -/
inductive PV where
  | non | bl (b : Bool) | int (i : Int) | str (x : Str) | tup (xs : List PV) | ref (n : Nat)
  deriving Inhabited

/-- all places in it are below b -/
def PV.bnd (b : Nat) : PV → Bool
  | .tup xs => bnds xs
  | .ref n => decide (n < b)
  | _ => true
where bnds : List PV → Bool
  | [] => true
  | x :: xs => x.bnd b && bnds xs

theorem bnds_eq (b : Nat) : ∀ xs : List PV, PV.bnd.bnds b xs = xs.all (PV.bnd b)
  | [] => by unfold PV.bnd.bnds; rfl
  | x :: xs => by unfold PV.bnd.bnds; rw [List.all_cons, bnds_eq b xs]
theorem bnd_tup (b : Nat) (xs : List PV) : (PV.tup xs).bnd b = xs.all (PV.bnd b) := by
  rw [PV.bnd]; exact bnds_eq b xs

/-- without places -/
abbrev PV.pure (v : PV) : Bool := v.bnd 0

inductive MObj where
  | lst (xs : List PV)
  /-- a list that is read alone -/
  | rol (xs : List PV)
  deriving Inhabited

def MObj.bnd (b : Nat) : MObj → Bool
  | .lst xs => xs.all (PV.bnd b)
  | .rol xs => xs.all (PV.bnd b)

/-- the newest object first -/
structure Mem where
  sz : Nat
  objs : List MObj
  esc : Nat

def Mem.emp : Mem := ⟨0, [], 0⟩
def Mem.get (M : Mem) (n : Nat) : Option MObj := if n < M.sz then M.objs[M.sz - 1 - n]? else none
def Mem.push (M : Mem) (o : MObj) : Mem := ⟨M.sz + 1, o :: M.objs, M.esc⟩
def Mem.put (M : Mem) (n : Nat) (o : MObj) (e : Nat) : Mem := ⟨M.sz, M.objs.set (M.sz - 1 - n) o, M.esc + e⟩
def Mem.cut (M : Mem) (b : Nat) : Mem := ⟨b, M.objs.drop (M.sz - b), M.esc⟩

inductive Res (α : Type) where
  | ok (a : α) (M : Mem)
  | exc (v : PV) (M : Mem)
  | stuck

@[inline] def Res.bind {α β : Type} (r : Res α) (f : α → Mem → Res β) : Res β :=
  match r with
  | .ok a M => f a M
  | .exc v M => .exc v M
  | .stuck => .stuck

/-- what a form leaves (nothing is let go) -/
def trimV (M0 : Mem) (v : PV) (M : Mem) : Res PV := .ok v M
def trim (M0 : Mem) (r : Res PV) : Res PV :=
  match r with
  | .ok v M => trimV M0 v M
  | .exc v M => .exc v M
  | .stuck => .stuck

/-! ### the small syntax -/
inductive BF where
  | len | all | any | int | list | tuple | sum | max1 | min1 | max2 | min2 | str | sorted | listR1 | listR2 | tupR1 | repr | tupRev | maxD | srtSet
  deriving DecidableEq
inductive MF where
  | append | extend | index | pop | reverse | insert | clear | count | join
  deriving DecidableEq
inductive TyK where
  | list | tuple | bool | int | str
  deriving DecidableEq

mutual
inductive MG where
  | name (i : Nat)
  | tup (gs : MGs)
inductive MGs where
  | nil
  | cons (g : MG) (gs : MGs)
end

mutual
inductive ME where
  | var (i : Nat) | int (i : Int) | bl (b : Bool) | non | str (x : Str)
  | tup (es : MEs) | lst (es : MEs)
  | bin (op : Operator) (a b : ME) | neg (a : ME) | not (a : ME)
  | cmp (op : CmpOp) (a b : ME) | chain (op op' : CmpOp) (a b c : ME)
  | and (es : MEs) | or (es : MEs) | ife (c a b : ME)
  | ix (a i : ME) | sl (a : ME) (lo hi : MEo) | stp (a st : ME)
  | call (f : Nat) (args : MEs)
  | bcall (f : BF) (args : MEs)
  | meth (m : MF) (o : ME) (args : MEs)
  | isi (e : ME) (ts : List TyK) (tup : Bool)
  | lc (own : List Nat) (g : MG) (it : MI) (cnd : MEo) (elt : ME)
  | cix (i : Nat) (e : ME)
  | callL (fs : List Nat) (i : ME) (args : MEs)
inductive MEs where
  | nil
  | cons (e : ME) (es : MEs)
inductive MEo where
  | none
  | some (e : ME)
inductive MI where
  | seq (e : ME)
  | range1 (e : ME)
  | range2 (a b : ME)
  | enum (e : ME)
  | zip (a b : ME)
end

mutual
inductive MS where
  | asg (i : Nat) (e : ME)
  | asgT (g : MG) (e : ME)
  | par (i j : Nat) (es : MEs)
  | par3 (i j l : Nat) (es : MEs)
  | setix (o i e : ME)
  | swp (o i o2 i2 e : ME)
  | expr (e : ME)
  | ret (e : ME)
  | ife (c : ME) (a b : MSs)
  | for_ (g : MG) (it : MI) (b : MSs)
  | while_ (c : ME) (b : MSs)
  | pass | brk | cont | raise_
inductive MSs where
  | nil
  | cons (s : MS) (ss : MSs)
end

abbrev St := List (Option PV)

inductive Flow where
  | next (σ : St) | ret (v : PV) | brk (σ : St) | cont (σ : St)

/-! ### operations on values -/
def LIM : Nat := 16777216

/-- Python's == -/
def PV.eqv : PV → PV → Bool
  | .non, .non => true
  | .bl a, .bl b => a == b
  | .bl a, .int j => (if a then 1 else 0) == j
  | .int i, .bl b => i == (if b then 1 else 0)
  | .int i, .int j => i == j
  | .str x, .str y => x == y
  | .tup xs, .tup ys => eqvs xs ys
  | _, _ => false
where eqvs : List PV → List PV → Bool
  | [], [] => true
  | x :: xs, y :: ys => x.eqv y && eqvs xs ys
  | _, _ => false

/-- as the kit's data -/
def PV.toD : PV → PyData
  | .non => .none
  | .bl b => .bool b
  | .int i => .int i
  | .str x => .str x
  | .tup xs => .tuple (toDs xs)
  | .ref _ => .none
where toDs : List PV → List PyData
  | [] => []
  | x :: xs => x.toD :: toDs xs
/-- can be put in order -/
def PV.alk : PV → PV → Bool
  | .int _, .int _ => true
  | .str _, .str _ => true
  | .tup xs, .tup ys => alks xs ys
  | _, _ => false
where alks : List PV → List PV → Bool
  | [], _ => true
  | x :: xs, ys => (match ys with | y :: ys => x.alk y && alks xs ys | [] => true)
/-- Python's < -/
def PV.lt : PV → PV → Bool
  | .int i, .int j => decide (i < j)
  | .str x, .str y => decide (x.cps.toList < y.cps.toList)
  | .tup xs, .tup ys => lts xs ys
  | _, _ => false
where lts : List PV → List PV → Bool
  | [], ys => !ys.isEmpty
  | x :: xs, ys => (match ys with | y :: ys => if x.eqv y then lts xs ys else x.lt y | [] => false)
/-- plain data, at most so deep -/
def PV.dat : PV → Nat → Bool
  | .tup xs, d => decide (0 < d) && dats xs (d - 1)
  | .ref _, _ => false
  | .str x, _ => x.cps.toList.all fun c => decide (c < 1114112)
  | _, _ => true
where dats : List PV → Nat → Bool
  | [], _ => true
  | x :: xs, d => x.dat d && dats xs d

/-- the items of a list -/
def Mem.lst? (M : Mem) (n : Nat) : Option (List PV) :=
  match M.get n with
  | some (.lst xs) => some xs
  | some (.rol xs) => some xs
  | none => none

def shallow (v : PV) : Bool := v.dat 60

def eqM (v w : PV) (M : Mem) : Option Bool :=
  match v, w with
  | .ref n, .ref m => (match M.lst? n, M.lst? m with
    | some xs, some ys => if xs.all shallow && ys.all shallow then some (PV.eqv.eqvs xs ys) else none
    | _, _ => none)
  | .ref n, w => (match M.lst? n with
    | some xs => if xs.all shallow && shallow w then some false else none
    | none => none)
  | v, .ref m => (match M.lst? m with
    | some ys => if ys.all shallow && shallow v then some false else none
    | none => none)
  | v, w => if shallow v && shallow w then some (v.eqv w) else none

def truth (v : PV) (M : Mem) : Res Bool :=
  match v with
  | .non => .ok false M
  | .bl b => .ok b M
  | .int i => .ok (i != 0) M
  | .str x => if x.length ≤ LIM then .ok ((x.length : Int) != 0) M else .stuck
  | .tup xs => .ok (!xs.isEmpty) M
  | .ref n => (match M.lst? n with
    | some xs => .ok (!xs.isEmpty) M
    | none => .stuck)

/-- places, from the end too -/
def ixOf (n : Nat) (i : Int) : Option Nat :=
  if 0 ≤ i then (if i < n then some i.toNat else none)
  else if 0 ≤ i + n then some (i + n).toNat else none

def isMul (i j : Int) : Bool := (decide (-(2 ^ 64) < i) && decide (i < 2 ^ 64)) || (decide (-(2 ^ 64) < j) && decide (j < 2 ^ 64))

def binM (op : Operator) (v w : PV) (M : Mem) : Res PV :=
  match op, v, w with
  | .Add, .int i, .int j => .ok (.int (i + j)) M
  | .Add, .str x, .str y => if x.length + y.length ≤ LIM then .ok (.str (x ++ y)) M else .stuck
  | .Add, .tup xs, .tup ys => if xs.length + ys.length ≤ LIM then .ok (.tup (xs ++ ys)) M else .stuck
  | .Add, .ref n, .ref m => (match M.get n, M.get m with
    | some (.lst xs), some (.lst ys) => if xs.length + ys.length ≤ LIM then .ok (.ref M.sz) (M.push (.lst (xs ++ ys))) else .stuck
    | _, _ => .stuck)
  | .Sub, .int i, .int j => .ok (.int (i - j)) M
  | .Mult, .int i, .int j => if isMul i j then .ok (.int (i * j)) M else .stuck
  | .Mult, .ref n, .int k => (match M.get n with
    | some (.lst xs) => if -1000 ≤ k ∧ k ≤ 1000 ∧ xs.length * k.toNat ≤ LIM then .ok (.ref M.sz) (M.push (.lst (List.replicate k.toNat xs).flatten)) else .stuck
    | _ => .stuck)
  | .Mult, .tup xs, .int k => if 2 ≤ k ∧ k ≤ 1000 ∧ xs.isEmpty = false ∧ xs.length ≤ 1000 then .ok (.tup (List.replicate k.toNat xs).flatten) M else .stuck
  | .FloorDiv, .int i, .int j => if 0 < j ∧ j < 1073741824 then .ok (.int (i / j)) M else .stuck
  | .Mod, .int i, .int j => if 0 < j then .ok (.int (i % j)) M else .stuck
  | .Pow, .int i, .int j => if 0 ≤ j ∧ j ≤ 1000000 ∧ i.natAbs < 2 ^ 64 then .ok (.int (i ^ j.toNat)) M else .stuck
  | .LShift, .int i, .int j => if 0 ≤ j ∧ j ≤ 1000000 ∧ i.natAbs < 2 ^ 64 then .ok (.int (i * 2 ^ j.toNat)) M else .stuck
  | .RShift, .int i, .int j => if 0 ≤ j then .ok (.int (i / 2 ^ j.toNat)) M else .stuck
  | .BitAnd, .int i, .int j => .ok (.int (Builtin.bitAnd i j)) M
  | .BitOr, .int i, .int j => .ok (.int (Builtin.bitOr i j)) M
  | _, _, _ => .stuck

def inM (v w : PV) (M : Mem) : Option Bool :=
  match w with
  | .tup ys => if shallow v && ys.all shallow then some (ys.any fun y => y.eqv v) else none
  | .ref n => (match M.lst? n with
    | some ys => if shallow v && ys.all shallow then some (ys.any fun y => y.eqv v) else none
    | none => none)
  | _ => none

def ltOk (v w : PV) : Bool := v.alk w && shallow v && shallow w

def isNon : PV → Bool
  | .non => true
  | _ => false

/-- a number and a list -/
def prL (v : PV) (M : Mem) : Option (Int × List PV) :=
  match v with
  | .tup [.int i, .ref n] => (M.lst? n).map fun xs => (i, xs)
  | _ => none
def unp (p : Int × List PV) : PV := .tup [.int p.1, .tup p.2]
def ltPr (v w : PV) (M : Mem) : Res PV :=
  match prL v M, prL w M with
  | some p, some q => if ltOk (unp p) (unp q) then .ok (.bl ((unp p).lt (unp q))) M else .stuck
  | _, _ => .stuck
def cmpM (op : CmpOp) (v w : PV) (M : Mem) : Res PV :=
  match op with
  | .Eq => (match eqM v w M with | some b => .ok (.bl b) M | none => .stuck)
  | .NotEq => (match eqM v w M with | some b => .ok (.bl (!b)) M | none => .stuck)
  | .In => (match inM v w M with | some b => .ok (.bl b) M | none => .stuck)
  | .NotIn => (match inM v w M with | some b => .ok (.bl (!b)) M | none => .stuck)
  | .Is => (match w with | .non => .ok (.bl (isNon v)) M | .bl b => (match v with | .bl a => .ok (.bl (decide (a = b))) M | _ => .stuck) | _ => .stuck)
  | .IsNot => (match w with | .non => .ok (.bl (!isNon v)) M | .bl b => (match v with | .bl a => .ok (.bl (!decide (a = b))) M | _ => .stuck) | _ => .stuck)
  | .Lt => (match v, w with | .int i, .int j => .ok (.bl (decide (i < j))) M | v, w => if ltOk v w then .ok (.bl (v.lt w)) M else ltPr v w M)
  | .LtE => (match v, w with | .int i, .int j => .ok (.bl (decide (i ≤ j))) M | v, w => if ltOk v w then .ok (.bl (!w.lt v)) M else .stuck)
  | .Gt => (match v, w with | .int i, .int j => .ok (.bl (decide (j < i))) M | v, w => if ltOk v w then .ok (.bl (w.lt v)) M else .stuck)
  | .GtE => (match v, w with | .int i, .int j => .ok (.bl (decide (j ≤ i))) M | v, w => if ltOk v w then .ok (.bl (!v.lt w)) M else .stuck)

def ixM (v i : PV) (M : Mem) : Res PV :=
  match v, i with
  | .tup xs, .int i => (match (ixOf xs.length i).bind (fun j => xs[j]?) with | some x => .ok x M | none => .stuck)
  | .ref n, .int i => (match M.lst? n with
    | some xs => (match (ixOf xs.length i).bind (fun j => xs[j]?) with | some x => .ok x M | none => .stuck)
    | none => .stuck)
  | _, _ => .stuck

/-- a slice's end -/
def sIx (n d : Nat) (i : Option Int) : Nat :=
  match i with
  | none => d
  | some i => if 0 ≤ i then Nat.min i.toNat n else (i + n).toNat

def cut (xs : List PV) (lo hi : Option Int) : List PV :=
  (xs.drop (sIx xs.length 0 lo)).take (sIx xs.length xs.length hi - sIx xs.length 0 lo)

def slM (v : PV) (lo hi : Option Int) (M : Mem) : Res PV :=
  match v with
  | .tup xs => .ok (.tup (cut xs lo hi)) M
  | .ref n => (match M.lst? n with
    | some xs => .ok (.ref M.sz) (M.push (.lst (cut xs lo hi)))
    | none => .stuck)
  | _ => .stuck

/-- t[::1], t[::-1] -/
def stpM (v w : PV) (M : Mem) : Res PV :=
  match v, w with
  | .tup xs, .int i => if i = 1 then .ok (.tup xs) M else if i = -1 then .ok (.tup xs.reverse) M else .stuck
  | _, _ => .stuck

def ints? : List PV → Option (List Int)
  | [] => some []
  | .int i :: xs => (ints? xs).map (i :: ·)
  | _ => none
def bls? : List PV → Option (List Bool)
  | [] => some []
  | .bl i :: xs => (bls? xs).map (i :: ·)
  | _ => none

def rangeL (lo hi : Int) : List PV := (List.range (hi - lo).toNat).map fun k => .int (lo + (k : Nat))

/-- the items of a tuple or a list -/
def seq? (v : PV) (M : Mem) : Option (List PV) :=
  match v with
  | .tup xs => some xs
  | .ref n => M.lst? n
  | _ => none

def inRange (i : Int) : Bool := decide (-(2 ^ 62) ≤ i) && decide (i < 2 ^ 62)

/-- sorted -/
def insI (i : Int) : List Int → List Int
  | [] => [i]
  | j :: js => if i ≤ j then i :: j :: js else j :: insI i js
def isort : List Int → List Int
  | [] => []
  | i :: is => insI i (isort is)
def maxL (i : Int) : List Int → Int
  | [] => i
  | j :: js => maxL (if j > i then j else i) js
def minL (i : Int) : List Int → Int
  | [] => i
  | j :: js => minL (if j < i then j else i) js

/-- tuples that can be sorted -/
def isTup1 : PV → Bool
  | .tup (_ :: _) => true
  | _ => false
def srtOk (xs : List PV) : Bool := xs.all isTup1 && xs.all shallow && xs.all (fun x => xs.all fun y => x.alk y) && decide (xs.length ≤ LIM)
def repOk (d : PyData) : Bool := d.showable && decide (d.shown.length ≤ LIM)

/-- each once -/
def dd {α : Type} [DecidableEq α] : List α → List α
  | [] => []
  | x :: l => if x ∈ l then dd l else x :: dd l
/-- order of rows of numbers -/
def leZ : List Int → List Int → Bool
  | [], _ => true
  | x :: xs, ys => (match ys with | y :: ys => decide (x < y) || (decide (x = y) && leZ xs ys) | [] => false)
def tupZ? : PV → Option (List Int)
  | .tup xs => ints? xs
  | _ => none
def tupZs? : List PV → Option (List (List Int))
  | [] => some []
  | x :: xs => (tupZ? x).bind fun k => (tupZs? xs).map (k :: ·)
def tupP (k : List Int) : PV := .tup (k.map PV.int)

def bcallM (f : BF) (vs : List PV) (M : Mem) : Res PV :=
  match f, vs with
  | .len, [v] => (match v with
    | .str x => if x.length ≤ LIM then .ok (.int x.length) M else .stuck
    | _ => (match seq? v M with | some xs => .ok (.int xs.length) M | none => .stuck))
  | .all, [.ref n] => (match (M.lst? n).bind bls? with | some bs => .ok (.bl (bs.all id)) M | none => .stuck)
  | .any, [.ref n] => (match (M.lst? n).bind bls? with | some bs => .ok (.bl (bs.any id)) M | none => .stuck)
  | .all, [.tup xs] => (match bls? xs with | some bs => .ok (.bl (bs.all id)) M | none => .stuck)
  | .any, [.tup xs] => (match bls? xs with | some bs => .ok (.bl (bs.any id)) M | none => .stuck)
  | .sum, [.ref n] => (match (M.lst? n).bind ints? with | some ns => .ok (.int ns.sum) M | none => .stuck)
  | .int, [.int i] => .ok (.int i) M
  | .int, [.bl b] => .ok (.int (if b then 1 else 0)) M
  | .list, [v] => (match seq? v M with | some xs => .ok (.ref M.sz) (M.push (.lst xs)) | none => .stuck)
  | .tuple, [v] => (match seq? v M with | some xs => .ok (.tup xs) M | none => .stuck)
  | .max2, [.int i, .int j] => .ok (.int (if j > i then j else i)) M
  | .min2, [.int i, .int j] => .ok (.int (if j < i then j else i)) M
  | .max1, [.ref n] => (match (M.lst? n).bind ints? with | some (i :: is) => .ok (.int (maxL i is)) M | _ => .stuck)
  | .min1, [.ref n] => (match (M.lst? n).bind ints? with | some (i :: is) => .ok (.int (minL i is)) M | _ => .stuck)
  | .max1, [.tup xs] => (match ints? xs with | some (i :: is) => .ok (.int (maxL i is)) M | _ => .stuck)
  | .min1, [.tup xs] => (match ints? xs with | some (i :: is) => .ok (.int (minL i is)) M | _ => .stuck)
  | .maxD, [.ref n, .int d] => (match (M.lst? n).bind ints? with | some (i :: is) => .ok (.int (maxL i is)) M | some [] => .ok (.int d) M | none => .stuck)
  | .sorted, [.ref n] => (match (M.lst? n).bind ints? with
    | some is => .ok (.ref M.sz) (M.push (.lst ((isort is).map PV.int)))
    | none => (match M.lst? n with | some xs => if srtOk xs then .ok (.ref M.sz) (M.push (.lst (xs.mergeSort fun a b => !b.lt a))) else .stuck | none => .stuck))
  | .repr, [v] => (match v with
    | .ref n => (match M.lst? n with | some xs => if xs.all shallow && repOk (.list (PV.toD.toDs xs)) then .ok (.str (PyData.list (PV.toD.toDs xs)).shown) M else .stuck | none => .stuck)
    | v => if shallow v && repOk v.toD then .ok (.str v.toD.shown) M else .stuck)
  | .srtSet, [v] => (match v with
    | .tup xs => (match ints? xs with
      | some is => if is.length ≤ 1000 ∧ (dd is).length < 64 then .ok (.ref M.sz) (M.push (.lst ((isort (dd is)).map PV.int))) else .stuck
      | none => (match tupZs? xs with
        | some ks => if ks.length < 64 ∧ (ks.all fun k => !k.isEmpty) = true then .ok (.ref M.sz) (M.push (.lst (((dd ks).mergeSort leZ).map tupP))) else .stuck
        | none => .stuck))
    | .ref n => (match (M.lst? n).bind tupZs? with
      | some ks => if ks.length < 64 ∧ (ks.all fun k => !k.isEmpty) = true then .ok (.ref M.sz) (M.push (.lst (((dd ks).mergeSort leZ).map tupP))) else .stuck
      | none => (match (M.lst? n).bind ints? with
        | some is => if is.length ≤ 1000 ∧ (dd is).length < 64 then .ok (.ref M.sz) (M.push (.lst ((isort (dd is)).map PV.int))) else .stuck
        | none => .stuck))
    | _ => .stuck)
  | .tupRev, [v] => (match v with
    | .ref n => (match M.lst? n with | some xs => .ok (.tup xs.reverse) M | none => .stuck)
    | .tup xs => .ok (.tup xs.reverse) M
    | _ => .stuck)
  | .listR1, [.int j] => if inRange j && decide (j ≤ 100000) then .ok (.ref M.sz) (M.push (.lst (rangeL 0 j))) else .stuck
  | .listR2, [.int i, .int j] => if inRange i && inRange j && decide (j - i ≤ 100000) then .ok (.ref M.sz) (M.push (.lst (rangeL i j))) else .stuck
  | .tupR1, [.int j] => if inRange j && decide (j ≤ 100000) then .ok (.tup (rangeL 0 j)) M else .stuck
  | _, _ => .stuck

/-- what the method is asked of -/
def recvOk (m : MF) (o : PV) (M : Mem) : Bool :=
  match m, o with
  | .index, .tup _ => true
  | .join, .str _ => true
  | .join, _ => false
  | _, .ref n => (M.get n).isSome
  | _, _ => false

def methM (m : MF) (o : PV) (vs : List PV) (M : Mem) : Res PV :=
  match m, o, vs with
  | .append, .ref n, [v] => (match M.get n with
    | some (.lst xs) => if xs.length < LIM then .ok .non (M.put n (.lst (xs ++ [v])) (if v.pure then 0 else 1)) else .stuck
    | _ => .stuck)
  | .extend, .ref n, [.ref m] => (match M.get n, M.get m with
    | some (.lst xs), some (.lst ys) => if xs.length + ys.length ≤ LIM then .ok .non (M.put n (.lst (xs ++ ys)) (if ys.all PV.pure then 0 else 1)) else .stuck
    | _, _ => .stuck)
  | .index, v, [w] => (match seq? v M with
    | some xs => if xs.all shallow && shallow w then (match xs.findIdx? (fun x => x.eqv w) with | some j => .ok (.int j) M | none => .stuck) else .stuck
    | none => .stuck)
  | .pop, .ref n, [.int i] => (match M.get n with
    | some (.lst xs) => (match ixOf xs.length i with
      | some j => (match xs[j]? with | some x => .ok x (M.put n (.lst (xs.eraseIdx j)) 0) | none => .stuck)
      | none => .stuck)
    | _ => .stuck)
  | .reverse, .ref n, [] => (match M.get n with
    | some (.lst xs) => .ok .non (M.put n (.lst xs.reverse) 0)
    | _ => .stuck)
  | .clear, .ref n, [] => (match M.get n with
    | some (.lst xs) => .ok .non (M.put n (.lst []) 0)
    | _ => .stuck)
  | _, _, _ => .stuck

def setM (o i v : PV) (M : Mem) : Res Unit :=
  match o, i with
  | .ref n, .int i => (match M.get n with
    | some (.lst xs) => (match ixOf xs.length i with
      | some j => .ok () (M.put n (.lst (xs.set j v)) (if v.pure then 0 else 1))
      | none => .stuck)
    | _ => .stuck)
  | _, _ => .stuck

def tyOf (v : PV) (M : Mem) : Option (List TyK) :=
  match v with
  | .non => some []
  | .bl _ => some [.bool, .int]
  | .int _ => some [.int]
  | .str _ => some [.str]
  | .tup _ => some [.tuple]
  | .ref n => (match M.get n with
    | some _ => some [.list]
    | none => none)

def isiM (v : PV) (ts : List TyK) (M : Mem) : Res PV :=
  match tyOf v M with
  | some ks => .ok (.bl (ks.any fun k => ts.contains k)) M
  | none => .stuck

/-! ### the evaluator: syntax to functions -/
abbrev CF := Nat → List PV → Mem → Res PV
abbrev Ev := St → Mem → Res PV

mutual
def assignG : MG → PV → St → Option St
  | .name i, v, σ => some (σ.set i (some v))
  | .tup gs, v, σ => (match v with | .tup vs => assignGs gs vs σ | _ => none)
def assignGs : MGs → List PV → St → Option St
  | .nil, vs, σ => if vs.isEmpty then some σ else none
  | .cons g gs, vs, σ => (match vs with | v :: vs => (assignG g v σ).bind (assignGs gs vs) | [] => none)
end

def wipe (σ : St) : List Nat → St
  | [] => σ
  | v :: vs => (wipe σ vs).set v none

/-- what a walk gives: items that are there, or those of a list as it is at each turn -/
inductive Src where
  | items (xs : List PV)
  | at1 (n : Nat) (enum : Bool)
  | at2 (n m : Nat)
  | atT (n : Nat) (ys : List PV)

/-- one turn of a comprehension -/
def lcTurn (own : List Nat) (g : MG) (cnd : Option Ev) (elt : Ev) (σ : St) (x : PV) (acc : List PV) (M : Mem) : Res (List PV) :=
  match assignG g x (wipe σ own) with
  | none => .stuck
  | some σ' =>
    (match cnd with
      | none => Res.ok true M
      | some c => (c σ' M).bind truth).bind fun b M1 =>
    if b then (trim M1 (elt σ' M1)).bind fun v M2 => if acc.length < LIM then .ok (acc ++ [v]) M2 else .stuck
    else .ok acc M1

def lcItems (own : List Nat) (g : MG) (cnd : Option Ev) (elt : Ev) (σ : St) : List PV → List PV → Mem → Res (List PV)
  | [], acc, M => .ok acc M
  | x :: xs, acc, M => (lcTurn own g cnd elt σ x acc M).bind fun acc' M' => lcItems own g cnd elt σ xs acc' M'

/-- the item at a turn; none: it ends -/
def srcAt (s : Src) (i : Nat) (M : Mem) : Option (Option PV) :=
  match s with
  | .items xs => some xs[i]?
  | .at1 n e => (M.lst? n).map fun xs => xs[i]?.map fun x => if e then .tup [.int i, x] else x
  | .at2 n m => (M.lst? n).bind fun xs => (M.lst? m).map fun ys => xs[i]?.bind fun x => ys[i]?.map fun y => .tup [x, y]
  | .atT n ys => (M.lst? n).bind fun xs => if i ≤ xs.length ∧ i ≤ ys.length then some (xs[i]?.bind fun x => ys[i]?.map fun y => .tup [x, y]) else none

def srcLen (s : Src) (M : Mem) : Nat :=
  match s with
  | .items xs => xs.length
  | .at1 n _ => ((M.lst? n).getD []).length
  | .at2 n _ => ((M.lst? n).getD []).length
  | .atT n _ => ((M.lst? n).getD []).length

def lcSrc (own : List Nat) (g : MG) (cnd : Option Ev) (elt : Ev) (σ : St) (s : Src) : Nat → Nat → List PV → Mem → Res (List PV)
  | 0, _, _, _ => .stuck
  | f + 1, i, acc, M => match srcAt s i M with
    | none => .stuck
    | some none => .ok acc M
    | some (some x) => (lcTurn own g cnd elt σ x acc M).bind fun acc' M' => lcSrc own g cnd elt σ s f (i + 1) acc' M'

def lcRun (own : List Nat) (g : MG) (cnd : Option Ev) (elt : Ev) (σ : St) (s : Src) (M : Mem) : Res PV :=
  (match s with
    | .items xs => lcItems own g cnd elt σ xs [] M
    | s => lcSrc own g cnd elt σ s (srcLen s M + 1) 0 [] M).bind fun acc M' => .ok (.ref M'.sz) (M'.push (.lst acc))

def zipL : List PV → List PV → List PV
  | x :: xs, y :: ys => .tup [x, y] :: zipL xs ys
  | _, _ => []
def enumL : Nat → List PV → List PV
  | _, [] => []
  | i, x :: xs => .tup [.int i, x] :: enumL (i + 1) xs

def srcSeq (v : PV) (M : Mem) : Option Src :=
  match v with
  | .tup xs => some (.items xs)
  | .ref n => (M.lst? n).map fun _ => .at1 n false
  | .str x => if x.length ≤ LIM then some (.items (x.cps.toList.map fun c => .str ⟨#[c]⟩)) else none
  | _ => none
def srcEnum (v : PV) (M : Mem) : Option Src :=
  match v with
  | .tup xs => some (.items (enumL 0 xs))
  | .ref n => (M.lst? n).map fun _ => .at1 n true
  | _ => none
def srcZip (v w : PV) (M : Mem) : Option Src :=
  match v, w with
  | .tup xs, .tup ys => some (.items (zipL xs ys))
  | .ref n, .ref m => (M.lst? n).bind fun _ => (M.lst? m).map fun _ => .at2 n m
  | .ref n, .tup ys => (M.lst? n).map fun _ => .atT n ys
  | _, _ => none

def optR {α : Type} (o : Option α) (M : Mem) : Res α :=
  match o with
  | some a => .ok a M
  | none => .stuck

def intR (v : PV) (M : Mem) : Res Int :=
  match v with
  | .int i => .ok i M
  | _ => .stuck

/-- places moved up -/
def PV.sh (d : Nat) : PV → PV
  | .tup xs => .tup (shs xs)
  | .ref n => .ref (n + d)
  | v => v
where shs : List PV → List PV
  | [] => []
  | x :: xs => x.sh d :: shs xs
def MObj.sh (d : Nat) : MObj → MObj
  | .lst xs => .lst (xs.map (PV.sh d))
  | .rol xs => .rol (xs.map (PV.sh d))
/-- a memory upon another -/
def Mem.join (M M' : Mem) : Mem := ⟨M.sz + M'.sz, M'.objs.map (MObj.sh M.sz) ++ M.objs, M.esc⟩
/-- the one list that is handed on -/
def oneRef : List PV → Option Nat
  | [] => none
  | v :: vs => (match v with | .ref n => some n | _ => oneRef vs)
def isRef (n : Nat) : PV → Bool
  | .ref m => m == n
  | _ => false
def to0 : PV → PV
  | .ref _ => .ref 0
  | v => v
def putO (M : Mem) (n : Nat) (o : MObj) : Mem :=
  match o with
  | .lst _ => M.put n o 0
  | .rol _ => M
/-- a call of an own def -/
def callM (cf : CF) (f : Nat) (vs : List PV) (M : Mem) : Res PV := cf f vs M

/-- dicts of the program's top, with texts as keys -/
def pT (l : List Int) : PV := .tup (l.map PV.int)
def CST : List (Str × List (Str × PV)) := [("INNER", [("thing", pT []), ("it", pT []), ("first", pT []), ("last", pT []), ("most", pT [2]), ("if", pT [1, 2, 3]), ("ahead", pT [2, 3]), ("more", pT [1, 2]), ("same", pT [1, 2]), ("less", pT [1, 2]), ("not", pT [1]), ("both", pT [1, 2]), ("num", pT []), ("tops", pT [1]), ("points", pT [1]), ("beats", pT [1]), ("behind", pT [2]), ("sum", pT [1, 2])])]
def cixO (i : Nat) (s : Str) : Option PV := (CST[i]?).bind fun c => c.2.lookup s
def cixM (i : Nat) (v : PV) (M : Mem) : Res PV :=
  match v with
  | .str s => (match cixO i s with | some p => .ok p M | none => .stuck)
  | _ => .stuck
/-! ### the forms, as functions of their parts -/
def eVar (i : Nat) : Ev := fun σ M => (match σ[i]? with | some (some v) => .ok v M | _ => .stuck)
def eC (v : PV) : Ev := fun _ M => .ok v M
abbrev EvL := St → Mem → Res (List PV)
def eNil : EvL := fun _ M => .ok [] M
def eCons (a : Ev) (r : EvL) : EvL := fun σ M => (a σ M).bind fun v M1 => (r σ M1).bind fun vs M2 => .ok (v :: vs) M2
def eTup (r : EvL) : Ev := fun σ M => (r σ M).bind fun vs M1 => if vs.length ≤ LIM then .ok (.tup vs) M1 else .stuck
def eLst (r : EvL) : Ev := fun σ M => (r σ M).bind fun vs M1 => if vs.length ≤ LIM then .ok (.ref M1.sz) (M1.push (.lst vs)) else .stuck
def eBin (op : Operator) (a b : Ev) : Ev := fun σ M => trim M ((a σ M).bind fun v M1 => (b σ M1).bind fun w M2 => binM op v w M2)
def eNeg (a : Ev) : Ev := fun σ M => (a σ M).bind fun v M1 => (intR v M1).bind fun i M2 => .ok (.int (-i)) M2
def eNot (a : Ev) : Ev := fun σ M => trim M ((a σ M).bind fun v M1 => (truth v M1).bind fun b M2 => .ok (.bl (!b)) M2)
def eCmp (op : CmpOp) (a b : Ev) : Ev := fun σ M => trim M ((a σ M).bind fun v M1 => (b σ M1).bind fun w M2 => cmpM op v w M2)
def eChain (op op' : CmpOp) (a b c : Ev) : Ev := fun σ M => trim M ((a σ M).bind fun v M1 => (b σ M1).bind fun w M2 => (cmpM op v w M2).bind fun r M3 =>
      match r with
      | .bl true => (c σ M3).bind fun u M4 => cmpM op' w u M4
      | .bl false => .ok (.bl false) M3
      | _ => .stuck)
def eAnd (a b : Ev) : Ev := fun σ M => (a σ M).bind fun v M1 => (truth v M1).bind fun t M2 => if t then b σ M2 else .ok v M2
def eOr (a b : Ev) : Ev := fun σ M => (a σ M).bind fun v M1 => (truth v M1).bind fun t M2 => if t then .ok v M2 else b σ M2
def eIfe (c a b : Ev) : Ev := fun σ M => ((c σ M).bind truth).bind fun t M2 => if t then a σ M2 else b σ M2
def eIx (a i : Ev) : Ev := fun σ M => trim M ((a σ M).bind fun v M1 => (i σ M1).bind fun w M2 => ixM v w M2)
abbrev EvO := St → Mem → Res (Option Int)
def oNone : EvO := fun _ M => .ok none M
def oSome (e : Ev) : EvO := fun σ M => (e σ M).bind fun v M1 => (intR v M1).bind fun i M2 => .ok (some i) M2
def eSl (a : Ev) (lo hi : EvO) : Ev := fun σ M => trim M ((a σ M).bind fun v M1 => (lo σ M1).bind fun l M2 => (hi σ M2).bind fun h M3 => slM v l h M3)
def eStp (a st : Ev) : Ev := fun σ M => trim M ((a σ M).bind fun v M1 => (st σ M1).bind fun w M2 => stpM v w M2)
def eCall (cf : CF) (f : Nat) (r : EvL) : Ev := fun σ M => trim M ((r σ M).bind fun vs M1 => callM cf f vs M1)
/-- [f, g, ..][i](..) -/
def fnAtM (fs : List Nat) (v : PV) : Option Nat :=
  match v with
  | .int j => (ixOf fs.length j).bind fun n => fs[n]?
  | _ => none
def eCallL (cf : CF) (fs : List Nat) (i : Ev) (r : EvL) : Ev := fun σ M => (i σ M).bind fun v M1 => match fnAtM fs v with
  | some f => (r σ M1).bind fun vs M2 => callM cf f vs M2
  | none => .stuck
def eB (f : BF) (r : EvL) : Ev := fun σ M => trim M ((r σ M).bind fun vs M1 => bcallM f vs M1)
def eM (m : MF) (o : Ev) (r : EvL) : Ev := fun σ M => trim M ((o σ M).bind fun v M1 => if recvOk m v M1 then (r σ M1).bind fun vs M2 => methM m v vs M2 else .stuck)
def eIsiT (e : Ev) (ts : List TyK) : Ev := fun σ M => trim M ((e σ M).bind fun v M1 => if ts.length ≤ LIM then isiM v ts M1 else .stuck)
def eIsi (e : Ev) (ts : List TyK) : Ev := fun σ M => trim M ((e σ M).bind fun v M1 => isiM v ts M1)
def eCix (i : Nat) (e : Ev) : Ev := fun σ M => (e σ M).bind fun v M1 => cixM i v M1
abbrev EvI := St → Mem → Res Src
def eLc (own : List Nat) (g : MG) (it : EvI) (cnd : Option Ev) (elt : Ev) : Ev := fun σ M => (it σ M).bind fun s M1 => lcRun own g cnd elt σ s M1
def iSeq (e : Ev) : EvI := fun σ M => (e σ M).bind fun v M1 => optR (srcSeq v M1) M1
def iRange1 (e : Ev) : EvI := fun σ M => (e σ M).bind fun v M1 => (intR v M1).bind fun j M2 => if inRange j then .ok (.items (rangeL 0 j)) M2 else .stuck
def iRange2 (a b : Ev) : EvI := fun σ M => (a σ M).bind fun v M1 => (b σ M1).bind fun w M2 => (intR v M2).bind fun i M3 => (intR w M3).bind fun j M4 =>
      if inRange i && inRange j then .ok (.items (rangeL i j)) M4 else .stuck
def iEnum (e : Ev) : EvI := fun σ M => (e σ M).bind fun v M1 => optR (srcEnum v M1) M1
def iZip (a b : Ev) : EvI := fun σ M => (a σ M).bind fun v M1 => (b σ M1).bind fun w M2 => optR (srcZip v w M2) M2

mutual
def evE (cf : CF) : ME → Ev
  | .var i => eVar i
  | .int i => eC (.int i)
  | .bl b => eC (.bl b)
  | .non => eC .non
  | .str x => eC (.str x)
  | .tup es => eTup (evEs cf es)
  | .lst es => eLst (evEs cf es)
  | .bin op a b => eBin op (evE cf a) (evE cf b)
  | .neg a => eNeg (evE cf a)
  | .not a => eNot (evE cf a)
  | .cmp op a b => eCmp op (evE cf a) (evE cf b)
  | .chain op op' a b c => eChain op op' (evE cf a) (evE cf b) (evE cf c)
  | .and es => evAnd cf es
  | .or es => evOr cf es
  | .ife c a b => eIfe (evE cf c) (evE cf a) (evE cf b)
  | .ix a i => eIx (evE cf a) (evE cf i)
  | .sl a lo hi => eSl (evE cf a) (evO cf lo) (evO cf hi)
  | .stp a st => eStp (evE cf a) (evE cf st)
  | .call f args => eCall cf f (evEs cf args)
  | .bcall f args => eB f (evEs cf args)
  | .meth m o args => eM m (evE cf o) (evEs cf args)
  | .isi e ts tup => match tup with
    | true => eIsiT (evE cf e) ts
    | false => eIsi (evE cf e) ts
  | .lc own g it cnd elt => eLc own g (evI cf it) (evC cf cnd) (evE cf elt)
  | .cix i e => eCix i (evE cf e)
  | .callL fs i args => eCallL cf fs (evE cf i) (evEs cf args)
def evEs (cf : CF) : MEs → EvL
  | .nil => eNil
  | .cons e es => eCons (evE cf e) (evEs cf es)
def evAnd (cf : CF) : MEs → Ev
  | .nil => fun _ _ => .stuck
  | .cons e es => match es with
    | .nil => evE cf e
    | .cons e' es' => eAnd (evE cf e) (evAnd cf (.cons e' es'))
def evOr (cf : CF) : MEs → Ev
  | .nil => fun _ _ => .stuck
  | .cons e es => match es with
    | .nil => evE cf e
    | .cons e' es' => eOr (evE cf e) (evOr cf (.cons e' es'))
/-- a slice's end -/
def evO (cf : CF) : MEo → EvO
  | .none => oNone
  | .some e => oSome (evE cf e)
/-- a comprehension's test -/
def evC (cf : CF) : MEo → Option Ev
  | .none => none
  | .some e => some (evE cf e)
def evI (cf : CF) : MI → EvI
  | .seq e => iSeq (evE cf e)
  | .range1 e => iRange1 (evE cf e)
  | .range2 a b => iRange2 (evE cf a) (evE cf b)
  | .enum e => iEnum (evE cf e)
  | .zip a b => iZip (evE cf a) (evE cf b)
end

abbrev Sv := St → Mem → Res Flow

/-- behind a turn of a loop: on, or out -/
def afterTurn (f : Flow) (M : Mem) (go : St → Mem → Res Flow) : Res Flow :=
  match f with
  | .next σ => go σ M
  | .cont σ => go σ M
  | .brk σ => .ok (.next σ) M
  | .ret v => .ok (.ret v) M

def forItems (g : MG) (body : Sv) : List PV → St → Mem → Res Flow
  | [], σ, M => .ok (.next σ) M
  | x :: xs, σ, M => match assignG g x σ with
    | none => .stuck
    | some σ' => (body σ' M).bind fun f M' => afterTurn f M' (forItems g body xs)

def forSrc (g : MG) (body : Sv) (s : Src) : Nat → Nat → St → Mem → Res Flow
  | 0, _, _, _ => .stuck
  | f + 1, i, σ, M => match srcAt s i M with
    | none => .stuck
    | some none => .ok (.next σ) M
    | some (some x) => (match assignG g x σ with
      | none => .stuck
      | some σ' => (body σ' M).bind fun fl M' => afterTurn fl M' (forSrc g body s f (i + 1)))

def forRun (g : MG) (body : Sv) (s : Src) (σ : St) (M : Mem) : Res Flow :=
  match s with
  | .items xs => forItems g body xs σ M
  | s => forSrc g body s (srcLen s M + 1) 0 σ M

def whileRun (c : Ev) (body : Sv) : Nat → St → Mem → Res Flow
  | 0, _, _ => .stuck
  | f + 1, σ, M => ((c σ M).bind truth).bind fun t M2 =>
    if t then (body σ M2).bind fun fl M' => afterTurn fl M' (whileRun c body f)
    else .ok (.next σ) M2

/-- how often a while may turn -/
def WF : Nat := 100000

def sAsg (i : Nat) (e : Ev) : Sv := fun σ M => (trim M (e σ M)).bind fun v M1 => .ok (.next (σ.set i (some v))) M1
def sAsgT (g : MG) (e : Ev) : Sv := fun σ M => (trim M (e σ M)).bind fun v M1 => (optR (assignG g v σ) M1).bind fun σ' M2 => .ok (.next σ') M2
def sPar (i j : Nat) (r : EvL) : Sv := fun σ M => (r σ M).bind fun vs M1 => match vs with
  | [v, w] => .ok (.next ((σ.set i (some v)).set j (some w))) M1
  | _ => .stuck
def sPar3 (i j l : Nat) (r : EvL) : Sv := fun σ M => (r σ M).bind fun vs M1 => match vs with
  | [v, w, u] => .ok (.next (((σ.set i (some v)).set j (some w)).set l (some u))) M1
  | _ => .stuck
def sSetix (o i e : Ev) : Sv := fun σ M => (trim M (e σ M)).bind fun v M1 => (o σ M1).bind fun ov M2 => (i σ M2).bind fun iv M3 => (setM ov iv v M3).bind fun _ M4 => .ok (.next σ) M4
def sSet (o i : Ev) (v : PV) : Sv := fun σ M => (o σ M).bind fun ov M2 => (i σ M2).bind fun iv M3 => (setM ov iv v M3).bind fun _ M4 => .ok (.next σ) M4
/-- o[i], o2[i2] = e -/
def sSwp (o i o2 i2 e : Ev) : Sv := fun σ M => (e σ M).bind fun v M1 => match v with
  | .tup [v, u] => (sSet o i v σ M1).bind fun f M2 => match f with
    | .next σ' => sSet o2 i2 u σ' M2
    | f => .ok f M2
  | _ => .stuck
def sExpr (e : Ev) : Sv := fun σ M => (trim M (e σ M)).bind fun _ M1 => .ok (.next σ) M1
def sRet (e : Ev) : Sv := fun σ M => (trim M (e σ M)).bind fun v M1 => .ok (.ret v) M1
def sIf (c : Ev) (a b : Sv) : Sv := fun σ M => ((c σ M).bind truth).bind fun t M2 => if t then a σ M2 else b σ M2
def sFor (g : MG) (it : EvI) (b : Sv) : Sv := fun σ M => (it σ M).bind fun s M1 => forRun g b s σ M1
def sWhile (c : Ev) (b : Sv) : Sv := fun σ M => whileRun c b WF σ M
def sPass : Sv := fun σ M => .ok (.next σ) M
def sBrk : Sv := fun σ M => .ok (.brk σ) M
def sCont : Sv := fun σ M => .ok (.cont σ) M
def sRaise : Sv := fun _ _ => .stuck
def sSeq (a b : Sv) : Sv := fun σ M => (a σ M).bind fun f M1 =>
    match f with
    | .next σ' => b σ' M1
    | f => .ok f M1
mutual
def evS (cf : CF) : MS → Sv
  | .asg i e => sAsg i (evE cf e)
  | .asgT g e => sAsgT g (evE cf e)
  | .par i j es => sPar i j (evEs cf es)
  | .par3 i j l es => sPar3 i j l (evEs cf es)
  | .setix o i e => sSetix (evE cf o) (evE cf i) (evE cf e)
  | .swp o i o2 i2 e => sSwp (evE cf o) (evE cf i) (evE cf o2) (evE cf i2) (evE cf e)
  | .expr e => sExpr (evE cf e)
  | .ret e => sRet (evE cf e)
  | .ife c a b => sIf (evE cf c) (evSs cf a) (evSs cf b)
  | .for_ g it b => sFor g (evI cf it) (evSs cf b)
  | .while_ c b => sWhile (evE cf c) (evSs cf b)
  | .pass => sPass
  | .brk => sBrk
  | .cont => sCont
  | .raise_ => sRaise
def evSs (cf : CF) : MSs → Sv
  | .nil => sPass
  | .cons s ss => sSeq (evS cf s) (evSs cf ss)
end

structure Fn where
  /-- how many parameters, how many names -/
  np : Nat
  nn : Nat
  body : MSs

def startσ (nn : Nat) (vs : List PV) : St := vs.map some ++ List.replicate (nn - vs.length) none

/-- what is handed back at the end of a def: only what the caller can reach stays -/
def endOf (M0 : Mem) (r : Res Flow) : Res PV :=
  match r with
  | .ok (.ret v) M => trimV M0 v M
  | .ok (.next _) M => trimV M0 .non M
  | .ok _ _ => .stuck
  | .exc v M => .exc v M
  | .stuck => .stuck

def run (fs : List (Nat × Fn)) : Nat → CF
  | 0 => fun _ _ _ => .stuck
  | k + 1 => fun f vs M => match fs.lookup f with
    | none => .stuck
    | some F => if vs.length = F.np then endOf M (evSs (run fs k) F.body (startσ F.nn vs) M) else .stuck

end Mn
end
section
set_option Elab.async false
set_option linter.all false
set_option maxRecDepth 100000
set_option maxHeartbeats 4000000
namespace Mn
open PySem PySem.Spec PyProof.Rows L2

/-- a tuple that is known to have no dict of its own -/
def Tup (K : PySem.W.Frag) (H : Hp) (a : Addr) (xs : List V) : Prop :=
  (∃ o, H a = some (.frz o (.tup xs)) ∧ o.dict = none) ∨
    ∃ (o : Obj) (its : Array Value) (n : Nat), K.lookup a = some o ∧ o.cls = .type "tuple" ∧ o.dict = none ∧ o.data = .seq its n ∧ its.size ≤ sizeLine ∧ Vals xs its.toList
theorem Tup.sq {K : PySem.W.Frag} {H : Hp} {a : Addr} {xs : List V} (h : Tup K H a xs) : SqT K H a xs := by
  rcases h with ⟨o, h, _⟩ | ⟨o, its, n, h1, h2, _, h3, h4, h5⟩
  · exact .inl (.inr ⟨o, h⟩)
  · exact .inr ⟨o, its, n, h1, h2, h3, h4, h5⟩
/-- a list that is never written -/
def Rol (K : PySem.W.Frag) (H : Hp) (a : Addr) (xs : List V) : Prop :=
  (∃ o, H a = some (.frz o (.lst xs))) ∨
    ∃ (o : Obj) (its : Array Value) (n : Nat), K.lookup a = some o ∧ o.cls = .type "list" ∧ o.dict = none ∧ o.data = .seq its n ∧ its.size ≤ sizeLine ∧ Vals xs its.toList
theorem Rol.sq {K : PySem.W.Frag} {H : Hp} {a : Addr} {xs : List V} (h : Rol K H a xs) : SqL K H a xs := by
  rcases h with ⟨o, h⟩ | h
  · exact .inl (.inr ⟨o, h⟩)
  · exact .inr h

/-- a mini value and a value of the layer -/
def Rep (K : PySem.W.Frag) (H : Hp) (β : List Addr) : PV → V → Prop
  | .non, x => x = .non
  | .bl b, x => x = .bl b
  | .int i, x => x = .int i
  | .str s, x => x = .str s
  | .tup ps, x => ∃ a xs, x = .ref a ∧ Tup K H a xs ∧ Reps ps xs
  | .ref n, x => ∃ a, x = .ref a ∧ β[n]? = some a
where Reps : List PV → List V → Prop
  | [], xs => xs = []
  | p :: ps, xs => ∃ x r, xs = x :: r ∧ Rep K H β p x ∧ Reps ps r
abbrev Reps (K : PySem.W.Frag) (H : Hp) (β : List Addr) : List PV → List V → Prop := Rep.Reps K H β

section
variable {K : PySem.W.Frag} {H H' : Hp} {β β' : List Addr}
theorem rep_non {x : V} : Rep K H β .non x ↔ x = .non := by rw [Rep]
theorem rep_bl {b : Bool} {x : V} : Rep K H β (.bl b) x ↔ x = .bl b := by rw [Rep]
theorem rep_int {i : Int} {x : V} : Rep K H β (.int i) x ↔ x = .int i := by rw [Rep]
theorem rep_str {s : Str} {x : V} : Rep K H β (.str s) x ↔ x = .str s := by rw [Rep]
theorem rep_tup {ps : List PV} {x : V} : Rep K H β (.tup ps) x ↔ ∃ a xs, x = .ref a ∧ Tup K H a xs ∧ Reps K H β ps xs := by rw [Rep]
theorem rep_ref {n : Nat} {x : V} : Rep K H β (.ref n) x ↔ ∃ a, x = .ref a ∧ β[n]? = some a := by rw [Rep]
theorem reps_nil {xs : List V} : Reps K H β [] xs ↔ xs = [] := by unfold Reps; rw [Rep.Reps]
theorem reps_cons {p : PV} {ps : List PV} {xs : List V} : Reps K H β (p :: ps) xs ↔ ∃ x r, xs = x :: r ∧ Rep K H β p x ∧ Reps K H β ps r := by unfold Reps; rw [Rep.Reps]

mutual
theorem Rep.mono (ht : ∀ a xs, Tup K H a xs → Tup K H' a xs) (hb : ∀ n a : Nat, β[n]? = some a → β'[n]? = some a) : ∀ {v : PV} {x : V}, Rep K H β v x → Rep K H' β' v x
  | .non, x, h => rep_non.mpr (rep_non.mp h)
  | .bl b, x, h => rep_bl.mpr (rep_bl.mp h)
  | .int b, x, h => rep_int.mpr (rep_int.mp h)
  | .str b, x, h => rep_str.mpr (rep_str.mp h)
  | .tup ps, x, h => by
    obtain ⟨a, xs, e, t, r⟩ := rep_tup.mp h
    exact rep_tup.mpr ⟨a, xs, e, ht _ _ t, Reps.mono ht hb r⟩
  | .ref n, x, h => by
    obtain ⟨a, e, t⟩ := rep_ref.mp h
    exact rep_ref.mpr ⟨a, e, hb _ _ t⟩
theorem Reps.mono (ht : ∀ a xs, Tup K H a xs → Tup K H' a xs) (hb : ∀ n a : Nat, β[n]? = some a → β'[n]? = some a) : ∀ {ps : List PV} {xs : List V}, Reps K H β ps xs → Reps K H' β' ps xs
  | [], xs, h => reps_nil.mpr (reps_nil.mp h)
  | p :: ps, xs, h => by
    obtain ⟨x, r, e, h1, h2⟩ := reps_cons.mp h
    exact reps_cons.mpr ⟨x, r, e, Rep.mono ht hb h1, Reps.mono ht hb h2⟩
end
mutual
/-- only places below b are asked -/
theorem Rep.low {b : Nat} (hb : ∀ n a : Nat, n < b → β[n]? = some a → β'[n]? = some a) : ∀ {v : PV} {x : V}, v.bnd b = true → Rep K H β v x → Rep K H β' v x
  | .non, x, _, h => rep_non.mpr (rep_non.mp h)
  | .bl b, x, _, h => rep_bl.mpr (rep_bl.mp h)
  | .int b, x, _, h => rep_int.mpr (rep_int.mp h)
  | .str b, x, _, h => rep_str.mpr (rep_str.mp h)
  | .tup ps, x, q, h => by
    obtain ⟨a, xs, e, t, r⟩ := rep_tup.mp h
    rw [bnd_tup] at q
    exact rep_tup.mpr ⟨a, xs, e, t, Reps.low hb q r⟩
  | .ref n, x, q, h => by
    obtain ⟨a, e, t⟩ := rep_ref.mp h
    exact rep_ref.mpr ⟨a, e, hb _ _ (by simpa [PV.bnd] using q) t⟩
theorem Reps.low {b : Nat} (hb : ∀ n a : Nat, n < b → β[n]? = some a → β'[n]? = some a) : ∀ {ps : List PV} {xs : List V}, ps.all (PV.bnd b) = true → Reps K H β ps xs → Reps K H β' ps xs
  | [], xs, _, h => reps_nil.mpr (reps_nil.mp h)
  | p :: ps, xs, q, h => by
    obtain ⟨x, r, e, h1, h2⟩ := reps_cons.mp h
    rw [List.all_cons, Bool.and_eq_true] at q
    exact reps_cons.mpr ⟨x, r, e, Rep.low hb q.1 h1, Reps.low hb q.2 h2⟩
end
mutual
/-- what stands has its places below the memory's size -/
theorem Rep.bnd {b : Nat} (hb : β.length ≤ b) : ∀ {v : PV} {x : V}, Rep K H β v x → v.bnd b = true
  | .non, x, h => by simp [PV.bnd]
  | .bl b, x, h => by simp [PV.bnd]
  | .int b, x, h => by simp [PV.bnd]
  | .str b, x, h => by simp [PV.bnd]
  | .tup ps, x, h => by
    obtain ⟨a, xs, e, t, r⟩ := rep_tup.mp h
    rw [bnd_tup]
    exact Reps.bnd hb r
  | .ref n, x, h => by
    obtain ⟨a, e, t⟩ := rep_ref.mp h
    have := (List.getElem?_eq_some_iff.mp t).1
    simp only [PV.bnd, decide_eq_true_eq]
    omega
theorem Reps.bnd {b : Nat} (hb : β.length ≤ b) : ∀ {ps : List PV} {xs : List V}, Reps K H β ps xs → ps.all (PV.bnd b) = true
  | [], xs, h => rfl
  | p :: ps, xs, h => by
    obtain ⟨x, r, e, h1, h2⟩ := reps_cons.mp h
    rw [List.all_cons, Rep.bnd hb h1, Reps.bnd hb h2]; rfl
end
mutual
theorem bnd_mono {b c : Nat} (h : b ≤ c) : ∀ {v : PV}, v.bnd b = true → v.bnd c = true
  | .non, _ => by simp [PV.bnd]
  | .bl _, _ => by simp [PV.bnd]
  | .int _, _ => by simp [PV.bnd]
  | .str _, _ => by simp [PV.bnd]
  | .tup ps, q => by rw [bnd_tup] at q ⊢; exact bnds_mono h q
  | .ref n, q => by simp only [PV.bnd, decide_eq_true_eq] at q ⊢; omega
theorem bnds_mono {b c : Nat} (h : b ≤ c) : ∀ {vs : List PV}, vs.all (PV.bnd b) = true → vs.all (PV.bnd c) = true
  | [], _ => rfl
  | v :: vs, q => by
    rw [List.all_cons, Bool.and_eq_true] at q ⊢
    exact ⟨bnd_mono h q.1, bnds_mono h q.2⟩
end
theorem Reps.length : ∀ {ps : List PV} {xs : List V}, Reps K H β ps xs → ps.length = xs.length
  | [], xs, h => by rw [reps_nil.mp h]; rfl
  | p :: ps, xs, h => by
    obtain ⟨x, r, rfl, h1, h2⟩ := reps_cons.mp h
    rw [List.length_cons, List.length_cons, Reps.length h2]
theorem Reps.get : ∀ {ps : List PV} {xs : List V} {i : Nat} {p : PV}, Reps K H β ps xs → ps[i]? = some p → ∃ x, xs[i]? = some x ∧ Rep K H β p x
  | [], xs, i, p, h, e => by simp at e
  | q :: ps, xs, 0, p, h, e => by
    obtain ⟨x, r, rfl, h1, h2⟩ := reps_cons.mp h
    simp at e; subst e
    exact ⟨x, rfl, h1⟩
  | q :: ps, xs, i + 1, p, h, e => by
    obtain ⟨x, r, rfl, h1, h2⟩ := reps_cons.mp h
    simp at e
    obtain ⟨y, e1, e2⟩ := Reps.get h2 e
    exact ⟨y, by simpa using e1, e2⟩
theorem Reps.append : ∀ {ps qs : List PV} {xs ys : List V}, Reps K H β ps xs → Reps K H β qs ys → Reps K H β (ps ++ qs) (xs ++ ys)
  | [], qs, xs, ys, h, g => by rw [reps_nil.mp h]; exact g
  | p :: ps, qs, xs, ys, h, g => by
    obtain ⟨x, r, rfl, h1, h2⟩ := reps_cons.mp h
    exact reps_cons.mpr ⟨x, r ++ ys, rfl, h1, Reps.append h2 g⟩
theorem Reps.one {p : PV} {x : V} (h : Rep K H β p x) : Reps K H β [p] [x] := reps_cons.mpr ⟨x, [], rfl, h, reps_nil.mpr rfl⟩
theorem Reps.drop : ∀ {ps : List PV} {xs : List V} (n : Nat), Reps K H β ps xs → Reps K H β (ps.drop n) (xs.drop n)
  | ps, xs, 0, h => h
  | [], xs, n + 1, h => by rw [reps_nil.mp h]; exact reps_nil.mpr rfl
  | p :: ps, xs, n + 1, h => by
    obtain ⟨x, r, rfl, h1, h2⟩ := reps_cons.mp h
    exact Reps.drop n h2
theorem Reps.take : ∀ {ps : List PV} {xs : List V} (n : Nat), Reps K H β ps xs → Reps K H β (ps.take n) (xs.take n)
  | ps, xs, 0, h => reps_nil.mpr rfl
  | [], xs, n + 1, h => by rw [reps_nil.mp h]; exact reps_nil.mpr rfl
  | p :: ps, xs, n + 1, h => by
    obtain ⟨x, r, rfl, h1, h2⟩ := reps_cons.mp h
    exact reps_cons.mpr ⟨x, r.take n, rfl, h1, Reps.take n h2⟩
theorem Reps.set {p : PV} {x : V} (hp : Rep K H β p x) : ∀ {ps : List PV} {xs : List V} (n : Nat), Reps K H β ps xs → Reps K H β (ps.set n p) (xs.set n x)
  | [], xs, n, h => by rw [reps_nil.mp h]; exact reps_nil.mpr rfl
  | q :: ps, xs, 0, h => by
    obtain ⟨y, r, rfl, h1, h2⟩ := reps_cons.mp h
    exact reps_cons.mpr ⟨x, r, rfl, hp, h2⟩
  | q :: ps, xs, n + 1, h => by
    obtain ⟨y, r, rfl, h1, h2⟩ := reps_cons.mp h
    exact reps_cons.mpr ⟨y, r.set n x, rfl, h1, Reps.set hp n h2⟩
theorem Reps.erase : ∀ {ps : List PV} {xs : List V} (n : Nat), Reps K H β ps xs → Reps K H β (ps.eraseIdx n) (xs.eraseIdx n)
  | [], xs, n, h => by rw [reps_nil.mp h]; exact reps_nil.mpr rfl
  | q :: ps, xs, 0, h => by
    obtain ⟨y, r, rfl, h1, h2⟩ := reps_cons.mp h
    exact h2
  | q :: ps, xs, n + 1, h => by
    obtain ⟨y, r, rfl, h1, h2⟩ := reps_cons.mp h
    exact reps_cons.mpr ⟨y, r.eraseIdx n, rfl, h1, Reps.erase n h2⟩
theorem Reps.rev : ∀ {ps : List PV} {xs : List V}, Reps K H β ps xs → Reps K H β ps.reverse xs.reverse
  | [], xs, h => by rw [reps_nil.mp h]; exact reps_nil.mpr rfl
  | q :: ps, xs, h => by
    obtain ⟨y, r, rfl, h1, h2⟩ := reps_cons.mp h
    rw [List.reverse_cons, List.reverse_cons]
    exact (Reps.rev h2).append (.one h1)
theorem reps_ints : ∀ (ns : List Int), Reps K H β (ns.map PV.int) (ns.map V.int)
  | [] => reps_nil.mpr rfl
  | n :: ns => reps_cons.mpr ⟨.int n, ns.map V.int, rfl, rep_int.mpr rfl, reps_ints ns⟩
end

/-! ### memory and heap -/
def ORep (K : PySem.W.Frag) (H : Hp) (β : List Addr) (a : Addr) : MObj → Prop
  | .lst xs => ∃ ys, H a = some (.lst ys) ∧ Reps K H β xs ys
  | .rol xs => ∃ ys, Rol K H a ys ∧ Reps K H β xs ys
structure RelH (K : PySem.W.Frag) (β : List Addr) (M : Mem) (H : Hp) : Prop where
  len : β.length = M.sz
  olen : M.objs.length = M.sz
  inj : ∀ (n m : Nat) (a : Addr) xs ys, M.get n = some (.lst xs) → M.get m = some (.lst ys) → β[n]? = some a → β[m]? = some a → n = m
  obj : ∀ (n : Nat) o, M.get n = some o → ∃ a, β[n]? = some a ∧ ORep K H β a o

/-- closed below b -/
def Cl (M : Mem) (b : Nat) : Prop := ∀ n o, n < b → M.get n = some o → o.bnd b = true

structure Stp (K : PySem.W.Frag) (β : List Addr) (M : Mem) (H : Hp) (β' : List Addr) (M' : Mem) (H' : Hp) : Prop where
  rel : RelH K β' M' H'
  pre : ∀ n a : Nat, β[n]? = some a → β'[n]? = some a
  szle : M.sz ≤ M'.sz
  frame : ∀ a o, H a = some o → (∀ n xs, M.get n = some (.lst xs) → β[n]? ≠ some a) → H' a = some o
  kind : ∀ n xs, n < M.sz → M'.get n = some (.lst xs) → ∃ ys, M.get n = some (.lst ys)
  kind2 : ∀ n xs, M.get n = some (.lst xs) → ∃ ys, M'.get n = some (.lst ys)
  fresh : ∀ (n : Nat) xs a, M.sz ≤ n → M'.get n = some (.lst xs) → β'[n]? = some a → H a = none
  esc : M.esc ≤ M'.esc
  clo : M'.esc = M.esc → ∀ b, b ≤ M.sz → Cl M b → Cl M' b

section
variable {K : PySem.W.Frag} {H H1 H2 : Hp} {β β1 β2 : List Addr} {M M1 M2 : Mem}
theorem get_lt {n : Nat} {o : MObj} (h : M.get n = some o) : n < M.sz := by
  unfold Mem.get at h
  split at h
  · assumption
  · cases h
theorem RelH.nolst (r : RelH K β M H) {a : Addr} (h : ∀ xs, H a ≠ some (.lst xs)) : ∀ n xs, M.get n = some (.lst xs) → β[n]? ≠ some a := fun n xs e z => by
  obtain ⟨b, e1, ys, e2, _⟩ := r.obj n _ e
  rw [z] at e1; cases e1
  exact h ys e2
theorem Stp.tup (s : Stp K β M H β1 M1 H1) (r : RelH K β M H) {a : Addr} {xs : List V} (h : Tup K H a xs) : Tup K H1 a xs := by
  rcases h with ⟨o, h, d⟩ | h
  · exact .inl ⟨o, s.frame a _ h (r.nolst fun xs e => by rw [h] at e; cases e), d⟩
  · exact .inr h
theorem Stp.rep (s : Stp K β M H β1 M1 H1) (r : RelH K β M H) {v : PV} {x : V} (h : Rep K H β v x) : Rep K H1 β1 v x := h.mono (fun _ _ => s.tup r) s.pre
theorem Stp.reps (s : Stp K β M H β1 M1 H1) (r : RelH K β M H) {v : List PV} {x : List V} (h : Reps K H β v x) : Reps K H1 β1 v x := h.mono (fun _ _ => s.tup r) s.pre
theorem Stp.refl (r : RelH K β M H) : Stp K β M H β M H := ⟨r, fun _ _ h => h, Nat.le_refl _, fun _ _ h _ => h, fun n xs _ h => ⟨xs, h⟩, fun n xs h => ⟨xs, h⟩, fun n xs a h1 h2 _ => absurd (get_lt h2) (by omega), Nat.le_refl _, fun _ _ _ h => h⟩
theorem Stp.trans (s : Stp K β M H β1 M1 H1) (t : Stp K β1 M1 H1 β2 M2 H2) (r : RelH K β M H) : Stp K β M H β2 M2 H2 where
  rel := t.rel
  pre := fun n a h => t.pre n a (s.pre n a h)
  szle := Nat.le_trans s.szle t.szle
  frame := fun a o h hn => t.frame a o (s.frame a o h hn) fun n xs e z => by
    by_cases hl : n < M.sz
    · obtain ⟨ys, e2⟩ := s.kind n xs hl e
      obtain ⟨b, e3, _⟩ := r.obj n _ e2
      have := s.pre n b e3
      rw [z] at this; cases this
      exact hn n ys e2 e3
    · have := s.fresh n xs a (by omega) e z
      rw [h] at this; cases this
  kind := fun n xs hl e => by
    obtain ⟨ys, e2⟩ := t.kind n xs (Nat.lt_of_lt_of_le hl s.szle) e
    exact s.kind n ys hl e2
  kind2 := fun n xs e => by
    obtain ⟨ys, e2⟩ := s.kind2 n xs e
    exact t.kind2 n ys e2
  fresh := fun n xs a hl e z => by
    by_cases h1 : n < M1.sz
    · obtain ⟨ys, e2⟩ := t.kind n xs h1 e
      obtain ⟨b, e3, _⟩ := s.rel.obj n _ e2
      have := t.pre n b e3
      rw [z] at this; cases this
      exact s.fresh n ys _ hl e2 e3
    · have hz := t.fresh n xs a (by omega) e z
      cases q : H a with
      | none => rfl
      | some o =>
        by_cases hm : ∀ n xs, M.get n = some (.lst xs) → β[n]? ≠ some a
        · rw [s.frame a o q hm] at hz; cases hz
        · exfalso
          apply hm
          intro m ys e1 e2
          have e3 := s.pre m a e2
          have hmlt := get_lt e1
          obtain ⟨zs, e7⟩ := s.kind2 m _ e1
          obtain ⟨c, e8, ws, e10, _⟩ := s.rel.obj m _ e7
          rw [e3] at e8; cases e8
          rw [e10] at hz; cases hz
  esc := Nat.le_trans s.esc t.esc
  clo := fun e b hb h => t.clo (by have := s.esc; have := t.esc; omega) b (Nat.le_trans hb s.szle) (s.clo (by have := s.esc; have := t.esc; omega) b hb h)

theorem stp_of (r : RelH K β1 M1 H1) (s : Stp K β M H β1 M1 H1) : Stp K β1 M1 H1 β1 M1 H1 := .refl r

/-! ### elementary steps -/
theorem tup_upd_new {p : Addr} {o : HO} (hp : H p = none) {a : Addr} {xs : List V} (h : Tup K H a xs) : Tup K (upd H p o) a xs := by
  rcases h with ⟨ob, h, d⟩ | h
  · exact .inl ⟨ob, by rw [upd_ne (ne_of_none h hp)]; exact h, d⟩
  · exact .inr h
theorem tup_upd_lst {p : Addr} {o : HO} {ys : List V} (hp : H p = some (.lst ys)) {a : Addr} {xs : List V} (h : Tup K H a xs) : Tup K (upd H p o) a xs := by
  rcases h with ⟨ob, h, d⟩ | h
  · exact .inl ⟨ob, by rw [upd_ne (ne_of h hp (by intro e; cases e))]; exact h, d⟩
  · exact .inr h
theorem rol_upd_new {p : Addr} {o : HO} (hp : H p = none) {a : Addr} {xs : List V} (h : Rol K H a xs) : Rol K (upd H p o) a xs := by
  rcases h with ⟨ob, h⟩ | h
  · exact .inl ⟨ob, by rw [upd_ne (ne_of_none h hp)]; exact h⟩
  · exact .inr h
theorem rol_upd_lst {p : Addr} {o : HO} {ys : List V} (hp : H p = some (.lst ys)) {a : Addr} {xs : List V} (h : Rol K H a xs) : Rol K (upd H p o) a xs := by
  rcases h with ⟨ob, h⟩ | h
  · exact .inl ⟨ob, by rw [upd_ne (ne_of h hp (by intro e; cases e))]; exact h⟩
  · exact .inr h
theorem get_push_old {n : Nat} {o : MObj} (h : n < M.sz) : (M.push o).get n = M.get n := by
  unfold Mem.get Mem.push
  rw [if_pos (by simp only; omega), if_pos h]
  simp only
  rw [show M.sz + 1 - 1 - n = (M.sz - 1 - n) + 1 by omega, List.getElem?_cons_succ]
theorem get_push_new {o : MObj} : (M.push o).get M.sz = some o := by
  unfold Mem.get Mem.push
  rw [if_pos (by simp only; omega)]
  simp only
  rw [show M.sz + 1 - 1 - M.sz = 0 by omega]
  rfl
theorem get_push {n : Nat} {o ob : MObj} (h : (M.push o).get n = some ob) : (n < M.sz ∧ M.get n = some ob) ∨ (n = M.sz ∧ ob = o) := by
  by_cases hn : n < M.sz
  · rw [get_push_old hn] at h; exact .inl ⟨hn, h⟩
  · have : n < M.sz + 1 := get_lt h
    have e : n = M.sz := by omega
    subst e
    rw [get_push_new] at h; cases h
    exact .inr ⟨rfl, rfl⟩
theorem getElem?_snoc {α : Type} {l : List α} {x : α} {n : Nat} {a : α} (h : (l ++ [x])[n]? = some a) : l[n]? = some a ∨ (n = l.length ∧ a = x) := by
  by_cases hn : n < l.length
  · rw [List.getElem?_append_left hn] at h; exact .inl h
  · rw [List.getElem?_append_right (by omega)] at h
    have : n - l.length = 0 := by
      have := (List.getElem?_eq_some_iff.mp h).1
      simp at this; omega
    rw [this] at h; cases h
    exact .inr ⟨by omega, rfl⟩
theorem snoc_old {α : Type} {l : List α} {x : α} {n : Nat} {a : α} (h : l[n]? = some a) : (l ++ [x])[n]? = some a := by
  rw [List.getElem?_append_left (List.getElem?_eq_some_iff.mp h).1]; exact h
/-- a heap that grows by an untracked-before thing that is no list -/
theorem stp_new (r : RelH K β M H) {p : Addr} {o : HO} (hp : H p = none) : Stp K β M H β M (upd H p o) where
  rel := ⟨r.len, r.olen, r.inj, fun n ob e => by
    obtain ⟨a, e1, e2⟩ := r.obj n ob e
    refine ⟨a, e1, ?_⟩
    cases ob with
    | lst xs =>
      obtain ⟨ys, e3, e4⟩ := e2
      exact ⟨ys, by rw [upd_ne (ne_of_none e3 hp)]; exact e3, e4.mono (fun _ _ => tup_upd_new hp) fun _ _ h => h⟩
    | rol xs =>
      obtain ⟨ys, e3, e4⟩ := e2
      exact ⟨ys, rol_upd_new hp e3, e4.mono (fun _ _ => tup_upd_new hp) fun _ _ h => h⟩⟩
  pre := fun _ _ h => h
  szle := Nat.le_refl _
  frame := fun a ob h _ => by rw [upd_ne (ne_of_none h hp)]; exact h
  kind := fun n xs _ h => ⟨xs, h⟩
  kind2 := fun n xs h => ⟨xs, h⟩
  fresh := fun n xs a h1 h2 _ => absurd (get_lt h2) (by omega)
  esc := Nat.le_refl _
  clo := fun _ _ _ h => h
/-- a new list -/
theorem stp_push (r : RelH K β M H) {p : Addr} {xs : List PV} {ys : List V} (hp : H p = none) (h : Reps K H β xs ys) : Stp K β M H (β ++ [p]) (M.push (.lst xs)) (upd H p (.lst ys)) where
  rel := {
    len := by rw [List.length_append, r.len]; rfl
    olen := by show (_ :: M.objs).length = M.sz + 1; rw [List.length_cons, r.olen]
    inj := fun n m a xs1 ys1 e1 e2 z1 z2 => by
      have hn : ∀ n xs, M.get n = some (.lst xs) → β[n]? ≠ some p := fun n xs e z => by
        obtain ⟨b, e1, ws, e2, _⟩ := r.obj n _ e
        rw [z] at e1; cases e1
        rw [hp] at e2; cases e2
      rcases get_push e1 with ⟨h1, g1⟩ | ⟨h1, g1⟩ <;> rcases get_push e2 with ⟨h2, g2⟩ | ⟨h2, g2⟩
      · rw [List.getElem?_append_left (by rw [r.len]; exact h1)] at z1
        rw [List.getElem?_append_left (by rw [r.len]; exact h2)] at z2
        exact r.inj n m a _ _ g1 g2 z1 z2
      · rw [List.getElem?_append_left (by rw [r.len]; exact h1)] at z1
        rw [h2, List.getElem?_append_right (by rw [r.len]; exact Nat.le_refl _), r.len, Nat.sub_self] at z2
        cases z2
        exact absurd z1 (hn _ _ g1)
      · rw [List.getElem?_append_left (by rw [r.len]; exact h2)] at z2
        rw [h1, List.getElem?_append_right (by rw [r.len]; exact Nat.le_refl _), r.len, Nat.sub_self] at z1
        cases z1
        exact absurd z2 (hn _ _ g2)
      · rw [h1, h2]
    obj := fun n ob e => by
      rcases get_push e with ⟨h1, g1⟩ | ⟨h1, g1⟩
      · obtain ⟨a, e1, e2⟩ := r.obj n ob g1
        refine ⟨a, snoc_old e1, ?_⟩
        cases ob with
        | lst xs =>
          obtain ⟨ys, e3, e4⟩ := e2
          exact ⟨ys, by rw [upd_ne (ne_of_none e3 hp)]; exact e3, e4.mono (fun _ _ => tup_upd_new hp) fun _ _ h => snoc_old h⟩
        | rol xs =>
          obtain ⟨ys, e3, e4⟩ := e2
          exact ⟨ys, rol_upd_new hp e3, e4.mono (fun _ _ => tup_upd_new hp) fun _ _ h => snoc_old h⟩
      · subst h1 g1
        refine ⟨p, ?_, ys, upd_same, h.mono (fun _ _ => tup_upd_new hp) fun _ _ h => snoc_old h⟩
        rw [List.getElem?_append_right (by rw [r.len]; exact Nat.le_refl _), r.len, Nat.sub_self]
        rfl }
  pre := fun _ _ h => snoc_old h
  szle := Nat.le_succ _
  frame := fun a ob h _ => by rw [upd_ne (ne_of_none h hp)]; exact h
  kind := fun n xs hl e => by rw [get_push_old hl] at e; exact ⟨xs, e⟩
  kind2 := fun n xs e => by rw [get_push_old (get_lt e)]; exact ⟨xs, e⟩
  fresh := fun n xs1 a hl e z => by
    rcases get_push e with ⟨h1, _⟩ | ⟨h1, _⟩
    · omega
    · rw [h1, List.getElem?_append_right (by rw [r.len]; exact Nat.le_refl _), r.len, Nat.sub_self] at z
      cases z
      exact hp
  esc := Nat.le_refl _
  clo := fun _ b hb h n ob hn e => by
    rw [get_push_old (by omega)] at e
    exact h n ob hn e
theorem push_at (r : RelH K β M H) {p : Addr} : (β ++ [p])[M.sz]? = some p := by
  rw [List.getElem?_append_right (by rw [r.len]; exact Nat.le_refl _), r.len, Nat.sub_self]
  rfl
theorem get_put_same {n : Nat} {o o' : MObj} {e : Nat} (h : M.get n = some o') (hl : M.objs.length = M.sz) : (M.put n o e).get n = some o := by
  have hn := get_lt h
  unfold Mem.get Mem.put
  simp only
  rw [if_pos hn, List.getElem?_set_self (by omega)]
theorem get_put_ne {n m : Nat} {o : MObj} {e : Nat} (hne : m ≠ n) (hn : n < M.sz) : (M.put n o e).get m = M.get m := by
  unfold Mem.get Mem.put
  simp only
  split
  · rw [List.getElem?_set_ne (by omega)]
  · rfl
/-- a list is changed -/
theorem stp_put (r : RelH K β M H) {n : Nat} {p : Addr} {xs0 xs : List PV} {ys0 ys : List V} {e : Nat} (hg : M.get n = some (.lst xs0)) (hb : β[n]? = some p) (hp : H p = some (.lst ys0)) (h : Reps K H β xs ys)
    (hc : e = 0 → ∀ b, xs0.all (PV.bnd b) = true → xs.all (PV.bnd b) = true) : Stp K β M H β (M.put n (.lst xs) e) (upd H p (.lst ys)) := by
  have hn := get_lt hg
  have gp : ∀ {m ob}, (M.put n (.lst xs) e).get m = some ob → (m = n ∧ ob = .lst xs) ∨ (m ≠ n ∧ M.get m = some ob) := fun {m ob} q => by
    by_cases hm : m = n
    · subst hm
      rw [get_put_same hg r.olen] at q; cases q
      exact .inl ⟨rfl, rfl⟩
    · rw [get_put_ne hm hn] at q
      exact .inr ⟨hm, q⟩
  refine ⟨⟨r.len, by show (M.objs.set _ _).length = M.sz; rw [List.length_set]; exact r.olen, fun m1 m2 a xs1 ys1 e1 e2 z1 z2 => ?_, fun m ob q => ?_⟩, fun _ _ h => h, Nat.le_refl _, fun a ob q hne => ?_, fun m zs _ q => ?_, fun m zs q => ?_, fun m zs a h1 h2 _ => ?_, Nat.le_add_right _ _, fun he b hb2 hcl m ob hm q => ?_⟩
  · have k : ∀ {m zs}, (M.put n (.lst xs) e).get m = some (.lst zs) → ∃ ws, M.get m = some (.lst ws) := fun {m zs} q => by
      rcases gp q with ⟨h1, _⟩ | ⟨_, h1⟩
      · exact ⟨xs0, h1 ▸ hg⟩
      · exact ⟨zs, h1⟩
    obtain ⟨w1, k1⟩ := k e1
    obtain ⟨w2, k2⟩ := k e2
    exact r.inj m1 m2 a _ _ k1 k2 z1 z2
  · rcases gp q with ⟨rfl, rfl⟩ | ⟨hm, q⟩
    · exact ⟨p, hb, ys, upd_same, h.mono (fun _ _ => tup_upd_lst hp) fun _ _ h => h⟩
    · obtain ⟨a, e1, e2⟩ := r.obj m ob q
      refine ⟨a, e1, ?_⟩
      cases ob with
      | lst zs =>
        obtain ⟨ws, e3, e4⟩ := e2
        have hap : a ≠ p := fun z => hm (r.inj m n a zs xs0 q hg e1 (z ▸ hb))
        exact ⟨ws, by rw [upd_ne hap]; exact e3, e4.mono (fun _ _ => tup_upd_lst hp) fun _ _ h => h⟩
      | rol zs =>
        obtain ⟨ws, e3, e4⟩ := e2
        exact ⟨ws, rol_upd_lst hp e3, e4.mono (fun _ _ => tup_upd_lst hp) fun _ _ h => h⟩
  · have hap : a ≠ p := fun z => hne n xs0 hg (z ▸ hb)
    rw [upd_ne hap]; exact q
  · rcases gp q with ⟨h1, _⟩ | ⟨_, h1⟩
    · exact ⟨xs0, h1 ▸ hg⟩
    · exact ⟨zs, h1⟩
  · by_cases hm : m = n
    · subst hm
      exact ⟨xs, get_put_same hg r.olen⟩
    · exact ⟨zs, by rw [get_put_ne hm hn]; exact q⟩
  · have := get_lt h2
    have : (M.put n (.lst xs) e).sz = M.sz := rfl
    omega
  · have he0 : e = 0 := by
      have : M.esc + e = M.esc := he
      omega
    rcases gp q with ⟨rfl, rfl⟩ | ⟨_, q⟩
    · exact hc he0 b (hcl m _ hm hg)
    · exact hcl m ob hm q
theorem RelH.cl (r : RelH K β M H) : Cl M M.sz := fun n o _ e => by
  obtain ⟨a, _, h⟩ := r.obj n o e
  cases o with
  | lst xs => obtain ⟨ys, _, h⟩ := h; exact h.bnd (Nat.le_of_eq r.len)
  | rol xs => obtain ⟨ys, _, h⟩ := h; exact h.bnd (Nat.le_of_eq r.len)
theorem get_cut {b n : Nat} (hb : b ≤ M.sz) (hn : n < b) (hl : M.objs.length = M.sz) : (M.cut b).get n = M.get n := by
  unfold Mem.get Mem.cut
  simp only
  rw [if_pos hn, if_pos (by omega), List.getElem?_drop]
  congr 1
  omega
theorem take_get {α : Type} {l : List α} {b n : Nat} {a : α} (h : (l.take b)[n]? = some a) : l[n]? = some a ∧ n < b := by
  by_cases hn : n < b
  · rw [List.getElem?_take_of_lt hn] at h; exact ⟨h, hn⟩
  · rw [List.getElem?_eq_none (by rw [List.length_take]; omega)] at h; cases h
theorem get_take {α : Type} {l : List α} {b n : Nat} {a : α} (h : l[n]? = some a) (hn : n < b) : (l.take b)[n]? = some a := by
  rw [List.getElem?_take_of_lt hn]; exact h
/-- what lies above is let go -/
theorem stp_cut (r : RelH K β M H) (s : Stp K β M H β1 M1 H1) (he : M1.esc = M.esc) : Stp K β M H (β1.take M.sz) (M1.cut M.sz) H1 := by
  have cl := s.clo he M.sz (Nat.le_refl _) r.cl
  have hz := s.szle
  have ol := s.rel.olen
  have gc : ∀ {n ob}, (M1.cut M.sz).get n = some ob → n < M.sz ∧ M1.get n = some ob := fun {n ob} q => by
    have h0 := get_lt q
    have h1 : n < M.sz := h0
    rw [get_cut hz h1 ol] at q
    exact ⟨h1, q⟩
  refine ⟨⟨?_, ?_, fun n m a xs ys e1 e2 z1 z2 => ?_, fun n ob q => ?_⟩, fun n a h => ?_, Nat.le_refl _, s.frame, fun n xs hl e => ?_, fun n xs e => ?_, fun n xs a hl e _ => ?_, Nat.le_of_eq he.symm, fun _ b hb h n ob hn q => ?_⟩
  · rw [List.length_take, s.rel.len]
    show min M.sz M1.sz = M.sz
    omega
  · show (M1.objs.drop (M1.sz - M.sz)).length = M.sz
    rw [List.length_drop]
    omega
  · exact s.rel.inj n m a xs ys (gc e1).2 (gc e2).2 (take_get z1).1 (take_get z2).1
  · obtain ⟨hn, q⟩ := gc q
    obtain ⟨a, e1, e2⟩ := s.rel.obj n ob q
    refine ⟨a, get_take e1 hn, ?_⟩
    have hbd := cl n ob hn q
    cases ob with
    | lst xs =>
      obtain ⟨ys, e3, e4⟩ := e2
      exact ⟨ys, e3, e4.low (fun m c hm z => get_take z hm) hbd⟩
    | rol xs =>
      obtain ⟨ys, e3, e4⟩ := e2
      exact ⟨ys, e3, e4.low (fun m c hm z => get_take z hm) hbd⟩
  · refine get_take (s.pre n a h) ?_
    have := (List.getElem?_eq_some_iff.mp h).1
    rw [r.len] at this; exact this
  · exact s.kind n xs hl (gc e).2
  · obtain ⟨ys, e2⟩ := s.kind2 n xs e
    exact ⟨ys, by rw [get_cut hz (get_lt e) ol]; exact e2⟩
  · have := (gc e).1
    omega
  · obtain ⟨_, q⟩ := gc q
    exact s.clo he b hb h n ob hn q
/-- .. but one list -/
theorem stp_keep (r : RelH K β M H) (s : Stp K β M H β1 M1 H1) (he : M1.esc = M.esc) {n : Nat} {xs : List PV} {p : Addr} (hg : M1.get n = some (.lst xs)) (hn : M.sz ≤ n) (hb : β1[n]? = some p) (hx : xs.all (PV.bnd M.sz) = true) :
    Stp K β M H (β1.take M.sz ++ [p]) ((M1.cut M.sz).push (.lst xs)) H1 := by
  have t := stp_cut r s he
  have hl : (β1.take M.sz).length = M.sz := t.rel.len
  have gp : ∀ {m ob}, ((M1.cut M.sz).push (.lst xs)).get m = some ob → (m < M.sz ∧ (M1.cut M.sz).get m = some ob) ∨ (m = M.sz ∧ ob = .lst xs) := fun q => get_push q
  have pz : (M1.cut M.sz).sz = M.sz := rfl
  have at_ : (β1.take M.sz ++ [p])[M.sz]? = some p := by
    rw [List.getElem?_append_right (by omega), hl, Nat.sub_self]; rfl
  obtain ⟨p', e1, ys, e2, e3⟩ := s.rel.obj n _ hg
  rw [hb] at e1; cases e1
  have old : ∀ {m zs a}, (M1.cut M.sz).get m = some (.lst zs) → m < M.sz → (β1.take M.sz ++ [p])[m]? = some a → a ≠ p := fun {m zs a} q hm z hap => by
    rw [List.getElem?_append_left (by omega)] at z
    rw [get_cut s.szle hm s.rel.olen] at q
    have := s.rel.inj m n a zs xs q hg (take_get z).1 (hap ▸ hb)
    omega
  refine ⟨⟨?_, ?_, fun m1 m2 a xs1 ys1 q1 q2 z1 z2 => ?_, fun m ob q => ?_⟩, fun m a h => snoc_old (t.pre m a h), Nat.le_succ _, s.frame, fun m zs hm q => ?_, fun m zs q => ?_, fun m zs a hm q z => ?_, Nat.le_of_eq he.symm, fun _ b hb2 h m ob hm q => ?_⟩
  · rw [List.length_append, hl]; rfl
  · show (_ :: (M1.cut M.sz).objs).length = M.sz + 1
    rw [List.length_cons, t.rel.olen]
    rfl
  · rcases gp q1 with ⟨h1, g1⟩ | ⟨h1, g1⟩ <;> rcases gp q2 with ⟨h2, g2⟩ | ⟨h2, g2⟩
    · rw [List.getElem?_append_left (by omega)] at z1 z2
      exact t.rel.inj m1 m2 a _ _ g1 g2 z1 z2
    · rw [h2, at_] at z2; cases z2
      exact absurd rfl (old g1 h1 z1)
    · rw [h1, at_] at z1; cases z1
      exact absurd rfl (old g2 h2 z2)
    · omega
  · rcases gp q with ⟨h1, g1⟩ | ⟨h1, g1⟩
    · obtain ⟨a, e1, e2⟩ := t.rel.obj m ob g1
      refine ⟨a, snoc_old e1, ?_⟩
      cases ob with
      | lst zs =>
        obtain ⟨ys, e3, e4⟩ := e2
        exact ⟨ys, e3, e4.mono (fun _ _ h => h) fun _ _ h => snoc_old h⟩
      | rol zs =>
        obtain ⟨ys, e3, e4⟩ := e2
        exact ⟨ys, e3, e4.mono (fun _ _ h => h) fun _ _ h => snoc_old h⟩
    · subst h1 g1
      exact ⟨p, at_, ys, e2, e3.low (fun m c hm z => snoc_old (get_take z hm)) hx⟩
  · rcases gp q with ⟨_, g1⟩ | ⟨h1, _⟩
    · exact t.kind m zs hm g1
    · omega
  · obtain ⟨ys, g⟩ := t.kind2 m zs q
    exact ⟨ys, by rw [get_push_old (get_lt g)]; exact g⟩
  · rcases gp q with ⟨h1, _⟩ | ⟨h1, _⟩
    · omega
    · subst h1
      rw [at_] at z; cases z
      exact s.fresh n xs p hn hg hb
  · rcases gp q with ⟨_, g1⟩ | ⟨h1, _⟩
    · exact t.clo he b hb2 h m ob hm g1
    · omega
/-- what trimming leaves -/
theorem trim_ok (r : RelH K β M H) (s : Stp K β M H β1 M1 H1) (v : PV) : ∃ v' β2 M2, trimV M v M1 = .ok v' M2 ∧ Stp K β M H β2 M2 H1 ∧ ∀ x, Rep K H1 β1 v x → Rep K H1 β2 v' x := by
  exact ⟨v, β1, M1, rfl, s, fun _ h => h⟩
end
end Mn
end
section
set_option Elab.async false
set_option linter.all false
set_option maxRecDepth 100000
set_option maxHeartbeats 4000000
namespace Mn
open PySem PySem.Spec PyProof.Rows L2

/-! ### what a run gives, and what is wanted of it -/
def Out {α : Type} (K : PySem.W.Frag) (β : List Addr) (M : Mem) (H : Hp) (r : Res α) (k : α → List Addr → Mem → Hp → Prop) (w : PV → List Addr → Mem → Hp → Prop) : Prop :=
  match r with
  | .ok a M' => ∀ β' H', Stp K β M H β' M' H' → k a β' M' H'
  | .exc v M' => ∀ β' H', Stp K β M H β' M' H' → w v β' M' H'
  | .stuck => False
abbrev WM := PV → List Addr → Mem → Hp → Prop
section
variable {K : PySem.W.Frag} {β β1 : List Addr} {M M1 : Mem} {H H1 : Hp} {w : WM}
theorem Out.bind {α γ : Type} {r : Res α} {f : α → Mem → Res γ} {k : γ → List Addr → Mem → Hp → Prop} (R : RelH K β M H) (h : Out K β M H (r.bind f) k w) :
    Out K β M H r (fun a β1 M1 H1 => Out K β1 M1 H1 (f a M1) k w) w := by
  cases r with
  | ok a M1 =>
    intro β1 H1 s
    have h : Out K β M H (f a M1) k w := h
    revert h
    cases f a M1 with
    | ok b M2 => exact fun h β2 H2 t => h β2 H2 (s.trans t R)
    | exc v M2 => exact fun h β2 H2 t => h β2 H2 (s.trans t R)
    | stuck => exact fun h => h
  | exc v M1 => exact h
  | stuck => exact h
theorem Out.imp {α : Type} {r : Res α} {k k' : α → List Addr → Mem → Hp → Prop} {w' : WM} (h : Out K β M H r k w) (hk : ∀ a β' M' H', Stp K β M H β' M' H' → k a β' M' H' → k' a β' M' H') (hw : ∀ a β' M' H', Stp K β M H β' M' H' → w a β' M' H' → w' a β' M' H') : Out K β M H r k' w' := by
  cases r with
  | ok a M1 => exact fun β' H' s => hk _ _ _ _ s (h β' H' s)
  | exc a M1 => exact fun β' H' s => hw _ _ _ _ s (h β' H' s)
  | stuck => exact h
theorem Out.ok {α : Type} {a : α} {k : α → List Addr → Mem → Hp → Prop} (R : RelH K β M H) (h : Out K β M H (.ok a M) k w) : k a β M H := h β H (.refl R)
/-- a value's end -/
def kQ (K : PySem.W.Frag) (Q : V → Hp → Prop) : PV → List Addr → Mem → Hp → Prop := fun v β' _ H' => ∀ x, Rep K H' β' v x → Q x H'
def kA (K : PySem.W.Frag) (Q : List V → Hp → Prop) : List PV → List Addr → Mem → Hp → Prop := fun v β' _ H' => ∀ x, Reps K H' β' v x → Q x H'
def kB (Q : Bool → Hp → Prop) : Bool → List Addr → Mem → Hp → Prop := fun b _ _ H' => Q b H'
theorem Out.trim {r : Res PV} {Q : V → Hp → Prop} (R : RelH K β M H) (h : Out K β M H (trim M r) (kQ K Q) w) : Out K β M H r (kQ K Q) w := by
  cases r with
  | ok v M1 =>
    intro β1 H1 s x hx
    obtain ⟨v', β2, M2, e, t, hr⟩ := trim_ok R s v
    have h : Out K β M H (trimV M v M1) (kQ K Q) w := h
    rw [e] at h
    exact h β2 H1 t x (hr x hx)
  | exc v M1 => exact h
  | stuck => exact h
/-- trimmed, then bound -/
theorem Out.trimB {γ : Type} {r : Res PV} {f : PV → Mem → Res γ} {k : γ → List Addr → Mem → Hp → Prop} (R : RelH K β M H) (h : Out K β M H ((Mn.trim M r).bind f) k w) :
    Out K β M H r (fun v β1 M1 H1 => ∃ v' β2 M2, Stp K β M H β2 M2 H1 ∧ (∀ x, Rep K H1 β1 v x → Rep K H1 β2 v' x) ∧ Out K β2 M2 H1 (f v' M2) k w) w := by
  cases r with
  | ok v M1 =>
    intro β1 H1 s
    obtain ⟨v', β2, M2, e, t, hr⟩ := trim_ok R s v
    have h : Out K β M H ((trimV M v M1).bind f) k w := h
    rw [e] at h
    have h : Out K β M H (f v' M2) k w := h
    refine ⟨v', β2, M2, t, hr, ?_⟩
    revert h
    cases f v' M2 with
    | ok b M3 => exact fun h β3 H3 u => h β3 H3 (t.trans u R)
    | exc b M3 => exact fun h β3 H3 u => h β3 H3 (t.trans u R)
    | stuck => exact fun h => h
  | exc v M1 => exact h
  | stuck => exact h
end

/-! ### slots -/
def RelS (K : PySem.W.Frag) (H : Hp) (β : List Addr) (mσ : Mn.St) (σ : L2.St) : Prop :=
  mσ.length = σ.length ∧ ∀ (i : Nat) (v : PV), mσ[i]? = some (some v) → ∃ x, σ[i]? = some (some x) ∧ Rep K H β v x
section
variable {K : PySem.W.Frag} {β β1 : List Addr} {M M1 : Mem} {H H1 : Hp} {mσ : Mn.St} {σ : L2.St}
theorem RelS.stp (h : RelS K H β mσ σ) (R : RelH K β M H) (s : Stp K β M H β1 M1 H1) : RelS K H1 β1 mσ σ :=
  ⟨h.1, fun i v e => by
    obtain ⟨x, e1, r⟩ := h.2 i v e
    exact ⟨x, e1, s.rep R r⟩⟩
theorem RelS.set (h : RelS K H β mσ σ) {i : Nat} {v : PV} {x : V} (r : Rep K H β v x) : RelS K H β (mσ.set i (some v)) (σ.set i (some x)) := by
  refine ⟨by rw [List.length_set, List.length_set]; exact h.1, fun j u e => ?_⟩
  by_cases hj : i = j
  · subst hj
    by_cases hl : i < mσ.length
    · rw [List.getElem?_set_self hl] at e
      cases e
      exact ⟨x, by rw [List.getElem?_set_self (by rw [← h.1]; exact hl)], r⟩
    · rw [List.getElem?_eq_none (by rw [List.length_set]; omega)] at e; cases e
  · rw [List.getElem?_set_ne hj] at e
    obtain ⟨y, e1, r1⟩ := h.2 j u e
    exact ⟨y, by rw [List.getElem?_set_ne hj]; exact e1, r1⟩
theorem RelS.wipe (h : RelS K H β mσ σ) : ∀ vs : List Nat, RelS K H β (Mn.wipe mσ vs) (L2.wipe σ vs)
  | [] => h
  | v :: vs => by
    have ih := RelS.wipe h vs
    unfold Mn.wipe L2.wipe
    refine ⟨by rw [List.length_set, List.length_set]; exact ih.1, fun j u e => ?_⟩
    by_cases hj : v = j
    · subst hj
      by_cases hl : v < (Mn.wipe mσ vs).length
      · rw [List.getElem?_set_self hl] at e; cases e
      · rw [List.getElem?_eq_none (by rw [List.length_set]; omega)] at e; cases e
    · rw [List.getElem?_set_ne hj] at e
      obtain ⟨y, e1, r1⟩ := ih.2 j u e
      exact ⟨y, by rw [List.getElem?_set_ne hj]; exact e1, r1⟩
end

/-! ### readings -/
/-- wishes for what is raised, by the slots -/
abbrev WS := L2.St → WM
def tE (K : PySem.W.Frag) (w : WS) (ev : Mn.Ev) : TE := fun σ H Q => ∃ mσ β M, RelH K β M H ∧ RelS K H β mσ σ ∧ Out K β M H (ev mσ M) (kQ K Q) (w σ)
def tAs (K : PySem.W.Frag) (w : WS) (ev : Mn.St → Mem → Res (List PV)) : TA := fun σ H Q => ∃ mσ β M, RelH K β M H ∧ RelS K H β mσ σ ∧ Out K β M H (ev mσ M) (kA K Q) (w σ)
def tTs (K : PySem.W.Frag) (w : WS) (ev : Mn.St → Mem → Res Bool) : TT := fun σ H Q => ∃ mσ β M, RelH K β M H ∧ RelS K H β mσ σ ∧ Out K β M H (ev mσ M) (kB Q) (w σ)
theorem PE.imp {X : Cx} {e : Expr} {t t' : TE} (h : PE X e t') (i : ∀ σ H Q, t σ H Q → t' σ H Q) : PE X e t := ⟨fun pins s σ H Q I q => h.run pins s σ H Q I (i σ H Q q)⟩
theorem PT.imp {X : Cx} {e : Expr} {t t' : TT} (h : PT X e t') (i : ∀ σ H Q, t σ H Q → t' σ H Q) : PT X e t := ⟨fun pins s σ H Q I q => h.run pins s σ H Q I (i σ H Q q)⟩
theorem PW.imp {X : Cx} {e : Expr} {t t' : TT} (h : PW X e t') (i : ∀ σ H Q, t σ H Q → t' σ H Q) : PW X e t := ⟨fun wh pins s σ H Q I q => h.run wh pins s σ H Q I (i σ H Q q)⟩
theorem PA.imp {X : Cx} {e : List Expr} {t t' : TA} (h : PA X e t') (i : ∀ σ H Q, t σ H Q → t' σ H Q) : PA X e t := ⟨fun pos pins s σ H Q I q => h.run pos pins s σ H Q I (i σ H Q q)⟩
theorem PS.imp {X : Cx} {e : Stmt} {t t' : TS} (h : PS X e t') (i : ∀ D σ H, t D σ H → t' D σ H) : PS X e t := ⟨fun pins s σ H D I q => h.run pins s σ H D I (i D σ H q)⟩
theorem PSs.imp {X : Cx} {e : List Stmt} {t t' : TS} (h : PSs X e t') (i : ∀ D σ H, t D σ H → t' D σ H) : PSs X e t := ⟨fun pins s σ H D I q => h.run pins s σ H D I (i D σ H q)⟩
theorem PO.imp {X : Cx} {e : Option Expr} {t t' : TO} (h : PO X e t') (i : ∀ σ H Q, t σ H Q → t' σ H Q) : PO X e t := ⟨fun pins s σ H Q I q => h.run pins s σ H Q I (i σ H Q q)⟩

section
variable {K : PySem.W.Frag} {β : List Addr} {M : Mem} {H : Hp} {mσ : Mn.St} {σ : L2.St} {w : WS}
/-- one value, then the rest -/
theorem tE_step {γ : Type} {ev : Mn.Ev} {f : PV → Mem → Res γ} {k : γ → List Addr → Mem → Hp → Prop} (R : RelH K β M H) (S : RelS K H β mσ σ) (h : Out K β M H ((ev mσ M).bind f) k (w σ)) :
    tE K w ev σ H fun x H1 => ∃ v β1 M1, Stp K β M H β1 M1 H1 ∧ Rep K H1 β1 v x ∧ Out K β1 M1 H1 (f v M1) k (w σ) :=
  ⟨mσ, β, M, R, S, (h.bind R).imp (fun a β1 M1 H1 s q x hx => ⟨a, β1, M1, s, hx, q⟩) fun _ _ _ _ _ q => q⟩
theorem tA_step {γ : Type} {ev : Mn.St → Mem → Res (List PV)} {f : List PV → Mem → Res γ} {k : γ → List Addr → Mem → Hp → Prop} (R : RelH K β M H) (S : RelS K H β mσ σ) (h : Out K β M H ((ev mσ M).bind f) k (w σ)) :
    tAs K w ev σ H fun x H1 => ∃ v β1 M1, Stp K β M H β1 M1 H1 ∧ Reps K H1 β1 v x ∧ Out K β1 M1 H1 (f v M1) k (w σ) :=
  ⟨mσ, β, M, R, S, (h.bind R).imp (fun a β1 M1 H1 s q x hx => ⟨a, β1, M1, s, hx, q⟩) fun _ _ _ _ _ q => q⟩
theorem tT_step {γ : Type} {ev : Mn.St → Mem → Res Bool} {f : Bool → Mem → Res γ} {k : γ → List Addr → Mem → Hp → Prop} (R : RelH K β M H) (S : RelS K H β mσ σ) (h : Out K β M H ((ev mσ M).bind f) k (w σ)) :
    tTs K w ev σ H fun b H1 => ∃ β1 M1, Stp K β M H β1 M1 H1 ∧ Out K β1 M1 H1 (f b M1) k (w σ) :=
  ⟨mσ, β, M, R, S, (h.bind R).imp (fun a β1 M1 H1 s q => ⟨β1, M1, s, q⟩) fun _ _ _ _ _ q => q⟩
theorem tE_trim {ev : Mn.Ev} {Q : VK} (h : tE K w (fun σ M => trim M (ev σ M)) σ H Q) : tE K w ev σ H Q := by
  obtain ⟨mσ, β, M, R, S, o⟩ := h
  exact ⟨mσ, β, M, R, S, o.trim R⟩
/-- trimmed, then the rest -/
theorem tE_stepT {γ : Type} {ev : Mn.Ev} {f : PV → Mem → Res γ} {k : γ → List Addr → Mem → Hp → Prop} (R : RelH K β M H) (S : RelS K H β mσ σ) (h : Out K β M H ((trim M (ev mσ M)).bind f) k (w σ)) :
    tE K w ev σ H fun x H1 => ∃ v β1 M1, Stp K β M H β1 M1 H1 ∧ Rep K H1 β1 v x ∧ Out K β1 M1 H1 (f v M1) k (w σ) :=
  ⟨mσ, β, M, R, S, (h.trimB R).imp (fun a β1 M1 H1 s q x hx => by
    obtain ⟨v', β2, M2, t, hr, o⟩ := q
    exact ⟨v', β2, M2, t, hr x hx, o⟩) fun _ _ _ _ _ q => q⟩
end

/-! ### values that are ready -/
section
variable {K : PySem.W.Frag} {β : List Addr} {M : Mem} {H : Hp} {Q : V → Hp → Prop} {w : WM}
theorem Out.flat {v : PV} {x : V} (R : RelH K β M H) (h : Out K β M H (.ok v M) (kQ K Q) w) (r : Rep K H β v x) : Q x H := h.ok R x r
theorem Out.tup {ps : List PV} {xs : List V} (R : RelH K β M H) (h : Out K β M H (.ok (.tup ps) M) (kQ K Q) w) (r : Reps K H β ps xs) {p : Addr} {o : Obj} (hp : H p = none) (ho : o.dict = none) : Q (.ref p) (upd H p (.frz o (.tup xs))) := by
  refine h β _ (stp_new R hp) _ (rep_tup.mpr ⟨p, xs, rfl, .inl ⟨o, upd_same, ho⟩, ?_⟩)
  exact r.mono (fun _ _ => tup_upd_new hp) fun _ _ h => h
theorem Out.lst {ps : List PV} {xs : List V} (R : RelH K β M H) (h : Out K β M H (.ok (.ref M.sz) (M.push (.lst ps))) (kQ K Q) w) (r : Reps K H β ps xs) {p : Addr} (hp : H p = none) : Q (.ref p) (upd H p (.lst xs)) :=
  h _ _ (stp_push R hp r) _ (rep_ref.mpr ⟨p, rfl, push_at R⟩)
theorem Out.put {n : Nat} {a : Addr} {xs0 xs : List PV} {ys0 ys : List V} {e : Nat} {α : Type} {r : α} {k : α → List Addr → Mem → Hp → Prop} (R : RelH K β M H) (h : Out K β M H (.ok r (M.put n (.lst xs) e)) k w) (hg : M.get n = some (.lst xs0)) (hb : β[n]? = some a) (hp : H a = some (.lst ys0)) (hr : Reps K H β xs ys)
    (hc : e = 0 → ∀ b, xs0.all (PV.bnd b) = true → xs.all (PV.bnd b) = true) : k r β (M.put n (.lst xs) e) (upd H a (.lst ys)) := h _ _ (stp_put R hg hb hp hr hc)
/-- the items of a list that is there -/
theorem RelH.list (R : RelH K β M H) {n : Nat} {xs : List PV} (h : M.lst? n = some xs) : ∃ a ys, β[n]? = some a ∧ SqL K H a ys ∧ Reps K H β xs ys := by
  unfold Mem.lst? at h
  split at h
  · rename_i ys e
    cases h
    obtain ⟨a, e1, ys, e2, e3⟩ := R.obj n _ e
    exact ⟨a, ys, e1, SqL.of e2, e3⟩
  · rename_i ys e
    cases h
    obtain ⟨a, e1, ys, e2, e3⟩ := R.obj n _ e
    exact ⟨a, ys, e1, e2.sq, e3⟩
  · cases h
theorem RelH.lst (R : RelH K β M H) {n : Nat} {xs : List PV} (h : M.get n = some (.lst xs)) : ∃ a ys, β[n]? = some a ∧ H a = some (.lst ys) ∧ Reps K H β xs ys := by
  obtain ⟨a, e1, ys, e2, e3⟩ := R.obj n _ h
  exact ⟨a, ys, e1, e2, e3⟩
theorem Rep.ref_of {n : Nat} {x : V} {a : Addr} (h : Rep K H β (.ref n) x) (e : β[n]? = some a) : x = .ref a := by
  obtain ⟨b, e1, e2⟩ := rep_ref.mp h
  rw [e] at e2; cases e2
  exact e1
end
end Mn
end
section
set_option Elab.async false
set_option linter.all false
set_option maxRecDepth 100000
set_option maxHeartbeats 4000000
namespace Mn
open PySem PySem.Spec PyProof.Rows L2

/-! ### plain data -/
theorem toDs_eq : ∀ xs : List PV, PV.toD.toDs xs = xs.map PV.toD
  | [] => by rw [PV.toD.toDs]; rfl
  | x :: xs => by rw [PV.toD.toDs, toDs_eq xs]; rfl
theorem toD_tup (xs : List PV) : (PV.tup xs).toD = .tuple (PV.toD.toDs xs) := by rw [PV.toD]
theorem dat_tup (xs : List PV) (d : Nat) : (PV.tup xs).dat d = (decide (0 < d) && PV.dat.dats xs d.pred) := by rw [PV.dat]; rfl
theorem dats_nil (d : Nat) : PV.dat.dats [] d = true := by rw [PV.dat.dats]
theorem dats_cons (x : PV) (xs : List PV) (d : Nat) : PV.dat.dats (x :: xs) d = (x.dat d && PV.dat.dats xs d) := by rw [PV.dat.dats]
theorem dats_eq (d : Nat) : ∀ xs : List PV, PV.dat.dats xs d = xs.all (fun x => x.dat d)
  | [] => dats_nil d
  | x :: xs => by rw [dats_cons, dats_eq d xs, List.all_cons]
theorem strOk_of {x : Str} (h : (x.cps.toList.all fun c => decide (c < 1114112)) = true) : PyData.strOk x = true := by
  unfold PyData.strOk
  rw [← Array.all_toList]
  exact h
mutual
theorem dat_can : ∀ (v : PV) (d : Nat), v.dat d = true → v.toD.canLay0 = true ∧ v.toD.depth ≤ d
  | .non, d, h => by rw [PV.toD]; exact ⟨by rw [PyData.canLay0], by rw [PyData.depth]; exact Nat.zero_le _⟩
  | .bl _, d, h => by rw [PV.toD]; exact ⟨by rw [PyData.canLay0], by rw [PyData.depth]; exact Nat.zero_le _⟩
  | .int _, d, h => by rw [PV.toD]; exact ⟨by rw [PyData.canLay0], by rw [PyData.depth]; exact Nat.zero_le _⟩
  | .str x, d, h => by
    rw [PV.toD]
    rw [PV.dat] at h
    exact ⟨by rw [PyData.canLay0]; exact strOk_of h, by rw [PyData.depth]; exact Nat.zero_le _⟩
  | .tup xs, d, h => by
    rw [toD_tup]
    rw [dat_tup, Bool.and_eq_true, decide_eq_true_eq] at h
    obtain ⟨h1, h2⟩ := dats_can xs _ h.2
    refine ⟨by rw [PyData.canLay0]; exact h1, ?_⟩
    rw [PyData.depth]
    have := Nat.succ_pred_eq_of_pos h.1
    omega
  | .ref _, d, h => by rw [PV.dat] at h; cases h
theorem dats_can : ∀ (vs : List PV) (d : Nat), PV.dat.dats vs d = true → PyData.canLayAll0 (PV.toD.toDs vs) = true ∧ PyData.depthAll (PV.toD.toDs vs) ≤ d
  | [], d, h => by rw [PV.toD.toDs]; exact ⟨by rw [PyData.canLayAll0], by rw [PyData.depthAll]; exact Nat.zero_le _⟩
  | v :: vs, d, h => by
    rw [dats_cons, Bool.and_eq_true] at h
    obtain ⟨h1, h2⟩ := dat_can v d h.1
    obtain ⟨h3, h4⟩ := dats_can vs d h.2
    rw [PV.toD.toDs]
    refine ⟨by rw [PyData.canLayAll0, h1, h3]; rfl, ?_⟩
    rw [PyData.depthAll]
    exact Nat.max_le.mpr ⟨h2, h4⟩
end
section
variable {K : PySem.W.Frag} {β : List Addr} {M : Mem} {H : Hp}
mutual
theorem dat_dp : ∀ (v : PV) (d : Nat) (x : V), v.dat d = true → Rep K H β v x → Dp K H x v.toD
  | .non, d, x, h, r => by rw [rep_non.mp r, PV.toD]; exact .non
  | .bl _, d, x, h, r => by rw [rep_bl.mp r, PV.toD]; exact .bl _
  | .int _, d, x, h, r => by rw [rep_int.mp r, PV.toD]; exact .int _
  | .str _, d, x, h, r => by rw [rep_str.mp r, PV.toD]; exact .str _
  | .tup xs, d, x, h, r => by
    obtain ⟨a, ys, rfl, ht, rs⟩ := rep_tup.mp r
    rw [dat_tup, Bool.and_eq_true] at h
    rw [toD_tup]
    exact .tup ht.sq (dats_dp xs _ ys h.2 rs)
  | .ref _, d, x, h, r => by rw [PV.dat] at h; cases h
theorem dats_dp : ∀ (vs : List PV) (d : Nat) (xs : List V), PV.dat.dats vs d = true → Reps K H β vs xs → DpAll K H xs (PV.toD.toDs vs)
  | [], d, xs, h, r => by rw [reps_nil.mp r, PV.toD.toDs]; exact .nil
  | v :: vs, d, xs, h, r => by
    obtain ⟨x, t, rfl, r1, r2⟩ := reps_cons.mp r
    rw [dats_cons, Bool.and_eq_true] at h
    rw [PV.toD.toDs]
    exact .cons (dat_dp v d x h.1 r1) (dats_dp vs d t h.2 r2)
end
end
mutual
theorem eqv_toD : ∀ (v u : PV) (d e : Nat), v.dat d = true → u.dat e = true → PyData.eqv v.toD u.toD = v.eqv u
  | .ref _, u, d, e, h, g => by rw [PV.dat] at h; cases h
  | v, .ref _, d, e, h, g => by rw [PV.dat] at g; cases g
  | .tup xs, .tup ys, d, e, h, g => by
    rw [dat_tup, Bool.and_eq_true] at h g
    rw [toD_tup, toD_tup, PyData.eqv, PV.eqv]
    exact eqvs_toD xs ys _ _ h.2 g.2
  | .tup xs, .non, d, e, h, g => by rw [toD_tup]; simp [PV.toD, PyData.eqv, PV.eqv]
  | .tup xs, .bl _, d, e, h, g => by rw [toD_tup]; simp [PV.toD, PyData.eqv, PV.eqv]
  | .tup xs, .int _, d, e, h, g => by rw [toD_tup]; simp [PV.toD, PyData.eqv, PV.eqv]
  | .tup xs, .str _, d, e, h, g => by rw [toD_tup]; simp [PV.toD, PyData.eqv, PV.eqv]
  | .non, .tup xs, d, e, h, g => by rw [toD_tup]; simp [PV.toD, PyData.eqv, PV.eqv]
  | .bl _, .tup xs, d, e, h, g => by rw [toD_tup]; simp [PV.toD, PyData.eqv, PV.eqv]
  | .int _, .tup xs, d, e, h, g => by rw [toD_tup]; simp [PV.toD, PyData.eqv, PV.eqv]
  | .str _, .tup xs, d, e, h, g => by rw [toD_tup]; simp [PV.toD, PyData.eqv, PV.eqv]
  | .non, .non, d, e, h, g => by simp [PV.toD, PyData.eqv, PV.eqv]
  | .non, .bl _, d, e, h, g => by simp [PV.toD, PyData.eqv, PV.eqv]
  | .non, .int _, d, e, h, g => by simp [PV.toD, PyData.eqv, PV.eqv]
  | .non, .str _, d, e, h, g => by simp [PV.toD, PyData.eqv, PV.eqv]
  | .bl _, .non, d, e, h, g => by simp [PV.toD, PyData.eqv, PV.eqv]
  | .bl _, .bl _, d, e, h, g => by simp [PV.toD, PyData.eqv, PV.eqv]
  | .bl _, .int _, d, e, h, g => by simp [PV.toD, PyData.eqv, PV.eqv]
  | .bl _, .str _, d, e, h, g => by simp [PV.toD, PyData.eqv, PV.eqv]
  | .int _, .non, d, e, h, g => by simp [PV.toD, PyData.eqv, PV.eqv]
  | .int _, .bl _, d, e, h, g => by simp [PV.toD, PyData.eqv, PV.eqv]
  | .int _, .int _, d, e, h, g => by simp [PV.toD, PyData.eqv, PV.eqv]
  | .int _, .str _, d, e, h, g => by simp [PV.toD, PyData.eqv, PV.eqv]
  | .str _, .non, d, e, h, g => by simp [PV.toD, PyData.eqv, PV.eqv]
  | .str _, .bl _, d, e, h, g => by simp [PV.toD, PyData.eqv, PV.eqv]
  | .str _, .int _, d, e, h, g => by simp [PV.toD, PyData.eqv, PV.eqv]
  | .str _, .str _, d, e, h, g => by simp [PV.toD, PyData.eqv, PV.eqv]
theorem eqvs_toD : ∀ (vs us : List PV) (d e : Nat), PV.dat.dats vs d = true → PV.dat.dats us e = true → PyData.eqvAll (PV.toD.toDs vs) (PV.toD.toDs us) = PV.eqv.eqvs vs us
  | [], [], d, e, h, g => by rw [PV.toD.toDs, PyData.eqvAll, PV.eqv.eqvs]
  | [], u :: us, d, e, h, g => by rw [PV.toD.toDs, PV.toD.toDs, PyData.eqvAll]; simp [PV.eqv.eqvs]
  | v :: vs, [], d, e, h, g => by rw [PV.toD.toDs, PV.toD.toDs, PyData.eqvAll]; simp [PV.eqv.eqvs]
  | v :: vs, u :: us, d, e, h, g => by
    rw [dats_cons, Bool.and_eq_true] at h g
    rw [PV.toD.toDs, PV.toD.toDs, PyData.eqvAll, PV.eqv.eqvs, eqv_toD v u d e h.1 g.1, eqvs_toD vs us d e h.2 g.2]
end
theorem shaped_of {v : PV} (h : shallow v = true) : SeqAt.shaped v.toD = true := by
  obtain ⟨h1, h2⟩ := dat_can v 60 h
  unfold SeqAt.shaped
  rw [h1, decide_eq_true (by omega)]
  rfl
theorem shallows {xs : List PV} (h : xs.all shallow = true) : PV.dat.dats xs 60 = true := by rw [dats_eq]; exact h
theorem shaped_list {xs : List PV} (h : xs.all shallow = true) : SeqAt.shaped (.list (PV.toD.toDs xs)) = true := by
  obtain ⟨h1, h2⟩ := dats_can xs 60 (shallows h)
  unfold SeqAt.shaped
  rw [PyData.canLay0, h1, PyData.depth, decide_eq_true (by omega)]
  rfl
theorem shaped_tup {xs : List PV} (h : xs.all shallow = true) : SeqAt.shaped (.tuple (PV.toD.toDs xs)) = true := by
  obtain ⟨h1, h2⟩ := dats_can xs 60 (shallows h)
  unfold SeqAt.shaped
  rw [PyData.canLay0, h1, PyData.depth, decide_eq_true (by omega)]
  rfl
section
variable {K : PySem.W.Frag} {β : List Addr} {M : Mem} {H : Hp}
theorem shal_dp {v : PV} {x : V} (h : shallow v = true) (r : Rep K H β v x) : Dp K H x v.toD := dat_dp v 60 x h r
/-- the data of the two sides, and what == says -/
theorem eqM_data (R : RelH K β M H) {v u : PV} {x y : V} {b : Bool} (h : eqM v u M = some b) (rv : Rep K H β v x) (ru : Rep K H β u y) :
    ∃ d e, Dp K H x d ∧ Dp K H y e ∧ SeqAt.shaped d = true ∧ SeqAt.shaped e = true ∧ PyData.eqv d e = b := by
  have lst : ∀ {n : Nat} {xs : List PV} {z : V}, M.lst? n = some xs → xs.all shallow = true → Rep K H β (.ref n) z → Dp K H z (.list (PV.toD.toDs xs)) := fun {n xs z} h1 h2 h3 => by
    obtain ⟨a, ys, e1, e2, e3⟩ := R.list h1
    rw [h3.ref_of e1]
    exact .lst e2 (dats_dp xs 60 ys (shallows h2) e3)
  have flat : ∀ {v u : PV}, (∀ n, v ≠ .ref n) → (∀ n, u ≠ .ref n) → eqM v u M = some b → Rep K H β v x → Rep K H β u y → ∃ d e, Dp K H x d ∧ Dp K H y e ∧ SeqAt.shaped d = true ∧ SeqAt.shaped e = true ∧ PyData.eqv d e = b := fun {v u} n1 n2 h rv ru => by
    have h' : (if shallow v && shallow u then some (v.eqv u) else none) = some b := by
      rw [← h]
      cases v <;> cases u <;> first | rfl | exact absurd rfl (n1 _) | exact absurd rfl (n2 _)
    split at h'
    · rename_i hc
      rw [Bool.and_eq_true] at hc
      cases h'
      exact ⟨_, _, shal_dp hc.1 rv, shal_dp hc.2 ru, shaped_of hc.1, shaped_of hc.2, eqv_toD v u 60 60 hc.1 hc.2⟩
    · cases h'
  have left : ∀ {n : Nat} {u : PV}, (∀ n, u ≠ .ref n) → eqM (.ref n) u M = some b → Rep K H β (.ref n) x → Rep K H β u y → ∃ d e, Dp K H x d ∧ Dp K H y e ∧ SeqAt.shaped d = true ∧ SeqAt.shaped e = true ∧ PyData.eqv d e = b := fun {n u} n2 h rv ru => by
    have h' : (match M.lst? n with | some xs => if xs.all shallow && shallow u then some false else none | none => none) = some b := by
      rw [← h]
      cases u <;> first | rfl | exact absurd rfl (n2 _)
    split at h'
    · rename_i xs e
      split at h'
      · rename_i hc
        rw [Bool.and_eq_true] at hc
        cases h'
        refine ⟨_, _, lst e hc.1 rv, shal_dp hc.2 ru, shaped_list hc.1, shaped_of hc.2, ?_⟩
        cases u with
        | tup ys => rw [toD_tup, PyData.eqv]
        | ref n => exact absurd rfl (n2 n)
        | _ => simp [PV.toD, PyData.eqv]
      · cases h'
    · cases h'
  cases v with
  | ref n =>
    cases u with
    | ref m =>
      have h' : (match M.lst? n, M.lst? m with | some xs, some ys => if xs.all shallow && ys.all shallow then some (PV.eqv.eqvs xs ys) else none | _, _ => none) = some b := h
      split at h'
      · rename_i xs ys e1 e2
        split at h'
        · rename_i hc
          rw [Bool.and_eq_true] at hc
          cases h'
          refine ⟨_, _, lst e1 hc.1 rv, lst e2 hc.2 ru, shaped_list hc.1, shaped_list hc.2, ?_⟩
          rw [PyData.eqv]
          exact eqvs_toD xs ys 60 60 (shallows hc.1) (shallows hc.2)
        · cases h'
      · cases h'
    | _ => exact left (fun n e => by cases e) h rv ru
  | _ =>
    cases u with
    | ref m =>
      have h' : ∀ v : PV, (∀ n, v ≠ .ref n) → eqM v (.ref m) M = some b → Rep K H β v x → ∃ d e, Dp K H x d ∧ Dp K H y e ∧ SeqAt.shaped d = true ∧ SeqAt.shaped e = true ∧ PyData.eqv d e = b := fun v n1 h rv => by
        have h' : (match M.lst? m with | some ys => if ys.all shallow && shallow v then some false else none | none => none) = some b := by
          rw [← h]
          cases v <;> first | rfl | exact absurd rfl (n1 _)
        split at h'
        · rename_i xs e
          split at h'
          · rename_i hc
            rw [Bool.and_eq_true] at hc
            cases h'
            refine ⟨_, _, shal_dp hc.2 rv, lst e hc.1 ru, shaped_of hc.2, shaped_list hc.1, ?_⟩
            cases v with
            | tup ys => rw [toD_tup, PyData.eqv]
            | ref n => exact absurd rfl (n1 n)
            | _ => simp [PV.toD, PyData.eqv]
          · cases h'
        · cases h'
      exact h' _ (fun n e => by cases e) h rv
    | _ => exact flat (fun n e => by cases e) (fun n e => by cases e) h rv ru
end
end Mn
end
section
set_option Elab.async false
set_option linter.all false
set_option maxRecDepth 100000
set_option maxHeartbeats 4000000
namespace Mn
open PySem PySem.Spec PyProof.Rows L2

/-! ### operations, by values -/
def rM (K : PySem.W.Frag) (f : PV → PV → Mem → Res PV) : R2 := fun x y H Q => ∃ v u β M w, RelH K β M H ∧ Rep K H β v x ∧ Rep K H β u y ∧ Out K β M H (f v u M) (kQ K Q) w
theorem LIM_eq : LIM = sizeLine := by rw [sizeLine_eq]; rfl

section
variable {X : Cx} {pins : List (Addr × Obj)} {σ : L2.St} {H : Hp} {s : Shared}
def tupObj (us : List Value) : Obj := { cls := .type "tuple", data := .seq us.toArray }
/-- a new tuple is laid -/
theorem newTup {xs : List V} {us : List Value} (I : Inv X pins σ H s) (r : Vals xs us) (hz : xs.length ≤ sizeLine) :
    Inv X pins σ (upd H s.heap.objs.size (.frz (tupObj us) (.tup xs))) { s with heap := s.heap.push (tupObj us) } :=
  I.laid (t' := s.toks) (fun _ _ e => Heap.get?_push_of_some _ e) (Nat.le_refl _) ⟨Heap.get?_push_size _ rfl, hz, us, r, IsTup.new _ _⟩
theorem op_addM : OpR X (binaryOp .Add) (rM X.K (binM .Add)) := by
  intro pins s σ H x y xv yv Q I rx ry h
  obtain ⟨v, u, β, M, w, R, hv, hu, o⟩ := h
  cases v with
  | int i =>
    cases u with
    | int j =>
      rw [rep_int] at hv hu; subst hv hu
      exact op_add pins s σ H _ _ _ _ Q I rx ry ⟨i, j, rfl, rfl, o.flat R (rep_int.mpr rfl)⟩
    | _ => exact o.elim
  | str i =>
    cases u with
    | str j =>
      rw [rep_str] at hv hu; subst hv hu
      simp only [binM] at o
      split at o
      · rename_i hz
        exact op_add_str pins s σ H _ _ _ _ Q I rx ry ⟨i, j, rfl, rfl, by rw [← LIM_eq]; exact hz, o.flat R (rep_str.mpr rfl)⟩
      · exact o.elim
    | _ => exact o.elim
  | tup ps =>
    cases u with
    | tup qs =>
      obtain ⟨a, xs, rfl, ta, ra⟩ := rep_tup.mp hv
      obtain ⟨b, ys, rfl, tb, rb⟩ := rep_tup.mp hu
      simp only [binM] at o
      split at o
      · rename_i hz
        rw [LIM_eq, ra.length, rb.length] at hz
        cases rx
        cases ry
        obtain ⟨its, r1, p1, _⟩ := I.tuple ta.sq
        obtain ⟨its2, r2, p2, _⟩ := I.tuple tb.sq
        by_cases hx : xs = []
        · subst hx
          cases r1
          have e0 : ps = [] := List.eq_nil_of_length_eq_zero ra.length
          subst e0
          exact cat_tup0 p1 p2 ⟨.ref b, H, I, rfl, o.flat R (rep_tup.mpr ⟨b, ys, rfl, tb, rb⟩)⟩
        · refine HT.cat_tup p1 p2 (fun z => hx (r1.nil_iff.mp z)) (fun z => ?_) (fun z => ?_) (by rw [← r1.length, ← r2.length]; exact hz)
          · have e1 := r2.nil_iff.mp z
            subst e1
            have e0 : qs = [] := List.eq_nil_of_length_eq_zero rb.length
            subst e0
            rw [List.append_nil] at o
            exact ⟨.ref a, H, I, rfl, o.flat R (rep_tup.mpr ⟨a, xs, rfl, ta, ra⟩)⟩
          · exact ⟨.ref s.heap.objs.size, _, newTup I (r1.append r2) (by rw [List.length_append]; exact hz), rfl, o.tup R (ra.append rb) (I.hok.fresh (Nat.le_refl _)) rfl⟩
      · exact o.elim
    | _ => exact o.elim
  | ref n =>
    cases u with
    | ref m =>
      simp only [binM] at o
      split at o
      · rename_i xs ys e1 e2
        split at o
        · rename_i hz
          obtain ⟨a, zs, b1, h1, r1⟩ := R.lst e1
          obtain ⟨b, ws, b2, h2, r2⟩ := R.lst e2
          rw [hv.ref_of b1] at rx
          rw [hu.ref_of b2] at ry
          exact op_cat pins s σ H _ _ _ _ Q I rx ry ⟨a, b, zs, ws, rfl, rfl, h1, h2, by rw [← LIM_eq, ← r1.length, ← r2.length]; exact hz, fun p hp => o.lst R (r1.append r2) hp⟩
        · exact o.elim
      · exact o.elim
    | _ => exact o.elim
  | _ => exact o.elim
theorem op_int {op : Operator} {C : Int → Int → Prop} {g : Int → Int → Int} (ho : OpR X (binaryOp op) (rI C fun i j => .int (g i j)))
    (hs : ∀ v u M, (∀ i j, v = .int i → u = .int j → False) → binM op v u M = .stuck) (hi : ∀ i j M, (C i j ∧ binM op (.int i) (.int j) M = .ok (.int (g i j)) M) ∨ binM op (.int i) (.int j) M = .stuck) : OpR X (binaryOp op) (rM X.K (binM op)) := by
  intro pins s σ H x y xv yv Q I rx ry h
  obtain ⟨v, u, β, M, w, R, hv, hu, o⟩ := h
  by_cases hc : ∀ i j, v = .int i → u = .int j → False
  · rw [hs v u M hc] at o; exact o.elim
  · have : ∃ i j, v = .int i ∧ u = .int j := by
      cases v with
      | int i =>
        cases u with
        | int j => exact ⟨i, j, rfl, rfl⟩
        | _ => exact absurd (fun i j _ e => by cases e) hc
      | _ => exact absurd (fun i j e _ => by cases e) hc
    obtain ⟨i, j, rfl, rfl⟩ := this
    rw [rep_int] at hv hu; subst hv hu
    rcases hi i j M with ⟨c, e⟩ | e
    · rw [e] at o
      exact ho pins s σ H _ _ _ _ Q I rx ry ⟨i, j, rfl, rfl, c, o.flat R (rep_int.mpr rfl)⟩
    · rw [e] at o; exact o.elim
theorem op_subM : OpR X (binaryOp .Sub) (rM X.K (binM .Sub)) := by
  refine op_int (C := fun _ _ => True) (g := fun i j => i - j) ?_ (fun v u M h => ?_) fun i j M => .inl ⟨trivial, rfl⟩
  · intro pins s σ H x y xv yv Q I rx ry h
    obtain ⟨i, j, e1, e2, _, q⟩ := h
    exact op_sub pins s σ H x y xv yv Q I rx ry ⟨i, j, e1, e2, q⟩
  · cases v <;> cases u <;> first | rfl | exact (h _ _ rfl rfl).elim
/-- a tuple so many times, told with its object -/
theorem tupMul : OpR X (binaryOp .Mult) (fun x y H Q => ∃ l k xs, x = .ref l ∧ y = .int k ∧ SqT X.K H l xs ∧ xs ≠ [] ∧ 2 ≤ k ∧ k ≤ 1000 ∧ xs.length ≤ 1000 ∧ ∀ p us, H p = none → Q (.ref p) (upd H p (.frz (tupObj us) (.tup (List.replicate k.toNat xs).flatten)))) := by
  intro pins s σ H x y v u Q I rx ry h
  obtain ⟨l, k, xs, rfl, rfl, hT, hne, h1, h2, hz, q⟩ := h
  cases rx
  obtain ⟨t, rfl⟩ := ry
  obtain ⟨its, r, ⟨⟨cls, dd, data, sl⟩, ho, hcl, n, hda⟩, hsz⟩ := I.tuple hT
  simp only at hcl hda
  subst hcl hda
  have hle : its.length = xs.length := r.length.symm
  obtain ⟨i0, its', rfl⟩ : ∃ i0 its', its = i0 :: its' := by
    cases its with
    | nil => exact absurd (List.eq_nil_of_length_eq_zero hle.symm) hne
    | cons i0 its' => exact ⟨i0, its', rfl⟩
  generalize hI : i0 :: its' = its at *
  have hi : its.toArray.isEmpty = false := by rw [← hI]; rfl
  have zs : its.toArray.size = xs.length := by rw [List.size_toArray, hle]
  have hm : ((its.toArray.size : Nat) : Int) * k ≤ 1000000 := by
    rw [zs]; exact Int.le_trans (Int.mul_le_mul_of_nonneg_right (c := k) (show ((xs.length : Nat) : Int) ≤ 1000 by omega) (by omega)) (by omega)
  have mul6 : k.toNat * xs.length ≤ 1000 * 1000 := Nat.mul_le_mul (by omega) hz
  have fl : (List.replicate k.toNat its).flatten.length ≤ sizeLine := by rw [PyProof.Rows.lm_len_rep_flat, hle, sizeLine_eq]; omega
  have c0 : (decide (k < -(2 ^ 63)) || decide (k ≥ 2 ^ 63)) = false := by simp only [Bool.or_eq_false_iff, decide_eq_false_iff_not]; omega
  have c1 : (its.toArray.isEmpty || k == 1) = false := by rw [hi]; simp; omega
  have c2 : (decide (k ≤ 0) || its.toArray.isEmpty) = false := by rw [hi]; simp; omega
  have c4 : Builtin.Tuple.tupleTooMany (((its.toArray.size : Nat) : Int) * k) = false := by unfold Builtin.Tuple.tupleTooMany; rw [sizeLine_eq]; simp only [decide_eq_false_iff_not]; omega
  have m1 := tuple_mulW l its.toArray n dd sl k t c0 c1 c2 (by omega) c4 (by rw [size_rep, List.size_toArray]; exact fl)
  have ty : s.TypeIs (.ref l) "tuple" := ⟨_, ho, rfl⟩
  refine wpAny_binaryOp_repeat_ref (T := "tuple") (U := "int") (by decide) ty (fun s' => typeIs_int s' k t) noFill_tuple_mul F.fills_int_mul F.slot_int_rmul repeat_tuple F.slot_int_index.lookup ?_
  refine call_meets F.slot_int_rmul (typeIs_int s k t) F.entry_int_rmul (F.args_int_rmul_2 _ _) (int_rmul_tuple k t l its.toArray n dd sl) ⟨ho, rfl, ty, ?_⟩
  refine call_meets F.slot_tuple_mul ty F.entry_tuple_mul (F.args_tuple_mul_2 _ _) m1 ⟨ho, ?_⟩
  rw [size_rep]
  exact ⟨.ref s.heap.objs.size, _, newTup I (r.rep k.toNat) (by rw [PyProof.Rows.lm_len_rep_flat, sizeLine_eq]; omega), rfl, q _ _ (I.hok.fresh (Nat.le_refl _))⟩
theorem op_mulM : OpR X (binaryOp .Mult) (rM X.K (binM .Mult)) := by
  intro pins s σ H x y xv yv Q I rx ry h
  obtain ⟨v, u, β, M, w, R, hv, hu', o⟩ := h
  unfold binM at o
  split at o <;> try contradiction
  · rename_i i j _
    split at o
    · rename_i c
      unfold isMul at c
      simp only [Bool.or_eq_true, Bool.and_eq_true, decide_eq_true_eq] at c
      rw [rep_int.mp hv] at rx
      rw [rep_int.mp hu'] at ry
      exact op_mul pins s σ H _ _ xv yv Q I rx ry ⟨i, j, rfl, rfl, c, o.flat R (rep_int.mpr rfl)⟩
    · exact o.elim
  · rename_i n k _
    split at o
    · rename_i xs e
      split at o
      · rename_i c
        obtain ⟨p, ys, e1, e2, e3⟩ := R.lst e
        rw [hv.ref_of e1] at rx
        rw [rep_int.mp hu'] at ry
        refine op_rep pins s σ H _ _ xv yv Q I rx ry ⟨p, k, ys, rfl, rfl, e2, by omega, by omega, ?_, fun q hq => ?_⟩
        · rw [← e3.length, ← LIM_eq]; exact c.2.2
        · refine o.lst R ?_ hq
          induction k.toNat with
          | zero => exact reps_nil.mpr rfl
          | succ m ih => rw [List.replicate_succ, List.replicate_succ, List.flatten_cons, List.flatten_cons]; exact e3.append ih
      · exact o.elim
    · exact o.elim
  · rename_i xs k _
    split at o
    · rename_i c
      obtain ⟨p, ys, rfl, ht, rs⟩ := rep_tup.mp hv
      rw [rep_int.mp hu'] at ry
      refine tupMul pins s σ H _ _ xv yv Q I rx ry ⟨p, k, ys, rfl, rfl, ht.sq, ?_, c.1, c.2.1, by rw [← rs.length]; exact c.2.2.2, fun q us hq => ?_⟩
      · intro z
        subst z
        rw [List.eq_nil_of_length_eq_zero rs.length] at c
        exact absurd c.2.2.1 (by simp)
      · refine o.tup R ?_ hq rfl
        induction k.toNat with
        | zero => exact reps_nil.mpr rfl
        | succ m ih => rw [List.replicate_succ, List.replicate_succ, List.flatten_cons, List.flatten_cons]; exact rs.append ih
    · exact o.elim
theorem op_divM : OpR X (binaryOp .FloorDiv) (rM X.K (binM .FloorDiv)) := by
  refine op_int op_fdiv (fun v u M h => ?_) fun i j M => ?_
  · cases v <;> cases u <;> first | rfl | exact (h _ _ rfl rfl).elim
  · simp only [binM]
    by_cases c : 0 < j ∧ j < 1073741824
    · rw [if_pos c]; exact .inl ⟨c, rfl⟩
    · rw [if_neg c]; exact .inr rfl
theorem op_modM : OpR X (binaryOp .Mod) (rM X.K (binM .Mod)) := by
  refine op_int op_mod (fun v u M h => ?_) fun i j M => ?_
  · cases v <;> cases u <;> first | rfl | exact (h _ _ rfl rfl).elim
  · simp only [binM]
    by_cases c : 0 < j
    · rw [if_pos c]; exact .inl ⟨c, rfl⟩
    · rw [if_neg c]; exact .inr rfl
theorem op_powM : OpR X (binaryOp .Pow) (rM X.K (binM .Pow)) := by
  refine op_int op_pow (fun v u M h => ?_) fun i j M => ?_
  · cases v <;> cases u <;> first | rfl | exact (h _ _ rfl rfl).elim
  · simp only [binM]
    by_cases c : 0 ≤ j ∧ j ≤ 1000000 ∧ i.natAbs < 2 ^ 64
    · rw [if_pos c]; exact .inl ⟨c, rfl⟩
    · rw [if_neg c]; exact .inr rfl
theorem op_shlM : OpR X (binaryOp .LShift) (rM X.K (binM .LShift)) := by
  refine op_int op_shl (fun v u M h => ?_) fun i j M => ?_
  · cases v <;> cases u <;> first | rfl | exact (h _ _ rfl rfl).elim
  · simp only [binM]
    by_cases c : 0 ≤ j ∧ j ≤ 1000000 ∧ i.natAbs < 2 ^ 64
    · rw [if_pos c]; exact .inl ⟨c, rfl⟩
    · rw [if_neg c]; exact .inr rfl
theorem op_shrM : OpR X (binaryOp .RShift) (rM X.K (binM .RShift)) := by
  refine op_int op_shr (fun v u M h => ?_) fun i j M => ?_
  · cases v <;> cases u <;> first | rfl | exact (h _ _ rfl rfl).elim
  · simp only [binM]
    by_cases c : 0 ≤ j
    · rw [if_pos c]; exact .inl ⟨c, rfl⟩
    · rw [if_neg c]; exact .inr rfl
theorem op_andM_ : OpR X (binaryOp .BitAnd) (rM X.K (binM .BitAnd)) := by
  refine op_int (C := fun _ _ => True) (g := fun i j => Builtin.bitAnd i j) ?_ (fun v u M h => ?_) fun i j M => .inl ⟨trivial, rfl⟩
  · intro pins s σ H x y xv yv Q I rx ry h
    obtain ⟨i, j, e1, e2, _, q⟩ := h
    exact op_and pins s σ H x y xv yv Q I rx ry ⟨i, j, e1, e2, q⟩
  · cases v <;> cases u <;> first | rfl | exact (h _ _ rfl rfl).elim
theorem op_orM_ : OpR X (binaryOp .BitOr) (rM X.K (binM .BitOr)) := by
  refine op_int (C := fun _ _ => True) (g := fun i j => Builtin.bitOr i j) ?_ (fun v u M h => ?_) fun i j M => .inl ⟨trivial, rfl⟩
  · intro pins s σ H x y xv yv Q I rx ry h
    obtain ⟨i, j, e1, e2, _, q⟩ := h
    exact op_or pins s σ H x y xv yv Q I rx ry ⟨i, j, e1, e2, q⟩
  · cases v <;> cases u <;> first | rfl | exact (h _ _ rfl rfl).elim
theorem op_noneM {op : Operator} (h : ∀ v u M, binM op v u M = .stuck) : OpR X (binaryOp op) (rM X.K (binM op)) := by
  intro pins s σ H x y xv yv Q I rx ry q
  obtain ⟨v, u, β, M, w, R, hv, hu, o⟩ := q
  rw [h] at o
  exact o.elim
theorem op_binM (op : Operator) : OpR X (binaryOp op) (rM X.K (binM op)) := by
  cases op with
  | Add => exact op_addM
  | Sub => exact op_subM
  | Mult => exact op_mulM
  | FloorDiv => exact op_divM
  | Mod => exact op_modM
  | Pow => exact op_powM
  | LShift => exact op_shlM
  | RShift => exact op_shrM
  | BitAnd => exact op_andM_
  | BitOr => exact op_orM_
  | _ => exact op_noneM fun v u M => rfl

/-! ### comparisons -/
theorem op_eqM (hu : X.A.units + 65 < cLine) : OpR X (compareOp .Eq) (rM X.K (cmpM .Eq)) := by
  intro pins s σ H x y xv yv Q I rx ry h
  obtain ⟨v, u, β, M, w, R, hv, hu', o⟩ := h
  simp only [cmpM] at o
  split at o
  · rename_i b e
    obtain ⟨d, d', h1, h2, h3, h4, h5⟩ := eqM_data R e hv hu'
    exact op_eqD (by omega) pins s σ H x y xv yv Q I rx ry ⟨d, d', h1, h2, h3, h4, by rw [h5]; exact o.flat R (rep_bl.mpr rfl)⟩
  · exact o.elim
theorem op_neM (hu : X.A.units + 65 < cLine) : OpR X (compareOp .NotEq) (rM X.K (cmpM .NotEq)) := by
  intro pins s σ H x y xv yv Q I rx ry h
  obtain ⟨v, u, β, M, w, R, hv, hu', o⟩ := h
  simp only [cmpM] at o
  split at o
  · rename_i b e
    obtain ⟨d, d', h1, h2, h3, h4, h5⟩ := eqM_data R e hv hu'
    exact op_neD (by omega) pins s σ H x y xv yv Q I rx ry ⟨d, d', h1, h2, h3, h4, by rw [h5]; exact o.flat R (rep_bl.mpr rfl)⟩
  · exact o.elim
theorem any_toD {v : PV} (hv : shallow v = true) : ∀ {ys : List PV}, ys.all shallow = true → ((PV.toD.toDs ys).any fun z => PyData.eqv z v.toD) = ys.any fun y => y.eqv v
  | [], _ => by rw [PV.toD.toDs]; rfl
  | y :: ys, h => by
    rw [List.all_cons, Bool.and_eq_true] at h
    rw [PV.toD.toDs, List.any_cons, List.any_cons, eqv_toD y v 60 60 h.1 hv, any_toD hv h.2]
theorem inM_data {K : PySem.W.Frag} {β : List Addr} {M : Mem} (R : RelH K β M H) {v u : PV} {x y : V} {b : Bool} (h : inM v u M = some b) (rv : Rep K H β v x) (ru : Rep K H β u y) :
    ∃ d ds, Dp K H x d ∧ (Dp K H y (.list ds) ∨ Dp K H y (.tuple ds)) ∧ SeqAt.shaped d = true ∧ SeqAt.shaped (.list ds) = true ∧ (ds.any fun z => PyData.eqv z d) = b := by
  cases u with
  | tup ys =>
    simp only [inM] at h
    split at h
    · rename_i hc
      rw [Bool.and_eq_true] at hc
      cases h
      obtain ⟨a, zs, rfl, ht, rs⟩ := rep_tup.mp ru
      exact ⟨_, _, shal_dp hc.1 rv, .inr (.tup ht.sq (dats_dp ys 60 zs (shallows hc.2) rs)), shaped_of hc.1, shaped_list hc.2, any_toD hc.1 hc.2⟩
    · cases h
  | ref n =>
    simp only [inM] at h
    split at h
    · rename_i ys e
      split at h
      · rename_i hc
        rw [Bool.and_eq_true] at hc
        cases h
        obtain ⟨a, zs, e1, e2, e3⟩ := R.list e
        rw [ru.ref_of e1]
        exact ⟨_, _, shal_dp hc.1 rv, .inl (.lst e2 (dats_dp ys 60 zs (shallows hc.2) e3)), shaped_of hc.1, shaped_list hc.2, any_toD hc.1 hc.2⟩
      · cases h
    · cases h
  | _ => cases h
theorem room_in {d : PyData} {ds : List PyData} {A : Around} (sd : SeqAt.shaped d = true) (hu : A.units + 65 < cLine) : A.units + 1 + min (PyData.depthAll ds) d.depth < cLine := by
  have h1 := SeqAt.depth_of_shaped sd
  have h2 : min (PyData.depthAll ds) d.depth ≤ d.depth := Nat.min_le_right _ _
  omega
theorem canAll {ds : List PyData} (h : SeqAt.shaped (.list ds) = true) : PyData.canLayAll0 ds = true := SeqAt.canLay_of_shaped h
theorem op_inM (hu : X.A.units + 65 < cLine) : OpR X (compareOp .In) (rM X.K (cmpM .In)) := by
  intro pins s σ H x y xv yv Q I rx ry h
  obtain ⟨v, u, β, M, w, R, hv, hu', o⟩ := h
  simp only [cmpM] at o
  split at o
  · rename_i b e
    obtain ⟨d, ds, h1, h2, h3, h4, h5⟩ := inM_data R e hv hu'
    rw [← h5] at o
    obtain ⟨as, r1⟩ := Dp.reads I d x xv h1 rx
    rcases h2 with h2 | h2
    · obtain ⟨bs, r2⟩ := Dp.reads I _ y yv h2 ry
      exact SeqAt.in_list_reads r2 r1 (canAll h4) (SeqAt.canLay_of_shaped h3) (room_in h3 hu) ⟨.bl _, H, I, rfl, o.flat R (rep_bl.mpr rfl)⟩
    · obtain ⟨bs, r2⟩ := Dp.reads I _ y yv h2 ry
      exact SeqAt.in_tuple_reads r2 r1 (canAll h4) (SeqAt.canLay_of_shaped h3) (room_in h3 hu) ⟨.bl _, H, I, rfl, o.flat R (rep_bl.mpr rfl)⟩
  · exact o.elim
theorem op_notInM (hu : X.A.units + 65 < cLine) : OpR X (compareOp .NotIn) (rM X.K (cmpM .NotIn)) := by
  intro pins s σ H x y xv yv Q I rx ry h
  obtain ⟨v, u, β, M, w, R, hv, hu', o⟩ := h
  simp only [cmpM] at o
  split at o
  · rename_i b e
    obtain ⟨d, ds, h1, h2, h3, h4, h5⟩ := inM_data R e hv hu'
    rw [← h5] at o
    obtain ⟨as, r1⟩ := Dp.reads I d x xv h1 rx
    rcases h2 with h2 | h2
    · obtain ⟨bs, r2⟩ := Dp.reads I _ y yv h2 ry
      exact SeqAt.notIn_list_reads r2 r1 (canAll h4) (SeqAt.canLay_of_shaped h3) (room_in h3 hu) ⟨.bl _, H, I, rfl, o.flat R (rep_bl.mpr rfl)⟩
    · obtain ⟨bs, r2⟩ := Dp.reads I _ y yv h2 ry
      exact SeqAt.notIn_tuple_reads r2 r1 (canAll h4) (SeqAt.canLay_of_shaped h3) (room_in h3 hu) ⟨.bl _, H, I, rfl, o.flat R (rep_bl.mpr rfl)⟩
  · exact o.elim
theorem isNon_rep {K : PySem.W.Frag} {β : List Addr} {v : PV} {x : V} (h : Rep K H β v x) : decide (x = V.non) = isNon v := by
  cases v with
  | non => rw [rep_non.mp h]; rfl
  | bl b => rw [rep_bl.mp h]; rfl
  | int b => rw [rep_int.mp h]; rfl
  | str b => rw [rep_str.mp h]; rfl
  | tup b => obtain ⟨a, xs, rfl, _⟩ := rep_tup.mp h; rfl
  | ref b => obtain ⟨a, rfl, _⟩ := rep_ref.mp h; rfl
theorem op_isM : OpR X (compareOp .Is) (rM X.K (cmpM .Is)) := by
  intro pins s σ H x y xv yv Q I rx ry h
  obtain ⟨v, u, β, M, w, R, hv, hu', o⟩ := h
  cases u with
  | non =>
    have e := rep_non.mp hu'
    exact op_isN pins s σ H x y xv yv Q I rx ry ⟨e, by rw [isNon_rep hv]; exact o.flat R (rep_bl.mpr rfl)⟩
  | bl b =>
    cases v with
    | bl a => exact op_isBl pins s σ H x y xv yv Q I rx ry ⟨a, b, rep_bl.mp hv, rep_bl.mp hu', o.flat R (rep_bl.mpr rfl)⟩
    | _ => exact o.elim
  | _ => exact o.elim
theorem op_isNotM : OpR X (compareOp .IsNot) (rM X.K (cmpM .IsNot)) := by
  intro pins s σ H x y xv yv Q I rx ry h
  obtain ⟨v, u, β, M, w, R, hv, hu', o⟩ := h
  cases u with
  | non =>
    have e := rep_non.mp hu'
    exact op_notN pins s σ H x y xv yv Q I rx ry ⟨e, by rw [isNon_rep hv]; exact o.flat R (rep_bl.mpr rfl)⟩
  | bl b =>
    cases v with
    | bl a => exact op_notBl pins s σ H x y xv yv Q I rx ry ⟨a, b, rep_bl.mp hv, rep_bl.mp hu', o.flat R (rep_bl.mpr rfl)⟩
    | _ => exact o.elim
  | _ => exact o.elim
/-! ### order of data -/
mutual
theorem alk_toD : ∀ (v u : PV), v.alk u = true → PySem.W.alike v.toD u.toD = true
  | .int _, .int _, _ => by simp [PV.toD, PySem.W.alike]
  | .str _, .str _, _ => by simp [PV.toD, PySem.W.alike]
  | .tup xs, .tup ys, h => by
    rw [PV.alk] at h
    rw [toD_tup, toD_tup, PySem.W.alike]
    exact alks_toD xs ys h
  | .non, u, h => by simp [PV.alk] at h
  | .bl _, u, h => by simp [PV.alk] at h
  | .ref _, u, h => by simp [PV.alk] at h
  | .int _, .non, h | .int _, .bl _, h | .int _, .str _, h | .int _, .tup _, h | .int _, .ref _, h => by simp [PV.alk] at h
  | .str _, .non, h | .str _, .bl _, h | .str _, .int _, h | .str _, .tup _, h | .str _, .ref _, h => by simp [PV.alk] at h
  | .tup _, .non, h | .tup _, .bl _, h | .tup _, .str _, h | .tup _, .int _, h | .tup _, .ref _, h => by simp [PV.alk] at h
theorem alks_toD : ∀ (vs us : List PV), PV.alk.alks vs us = true → PySem.W.alikeAll (PV.toD.toDs vs) (PV.toD.toDs us) = true
  | [], us, _ => by rw [PV.toD.toDs]; simp [PySem.W.alikeAll]
  | v :: vs, [], _ => by simp [PV.toD.toDs, PySem.W.alikeAll]
  | v :: vs, u :: us, h => by
    rw [PV.alk.alks, Bool.and_eq_true] at h
    rw [PV.toD.toDs, PV.toD.toDs, PySem.W.alikeAll, alk_toD v u h.1, alks_toD vs us h.2]
    rfl
end
mutual
theorem lt_toD : ∀ (v u : PV) (d e : Nat), v.dat d = true → u.dat e = true → v.alk u = true → PySem.W.dataLt v.toD u.toD = v.lt u
  | .int _, .int _, d, e, _, _, _ => by simp [PV.toD, PySem.W.dataLt_int, PV.lt]
  | .str _, .str _, d, e, _, _, _ => by simp [PV.toD, PySem.W.dataLt_str, PV.lt]
  | .tup xs, .tup ys, d, e, h1, h2, h => by
    rw [PV.alk] at h
    rw [dat_tup, Bool.and_eq_true] at h1 h2
    rw [toD_tup, toD_tup, PySem.W.dataLt_tuple, PV.lt]
    exact lts_toD xs ys _ _ h1.2 h2.2 h
  | .non, u, _, _, _, _, h => by simp [PV.alk] at h
  | .bl _, u, _, _, _, _, h => by simp [PV.alk] at h
  | .ref _, u, _, _, _, _, h => by simp [PV.alk] at h
  | .int _, .non, _, _, _, _, h | .int _, .bl _, _, _, _, _, h | .int _, .str _, _, _, _, _, h | .int _, .tup _, _, _, _, _, h | .int _, .ref _, _, _, _, _, h => by simp [PV.alk] at h
  | .str _, .non, _, _, _, _, h | .str _, .bl _, _, _, _, _, h | .str _, .int _, _, _, _, _, h | .str _, .tup _, _, _, _, _, h | .str _, .ref _, _, _, _, _, h => by simp [PV.alk] at h
  | .tup _, .non, _, _, _, _, h | .tup _, .bl _, _, _, _, _, h | .tup _, .str _, _, _, _, _, h | .tup _, .int _, _, _, _, _, h | .tup _, .ref _, _, _, _, _, h => by simp [PV.alk] at h
theorem lts_toD : ∀ (vs us : List PV) (d e : Nat), PV.dat.dats vs d = true → PV.dat.dats us e = true → PV.alk.alks vs us = true → PyProof.Rows.lexLt itemOrd (PySem.W.keyToksAll (PV.toD.toDs vs)) (PySem.W.keyToksAll (PV.toD.toDs us)) = PV.lt.lts vs us
  | [], [], _, _, _, _, _ => by simp only [PV.toD.toDs, PySem.W.keyToksAll, PV.lt.lts]; decide +kernel
  | [], u :: us, _, _, _, _, _ => by
    simp only [PV.toD.toDs, PySem.W.keyToksAll, PV.lt.lts, List.isEmpty_cons]
    rw [PySem.W.lex_atom (by decide)]; decide +kernel
  | v :: vs, [], _, _, _, _, _ => by
    simp only [PV.toD.toDs, PySem.W.keyToksAll, PV.lt.lts]
    rw [PySem.W.lex_atom (by decide)]; decide +kernel
  | v :: vs, u :: us, d, e, h1, h2, h => by
    rw [PV.alk.alks, Bool.and_eq_true] at h
    rw [dats_cons, Bool.and_eq_true] at h1 h2
    have a := alk_toD v u h.1
    have q := eqv_toD v u d e h1.1 h2.1
    rw [PV.toD.toDs, PV.toD.toDs, PV.lt.lts]
    cases hq : v.eqv u with
    | true => rw [PySem.W.dataLt_all_yes a (q.trans hq)]; simpa using lts_toD vs us d e h1.2 h2.2 h.2
    | false => rw [PySem.W.dataLt_all_no a (q.trans hq)]; simpa using lt_toD v u d e h1.1 h2.1 h.1
end
theorem eqv_comm_ : ∀ (v u : PV), v.alk u = true → u.alk v = true := by
  intro v u h
  have key : ∀ n, ∀ v u : PV, sizeOf v < n → v.alk u = true → u.alk v = true := by
    intro n
    induction n with
    | zero => intro v u h; omega
    | succ n ih =>
      intro v u hs h
      cases v with
      | int i => cases u <;> simp [PV.alk] at h ⊢
      | str i => cases u <;> simp [PV.alk] at h ⊢
      | tup xs =>
        cases u with
        | tup ys =>
          rw [PV.alk] at h ⊢
          have : ∀ xs : List PV, (∀ x ∈ xs, sizeOf x < n) → ∀ ys, PV.alk.alks xs ys = true → PV.alk.alks ys xs = true := by
            intro xs
            induction xs with
            | nil => intro _ ys _; cases ys <;> simp [PV.alk.alks]
            | cons x xs ihx =>
              intro hx ys h
              cases ys with
              | nil => simp [PV.alk.alks]
              | cons y ys =>
                rw [PV.alk.alks, Bool.and_eq_true] at h ⊢
                exact ⟨ih x y (hx x List.mem_cons_self) h.1, ihx (fun z hz => hx z (List.mem_cons_of_mem _ hz)) ys h.2⟩
          refine this xs (fun x hx => ?_) ys h
          have := List.sizeOf_lt_of_mem hx
          simp at hs; omega
        | _ => simp [PV.alk] at h
      | _ => simp [PV.alk] at h
  exact key _ v u (Nat.lt_succ_self _) h
theorem alk_ne {v u : PV} (h : v.alk u = true) : v.toD ≠ .none := by
  cases v with
  | tup xs => rw [toD_tup]; exact fun e => by cases e
  | int i => simp [PV.toD]
  | str i => simp [PV.toD]
  | _ => simp [PV.alk] at h
theorem room_lt {v u : PV} {A : Around} (sv : shallow v = true) (hu : A.units + 65 < cLine) : A.units + min v.toD.depth u.toD.depth < cLine := by
  have := (dat_can v 60 sv).2
  omega
theorem op_cmpD {op : CmpOp} {g : Int → Int → Bool} {f : PV → PV → Bool} (hu : X.A.units + 65 < cLine) (ho : OpR X (compareOp op) (rI0 fun i j => .bl (g i j)))
    (hi : ∀ i j M, cmpM op (.int i) (.int j) M = .ok (.bl (g i j)) M)
    (hd : ∀ v u M, (∀ i j, v = .int i → u = .int j → False) → cmpM op v u M = if ltOk v u then .ok (.bl (f v u)) M else .stuck)
    (hr : ∀ {s : Shared} {a b : Value} {v u : PV} {as bs : List Addr} {Q : Value → Shared → Prop} {E : Value → Shared → Prop}, Reads s.heap a v.toD as → Reads s.heap b u.toD bs → ltOk v u = true → Q (.bool (f v u)) s → wpAny (model X.prog X.w) X.A (compareOp op a b) Q E s) :
    OpR X (compareOp op) (rM X.K (cmpM op)) := by
  intro pins s σ H x y xv yv Q I rx ry h
  obtain ⟨v, u, β, M, w, R, hv, hu, o⟩ := h
  by_cases hc : ∀ i j, v = .int i → u = .int j → False
  · rw [hd v u M hc] at o
    split at o
    · rename_i ok
      have ok' := ok
      unfold ltOk at ok'
      simp only [Bool.and_eq_true] at ok'
      obtain ⟨⟨_, s1⟩, s2⟩ := ok'
      obtain ⟨as, r1⟩ := Dp.reads I _ _ _ (dat_dp v 60 x s1 hv) rx
      obtain ⟨bs, r2⟩ := Dp.reads I _ _ _ (dat_dp u 60 y s2 hu) ry
      exact hr r1 r2 ok ⟨.bl _, H, I, rfl, o.flat R (rep_bl.mpr rfl)⟩
    · exact o.elim
  · have : ∃ i j, v = .int i ∧ u = .int j := by
      cases v with
      | int i =>
        cases u with
        | int j => exact ⟨i, j, rfl, rfl⟩
        | _ => exact absurd (fun i j _ e => by cases e) hc
      | _ => exact absurd (fun i j e _ => by cases e) hc
    obtain ⟨i, j, rfl, rfl⟩ := this
    rw [rep_int] at hv hu; subst hv hu
    rw [hi] at o
    exact ho pins s σ H _ _ _ _ Q I rx ry ⟨i, j, rfl, rfl, o.flat R (rep_bl.mpr rfl)⟩
theorem ltOk_of {v u : PV} (h : ltOk v u = true) : v.alk u = true ∧ shallow v = true ∧ shallow u = true := by
  unfold ltOk at h
  simp only [Bool.and_eq_true] at h
  exact ⟨h.1.1, h.1.2, h.2⟩
/-! a number and a list, compared -/
theorem unp_toD (p : Int × List PV) : (unp p).toD = .tuple [.int p.1, .tuple (PV.toD.toDs p.2)] := by
  unfold unp
  rw [toD_tup, PV.toD.toDs, PV.toD.toDs, PV.toD.toDs, PV.toD, toD_tup]
theorem pair_depth (i : Int) (xs : List PyData) : (PyData.tuple [.int i, .list xs]).depth = (PyData.tuple [.int i, .tuple xs]).depth := by
  simp [PyData.depth, PyData.depthAll]
theorem pair_lists (i j : Int) (xs ys : List PyData) (h : PySem.W.alike (.tuple [.int i, .tuple xs]) (.tuple [.int j, .tuple ys]) = true) :
    PySem.W.alike (.tuple [.int i, .list xs]) (.tuple [.int j, .list ys]) = true ∧ PySem.W.dataLt (.tuple [.int i, .list xs]) (.tuple [.int j, .list ys]) = PySem.W.dataLt (.tuple [.int i, .tuple xs]) (.tuple [.int j, .tuple ys]) := by
  simp only [PySem.W.alike, PySem.W.alikeAll, Bool.true_and, Bool.and_true] at h ⊢
  refine ⟨h, ?_⟩
  rw [PySem.W.dataLt_pair (by simp [PySem.W.alike]) (by simp only [PySem.W.alike]; exact h), PySem.W.dataLt_pair (by simp [PySem.W.alike]) (by simp only [PySem.W.alike]; exact h), PySem.W.dataLt_list, PySem.W.dataLt_tuple]
  have : PyData.eqv (.list xs) (.list ys) = PyData.eqv (.tuple xs) (.tuple ys) := by simp only [PyData.eqv]
  rw [this]
theorem dats_sh : ∀ (xs : List PV) (d : Nat), PV.dat.dats xs d = true → d ≤ 60 → ∀ (K : PySem.W.Frag) (H : Hp) (β : List Addr) (ys : List V), Reps K H β xs ys → DpAll K H ys (PV.toD.toDs xs) := fun xs d h _ K H β ys r => dats_dp xs d ys h r
theorem pr_dp {K : PySem.W.Frag} {β : List Addr} {M : Mem} (R : RelH K β M H) {v : PV} {p : Int × List PV} {x : V} (h : prL v M = some p) (hs : shallow (unp p) = true) (r : Rep K H β v x) : Dp K H x (.tuple [.int p.1, .list (PV.toD.toDs p.2)]) := by
  unfold prL at h
  split at h
  · rename_i i n
    obtain ⟨xs, e, rfl⟩ := Option.map_eq_some_iff.mp h
    obtain ⟨a, ys, rfl, ht, hr⟩ := rep_tup.mp r
    obtain ⟨y1, r1, rfl, h1, hr⟩ := reps_cons.mp hr
    obtain ⟨y2, r2, rfl, h2, hr⟩ := reps_cons.mp hr
    rw [reps_nil.mp hr, rep_int.mp h1] at ht
    obtain ⟨b, zs, e1, e2, e3⟩ := R.list e
    rw [h2.ref_of e1] at ht
    unfold shallow unp at hs
    rw [PV.dat, PV.dat.dats, PV.dat.dats, PV.dat.dats] at hs
    simp only [Bool.and_eq_true] at hs
    have h2 := hs.2.2.1
    rw [PV.dat] at h2
    simp only [Bool.and_eq_true] at h2
    exact .tup ht.sq (.cons (.int i) (.cons (.lst e2 (dats_dp xs _ zs h2.2 e3)) .nil))
  · cases h
theorem op_cmpM (hu : X.A.units + 65 < cLine) (op : CmpOp) : OpR X (compareOp op) (rM X.K (cmpM op)) := by
  cases op with
  | Eq => exact op_eqM hu
  | NotEq => exact op_neM hu
  | In => exact op_inM hu
  | NotIn => exact op_notInM hu
  | Is => exact op_isM
  | IsNot => exact op_isNotM
  | Lt =>
    intro pins s σ H x y xv yv Q I rx ry h
    obtain ⟨v, u, β, M, w, R, hv, hw, o⟩ := h
    by_cases hc : ∀ i j, v = .int i → u = .int j → False
    · have e : cmpM .Lt v u M = if ltOk v u then .ok (.bl (v.lt u)) M else ltPr v u M := by cases v <;> cases u <;> first | rfl | exact (hc _ _ rfl rfl).elim
      rw [e] at o
      split at o
      · rename_i ok
        obtain ⟨a1, s1, s2⟩ := ltOk_of ok
        obtain ⟨as, r1⟩ := Dp.reads I _ _ _ (dat_dp v 60 x s1 hv) rx
        obtain ⟨bs, r2⟩ := Dp.reads I _ _ _ (dat_dp u 60 y s2 hw) ry
        refine PySem.W.lt_data r1 r2 (alk_toD _ _ a1) (alk_ne a1) (room_lt s1 hu) ?_
        rw [lt_toD v u 60 60 s1 s2 a1]
        exact ⟨.bl _, H, I, rfl, o.flat R (rep_bl.mpr rfl)⟩
      · unfold ltPr at o
        split at o
        · rename_i p q e1 e2
          split at o
          · rename_i ok
            obtain ⟨a1, s1, s2⟩ := ltOk_of ok
            obtain ⟨as, r1⟩ := Dp.reads I _ _ _ (pr_dp R e1 s1 hv) rx
            obtain ⟨bs, r2⟩ := Dp.reads I _ _ _ (pr_dp R e2 s2 hw) ry
            have al := alk_toD _ _ a1
            have ro := room_lt (u := unp q) s1 hu
            have lt := lt_toD (unp p) (unp q) 60 60 s1 s2 a1
            rw [unp_toD, unp_toD] at al ro lt
            obtain ⟨al2, dl⟩ := pair_lists p.1 q.1 _ _ al
            refine PySem.W.lt_data r1 r2 al2 (by simp) (by rw [pair_depth, pair_depth]; exact ro) ?_
            rw [dl, lt]
            exact ⟨.bl _, H, I, rfl, o.flat R (rep_bl.mpr rfl)⟩
          · exact o.elim
        · exact o.elim
    · have : ∃ i j, v = .int i ∧ u = .int j := by
        cases v with
        | int i =>
          cases u with
          | int j => exact ⟨i, j, rfl, rfl⟩
          | _ => exact absurd (fun i j _ e => by cases e) hc
        | _ => exact absurd (fun i j e _ => by cases e) hc
      obtain ⟨i, j, rfl, rfl⟩ := this
      rw [rep_int] at hv hw; subst hv hw
      exact op_lt pins s σ H _ _ _ _ Q I rx ry ⟨i, j, rfl, rfl, o.flat R (rep_bl.mpr rfl)⟩
  | LtE =>
    refine op_cmpD (f := fun v u => !u.lt v) hu op_le (fun _ _ _ => rfl) (fun v u M h => by cases v <;> cases u <;> first | rfl | exact (h _ _ rfl rfl).elim) ?_
    intro s a b v u as bs Q E r1 r2 ok q
    obtain ⟨a1, s1, s2⟩ := ltOk_of ok
    refine PySem.W.le_data r1 r2 (alk_toD _ _ a1) (alk_ne a1) (room_lt s1 hu) ?_
    rw [lt_toD u v 60 60 s2 s1 (eqv_comm_ _ _ a1)]; exact q
  | Gt =>
    refine op_cmpD (f := fun v u => u.lt v) hu op_gt (fun _ _ _ => rfl) (fun v u M h => by cases v <;> cases u <;> first | rfl | exact (h _ _ rfl rfl).elim) ?_
    intro s a b v u as bs Q E r1 r2 ok q
    obtain ⟨a1, s1, s2⟩ := ltOk_of ok
    refine PySem.W.gt_data r1 r2 (alk_toD _ _ a1) (alk_ne a1) (room_lt s1 hu) ?_
    rw [lt_toD u v 60 60 s2 s1 (eqv_comm_ _ _ a1)]; exact q
  | GtE =>
    refine op_cmpD (f := fun v u => !v.lt u) hu op_ge (fun _ _ _ => rfl) (fun v u M h => by cases v <;> cases u <;> first | rfl | exact (h _ _ rfl rfl).elim) ?_
    intro s a b v u as bs Q E r1 r2 ok q
    obtain ⟨a1, s1, s2⟩ := ltOk_of ok
    refine PySem.W.ge_data r1 r2 (alk_toD _ _ a1) (alk_ne a1) (room_lt s1 hu) ?_
    rw [lt_toD v u 60 60 s1 s2 a1]; exact q

/-! ### truth -/
theorem truth_ok {K : PySem.W.Frag} {β : List Addr} {M : Mem} {γ : Type} {v : PV} {x : V} {f : Bool → Mem → Res γ} {k : γ → List Addr → Mem → Hp → Prop} {w : WM} (R : RelH K β M H) (r : Rep K H β v x) (h : Out K β M H ((truth v M).bind f) k w) :
    ∃ b, TruV K x H b ∧ Out K β M H (f b M) k w := by
  cases v with
  | non => rw [rep_non.mp r]; exact ⟨false, rfl, h⟩
  | bl b => rw [rep_bl.mp r]; exact ⟨b, rfl, h⟩
  | int i => rw [rep_int.mp r]; exact ⟨_, rfl, h⟩
  | str z =>
    rw [rep_str.mp r]
    simp only [truth] at h
    split at h
    · rename_i hz
      exact ⟨_, ⟨by rw [← LIM_eq]; exact hz, rfl⟩, h⟩
    · exact h.elim
  | tup xs =>
    obtain ⟨a, ys, rfl, ht, rs⟩ := rep_tup.mp r
    refine ⟨!xs.isEmpty, .inr (.inl ⟨ys, ht.sq, ?_⟩), h⟩
    cases xs with
    | nil => rw [reps_nil.mp rs]; rfl
    | cons p ps => obtain ⟨y, t, rfl, _⟩ := reps_cons.mp rs; rfl
  | ref n =>
    simp only [truth] at h
    split at h
    · rename_i xs e
      obtain ⟨a, ys, e1, e2, e3⟩ := R.list e
      rw [r.ref_of e1]
      refine ⟨!xs.isEmpty, .inl ⟨ys, e2, ?_⟩, h⟩
      cases xs with
      | nil => rw [reps_nil.mp e3]; rfl
      | cons p ps => obtain ⟨y, t, rfl, _⟩ := reps_cons.mp e3; rfl
    · exact h.elim

/-! ### places and slices -/
theorem ixOf_eq (n : Nat) (i : Int) : ixOf n i = ixN n i := by
  unfold ixOf ixN
  by_cases h : 0 ≤ i
  · rw [if_pos h, if_pos h]
  · rw [if_neg h, if_neg h]
    by_cases h2 : 0 ≤ i + n
    · rw [if_pos h2, if_pos (by omega)]
    · rw [if_neg h2, if_neg (by omega)]
theorem ix_okM : IxR X (rM X.K ixM) := by
  intro value slice pins s σ H x y xv yv Q I rx ry h hs
  obtain ⟨v, u, β, M, w, R, hv, hu, o⟩ := h
  have at_ : ∀ {xs : List PV} {ys : List V} {i : Int} {p : PV}, Reps X.K H β xs ys → (ixOf xs.length i).bind (fun j => xs[j]?) = some p → ∃ z, atI ys i = some z ∧ Rep X.K H β p z := fun {xs ys i p} r e => by
    rw [ixOf_eq, r.length] at e
    unfold atI
    cases q : ixN ys.length i with
    | none => rw [q] at e; cases e
    | some j =>
      rw [q] at e
      exact r.get e
  cases v with
  | tup ps =>
    cases u with
    | int i =>
      simp only [ixM] at o
      split at o
      · rename_i p e
        obtain ⟨a, xs, rfl, ht, rs⟩ := rep_tup.mp hv
        rw [rep_int] at hu; subst hu
        obtain ⟨z, e1, e2⟩ := at_ rs e
        exact ix_tup value slice pins s σ H _ _ _ _ Q I rx ry ⟨a, xs, i, z, rfl, rfl, ht.sq, e1, o.flat R e2⟩ hs
      · exact o.elim
    | _ => exact o.elim
  | ref n =>
    cases u with
    | int i =>
      simp only [ixM] at o
      split at o
      · rename_i xs e
        split at o
        · rename_i p e'
          obtain ⟨a, ys, b1, h1, r1⟩ := R.list e
          rw [hv.ref_of b1] at rx
          rw [rep_int] at hu; subst hu
          obtain ⟨z, e1, e2⟩ := at_ r1 e'
          exact ix_list value slice pins s σ H _ _ _ _ Q I rx ry ⟨a, ys, i, z, rfl, rfl, h1, e1, o.flat R e2⟩ hs
        · exact o.elim
      · exact o.elim
    | _ => exact o.elim
  | _ => exact o.elim
theorem sIx_eq (n d : Nat) (i : Option Int) : sIx n d i = HT.sIx n d i := by
  cases i with
  | none => rfl
  | some v =>
    show (if 0 ≤ v then Nat.min v.toNat n else (v + n).toNat) = (if v < 0 then (v + (n : Int)).toNat else min v.toNat n)
    by_cases h : 0 ≤ v
    · rw [if_pos h, if_neg (by omega)]
    · rw [if_neg h, if_pos (by omega)]
theorem Reps.cut {K : PySem.W.Frag} {β : List Addr} {xs : List PV} {ys : List V} (r : Reps K H β xs ys) (lo hi : Option Int) : Reps K H β (Mn.cut xs lo hi) (cutV ys lo hi) := by
  unfold Mn.cut cutV
  rw [sIx_eq, sIx_eq, r.length]
  exact (r.drop _).take _
def rSlM (K : PySem.W.Frag) : V → Option Int → Option Int → Hp → VK → Prop := fun x lo hi H Q => ∃ v β M w, RelH K β M H ∧ Rep K H β v x ∧ Out K β M H (slM v lo hi M) (kQ K Q) w
theorem sl_okM : SlR X (rSlM X.K) := by
  intro pins s σ H x v vl vu lo hi sl Q I rx hs pl pu h
  obtain ⟨pv, β, M, w, R, hv, o⟩ := h
  cases pv with
  | tup ps =>
    obtain ⟨a, xs, rfl, ht, rs⟩ := rep_tup.mp hv
    have o : Out X.K β M H (.ok (.tup (cut ps lo hi)) M) (kQ X.K Q) w := o
    cases rx
    obtain ⟨its, r, it, hz⟩ := I.tuple ht.sq
    have hlen : its.toArray.size = xs.length := by rw [List.size_toArray]; exact r.length.symm
    refine ⟨"tuple", _, PyProof.Rows.slot_tuple_getitem.lookup, it.typeIs, ?_⟩
    by_cases hw : HT.sIx xs.length 0 lo = 0 ∧ HT.sIx xs.length xs.length hi = xs.length
    · have e : cut ps lo hi = ps := by
        unfold cut
        rw [sIx_eq, sIx_eq, rs.length, hw.1, hw.2, ← rs.length]
        simp
      rw [e] at o
      exact getItem_tuple_whole it hs pl pu (by rw [hlen]; exact hw) ⟨.ref a, H, I, rfl, o.flat R hv⟩
    · refine HT.getItem_tuple_cut it hs pl pu (by rw [hlen]; exact hw) ?_ (by rw [hlen]; exact hz)
      rw [hlen]
      have rc := (r.drop (HT.sIx xs.length 0 lo)).take (HT.sIx xs.length xs.length hi - HT.sIx xs.length 0 lo)
      refine ⟨.ref s.heap.objs.size, _, newTup I rc (Nat.le_trans (cutV_length xs lo hi) hz), rfl, o.tup R (rs.cut lo hi) (I.hok.fresh (Nat.le_refl _)) rfl⟩
  | ref n =>
    simp only [slM] at o
    split at o
    · rename_i xs e
      obtain ⟨a, ys, b1, h1, r1⟩ := R.list e
      rw [hv.ref_of b1] at rx
      exact sl_list pins s σ H _ v vl vu lo hi sl Q I rx hs pl pu ⟨a, ys, rfl, h1, fun p hp => o.lst R (r1.cut lo hi) hp⟩
    · exact o.elim
  | _ => exact o.elim
/-- o[i] = v -/
def rSetM (K : PySem.W.Frag) : V → V → V → Hp → (Hp → Prop) → Prop := fun o i v H Q => ∃ po pi pv β M w, RelH K β M H ∧ Rep K H β po o ∧ Rep K H β pi i ∧ Rep K H β pv v ∧ Out K β M H (setM po pi pv M) (fun _ _ _ H' => Q H') w
theorem all_set {p : PV → Bool} {v : PV} (hv : p v = true) : ∀ {xs : List PV} (j : Nat), xs.all p = true → (xs.set j v).all p = true
  | [], _, _ => rfl
  | x :: xs, 0, h => by
    rw [List.all_cons, Bool.and_eq_true] at h
    rw [List.set_cons_zero, List.all_cons, hv, h.2]; rfl
  | x :: xs, j + 1, h => by
    rw [List.all_cons, Bool.and_eq_true] at h
    rw [List.set_cons_succ, List.all_cons, h.1, all_set hv j h.2]; rfl
theorem pure_bnd {v : PV} (h : v.pure = true) (b : Nat) : v.bnd b = true := bnd_mono (Nat.zero_le _) h
theorem set_okM : PSet X (rSetM X.K) := by
  intro pins s σ H o i v ov iv u Q I ro ri rv h
  obtain ⟨po, pi, pv, β, M, w, R, h1, h2, h3, out⟩ := h
  cases po with
  | ref n =>
    cases pi with
    | int k =>
      simp only [setM] at out
      split at out
      · rename_i xs e
        split at out
        · rename_i j ej
          obtain ⟨a, ys, b1, hl, rl⟩ := R.lst e
          rw [h1.ref_of b1] at ro
          rw [rep_int] at h2; subst h2
          rw [ixOf_eq, rl.length] at ej
          exact set_list pins s σ H _ _ v ov iv u Q I ro ri rv ⟨a, ys, k, j, rfl, rfl, hl, ej, out.put R e b1 hl (rl.set h3 j) fun he b hb => all_set (pure_bnd (by
            by_cases hp : pv.pure = true
            · exact hp
            · rw [if_neg hp] at he; cases he) b) j hb⟩
        · exact out.elim
      · exact out.elim
    | _ => exact out.elim
  | _ => exact out.elim
end
end Mn
end
section
set_option Elab.async false
set_option linter.all false
set_option maxRecDepth 100000
set_option maxHeartbeats 4000000
namespace Mn
open PySem PySem.Spec PyProof.Rows L2

def rC (K : PySem.W.Frag) (f : BF) : List V → Hp → VK → Prop := fun xs H Q => ∃ vs β M w, RelH K β M H ∧ Reps K H β vs xs ∧ Out K β M H (bcallM f vs M) (kQ K Q) w
def rMt (K : PySem.W.Frag) (m : MF) : V → List V → Hp → VK → Prop := fun x xs H Q => ∃ v vs β M w, RelH K β M H ∧ Rep K H β v x ∧ Reps K H β vs xs ∧ Out K β M H (methM m v vs M) (kQ K Q) w
section
variable {K : PySem.W.Frag} {β : List Addr} {H : Hp} {M : Mem}
theorem reps1 {v : PV} {xs : List V} (h : Reps K H β [v] xs) : ∃ x, xs = [x] ∧ Rep K H β v x := by
  obtain ⟨x, r, rfl, h1, h2⟩ := reps_cons.mp h
  exact ⟨x, by rw [reps_nil.mp h2], h1⟩
theorem reps2 {v u : PV} {xs : List V} (h : Reps K H β [v, u] xs) : ∃ x y, xs = [x, y] ∧ Rep K H β v x ∧ Rep K H β u y := by
  obtain ⟨x, r, rfl, h1, h2⟩ := reps_cons.mp h
  obtain ⟨y, rfl, h3⟩ := reps1 h2
  exact ⟨x, y, rfl, h1, h3⟩
/-- the items of a tuple or a list -/
theorem seq_rep (R : RelH K β M H) {v : PV} {x : V} {xs : List PV} (h : seq? v M = some xs) (r : Rep K H β v x) : ∃ a ys, x = .ref a ∧ (SqL K H a ys ∨ Tup K H a ys) ∧ Reps K H β xs ys := by
  cases v with
  | tup ps =>
    cases h
    obtain ⟨a, ys, rfl, ht, rs⟩ := rep_tup.mp r
    exact ⟨a, ys, rfl, .inr ht, rs⟩
  | ref n =>
    obtain ⟨a, ys, e1, e2, e3⟩ := R.list (show M.lst? n = some xs from h)
    exact ⟨a, ys, r.ref_of e1, .inl e2, e3⟩
  | _ => cases h
theorem bls_rep : ∀ {xs : List PV} {ys : List V} {bs : List Bool}, bls? xs = some bs → Reps K H β xs ys → ys = bs.map V.bl
  | [], ys, bs, h, r => by cases h; exact reps_nil.mp r
  | x :: xs, ys, bs, h, r => by
    cases x with
    | bl b =>
      obtain ⟨y, t, rfl, h1, h2⟩ := reps_cons.mp r
      simp only [bls?, Option.map_eq_some_iff] at h
      obtain ⟨cs, e, rfl⟩ := h
      rw [rep_bl.mp h1, bls_rep e h2]
      rfl
    | _ => cases h
theorem ints_rep : ∀ {xs : List PV} {ys : List V} {ns : List Int}, ints? xs = some ns → Reps K H β xs ys → ys = ns.map V.int
  | [], ys, bs, h, r => by cases h; exact reps_nil.mp r
  | x :: xs, ys, bs, h, r => by
    cases x with
    | int b =>
      obtain ⟨y, t, rfl, h1, h2⟩ := reps_cons.mp r
      simp only [ints?, Option.map_eq_some_iff] at h
      obtain ⟨cs, e, rfl⟩ := h
      rw [rep_int.mp h1, ints_rep e h2]
      rfl
    | _ => cases h
/-- a list's items by a look -/
theorem list_look {α : Type} (R : RelH K β M H) {n : Nat} {x : V} {f : List PV → Option α} {a : α} (h : (M.lst? n).bind f = some a) (r : Rep K H β (.ref n) x) : ∃ p xs ys, x = .ref p ∧ f xs = some a ∧ SqL K H p ys ∧ Reps K H β xs ys := by
  cases e : M.lst? n with
  | none => rw [e] at h; cases h
  | some xs =>
    rw [e] at h
    obtain ⟨p, ys, e1, e2, e3⟩ := R.list e
    exact ⟨p, xs, ys, r.ref_of e1, h, e2, e3⟩
end
section
variable {X : Cx}
theorem cb_len : CallR X (.builtin "len") (rC X.K .len) := by
  intro pins s σ H xs us Q I r h
  obtain ⟨vs, β, M, w, R, rs, o⟩ := h
  match vs, rs, o with
  | [], rs, o => exact o.elim
  | _ :: _ :: _, rs, o => exact o.elim
  | [v], rs, o =>
    obtain ⟨x, rfl, rx⟩ := reps1 rs
    have sq : ∀ {xs : List PV}, seq? v M = some xs → Out X.K β M H (.ok (.int xs.length) M) (kQ X.K Q) w → wpAny (model X.prog X.w) X.A (call (.builtin "len") us) (EP X pins σ Q) X.xe s := fun {xs} e o => by
      obtain ⟨a, ys, rfl, hq, rr⟩ := seq_rep R e rx
      refine call_len pins s σ H _ us Q I r ⟨.ref a, ys.length, rfl, ?_, by rw [← rr.length]; exact o.flat R (rep_int.mpr rfl)⟩
      rcases hq with hq | hq
      · exact .inl ⟨ys, hq, rfl⟩
      · exact .inr ⟨ys, hq.sq, rfl⟩
    cases v with
    | str z =>
      simp only [bcallM] at o
      split at o
      · rename_i hz
        rw [rep_str.mp rx] at r
        exact call_len pins s σ H _ us Q I r ⟨.str z, z.length, rfl, ⟨by rw [← LIM_eq]; exact hz, rfl⟩, o.flat R (rep_int.mpr rfl)⟩
      · exact o.elim
    | tup ps => exact sq rfl o
    | ref n =>
      simp only [bcallM] at o
      split at o
      · rename_i xs e
        exact sq e o
      · exact o.elim
    | _ => exact o.elim
/-- numbers, truths, as data -/
theorem reads_ints {h : Heap} : ∀ {ns : List Int} {us : List Value}, Vals (ns.map V.int) us → ReadsAll h us (ns.map PyData.int) []
  | [], us, r => by cases r; exact .nil
  | n :: ns, us, r => by
    cases r with
    | cons r1 r2 => obtain ⟨t, rfl⟩ := r1; exact .cons (.int n t) (reads_ints r2)
theorem reads_bls {h : Heap} : ∀ {ns : List Bool} {us : List Value}, Vals (ns.map V.bl) us → ReadsAll h us (ns.map PyData.bool) []
  | [], us, r => by cases r; exact .nil
  | n :: ns, us, r => by
    cases r with
    | cons r1 r2 => cases r1; exact .cons (.bool n) (reads_bls r2)
theorem plain_bls : ∀ bs : List Bool, PyData.plainAll (bs.map PyData.bool) = true
  | [] => rfl
  | b :: bs => by rw [List.map_cons, PyData.plainAll, plain_bls bs]; rfl
theorem fits_bls (bs : List Bool) : ∀ x ∈ bs.map PyData.bool, x.fits63 := fun x hx => by
  obtain ⟨b, _, rfl⟩ := List.mem_map.mp hx
  trivial
theorem alike_ints (ns : List Int) : PySem.W.AlikeAll (ns.map PyData.int) :=
  ⟨fun x hx y hy => by obtain ⟨i, _, rfl⟩ := List.mem_map.mp hx; obtain ⟨j, _, rfl⟩ := List.mem_map.mp hy; rfl, fun x hx => by obtain ⟨i, _, rfl⟩ := List.mem_map.mp hx; simp⟩
theorem depth_ints : ∀ ns : List Int, PyData.depthAll (ns.map PyData.int) = 0
  | [] => rfl
  | n :: ns => by rw [List.map_cons, PyData.depthAll, depth_ints ns]; rfl
theorem cb_all (hc : X.calm = true) : CallR X (.builtin "all") (rC X.K .all) := by
  intro pins s σ H xs us Q I r h
  obtain ⟨vs, β, M, w, R, rs, o⟩ := h
  unfold bcallM at o
  split at o <;> try contradiction
  rename_i n _ _
  split at o
  · rename_i bs e
    obtain ⟨x, rfl, rx⟩ := reps1 rs
    obtain ⟨p, ps, ys, rfl, e1, e2, e3⟩ := list_look R e rx
    rw [bls_rep e1 e3] at e2
    exact cr_all hc pins s σ H _ us Q I r ⟨p, bs, rfl, e2, o.flat R (rep_bl.mpr rfl)⟩
  · exact o.elim
  · rename_i ps _ _
    split at o
    · rename_i bs e
      obtain ⟨x, rfl, rx⟩ := reps1 rs
      obtain ⟨a, ys, rfl, ht, rr⟩ := rep_tup.mp rx
      rw [bls_rep e rr] at ht
      obtain ⟨its, rv, pl, hz⟩ := I.tuple ht.sq
      rw [Vals.ref1 r]
      refine PySem.W.all_tuple_data (I.ok.hd hc) pl (by simpa using reads_bls (h := s.heap) rv) (plain_bls bs) (fits_bls bs) fun h' tk hk => ?_
      have e5 : (bs.map PyData.bool).all PyData.truthy = bs.all id := by rw [List.all_map]; rfl
      rw [e5]
      exact ⟨.bl _, H, I.kept hk, rfl, o.flat R (rep_bl.mpr rfl)⟩
    · exact o.elim
theorem cb_any (hc : X.calm = true) : CallR X (.builtin "any") (rC X.K .any) := by
  intro pins s σ H xs us Q I r h
  obtain ⟨vs, β, M, w, R, rs, o⟩ := h
  unfold bcallM at o
  split at o <;> try contradiction
  rename_i n _ _
  split at o
  · rename_i bs e
    obtain ⟨x, rfl, rx⟩ := reps1 rs
    obtain ⟨p, ps, ys, rfl, e1, e2, e3⟩ := list_look R e rx
    rw [bls_rep e1 e3] at e2
    exact cr_any hc pins s σ H _ us Q I r ⟨p, bs, rfl, e2, o.flat R (rep_bl.mpr rfl)⟩
  · exact o.elim
  · rename_i ps _ _
    split at o
    · rename_i bs e
      obtain ⟨x, rfl, rx⟩ := reps1 rs
      obtain ⟨a, ys, rfl, ht, rr⟩ := rep_tup.mp rx
      rw [bls_rep e rr] at ht
      obtain ⟨its, rv, pl, hz⟩ := I.tuple ht.sq
      rw [Vals.ref1 r]
      refine PySem.W.any_tuple_data (I.ok.hd hc) pl (by simpa using reads_bls (h := s.heap) rv) (plain_bls bs) (fits_bls bs) fun h' tk hk => ?_
      have e5 : (bs.map PyData.bool).any PyData.truthy = bs.any id := by rw [List.any_map]; rfl
      rw [e5]
      exact ⟨.bl _, H, I.kept hk, rfl, o.flat R (rep_bl.mpr rfl)⟩
    · exact o.elim
theorem cb_sum (hc : X.calm = true) : CallR X (.builtin "sum") (rC X.K .sum) := by
  intro pins s σ H xs us Q I r h
  obtain ⟨vs, β, M, w, R, rs, o⟩ := h
  unfold bcallM at o
  split at o <;> try contradiction
  rename_i n _ _
  split at o
  · rename_i bs e
    obtain ⟨x, rfl, rx⟩ := reps1 rs
    obtain ⟨p, ps, ys, rfl, e1, e2, e3⟩ := list_look R e rx
    rw [ints_rep e1 e3] at e2
    exact cr_sum hc pins s σ H _ us Q I r ⟨p, bs, rfl, e2, o.flat R (rep_int.mpr rfl)⟩
  · exact o.elim
theorem cb_int : CallR X (.type "int") (rC X.K .int) := by
  intro pins s σ H xs us Q I r h
  obtain ⟨vs, β, M, w, R, rs, o⟩ := h
  unfold bcallM at o
  split at o <;> try contradiction
  · rename_i i _
    obtain ⟨x, rfl, rx⟩ := reps1 rs
    rw [rep_int.mp rx] at r
    exact call_int1 pins s σ H _ us Q I r (.inl ⟨i, rfl, o.flat R (rep_int.mpr rfl)⟩)
  · rename_i i _
    obtain ⟨x, rfl, rx⟩ := reps1 rs
    rw [rep_bl.mp rx] at r
    exact call_int1 pins s σ H _ us Q I r (.inr ⟨i, rfl, o.flat R (rep_int.mpr rfl)⟩)
theorem cb_max2 (hc : X.calm = true) : CallR X (.builtin "max") (rC X.K .max2) := by
  intro pins s σ H xs us Q I r h
  obtain ⟨vs, β, M, w, R, rs, o⟩ := h
  unfold bcallM at o
  split at o <;> try contradiction
  rename_i i j _
  obtain ⟨x, y, rfl, rx, ry⟩ := reps2 rs
  rw [rep_int.mp rx, rep_int.mp ry] at r
  exact call_max2 hc pins s σ H _ us Q I r ⟨i, j, rfl, o.flat R (rep_int.mpr rfl)⟩
theorem cb_min2 (hc : X.calm = true) : CallR X (.builtin "min") (rC X.K .min2) := by
  intro pins s σ H xs us Q I r h
  obtain ⟨vs, β, M, w, R, rs, o⟩ := h
  unfold bcallM at o
  split at o <;> try contradiction
  rename_i i j _
  obtain ⟨x, y, rfl, rx, ry⟩ := reps2 rs
  rw [rep_int.mp rx, rep_int.mp ry] at r
  exact call_min2 hc pins s σ H _ us Q I r ⟨i, j, rfl, o.flat R (rep_int.mpr rfl)⟩
theorem maxL_ok : ∀ (i : Int) (is : List Int), maxL i is ∈ i :: is ∧ ∀ y ∈ i :: is, y ≤ maxL i is
  | i, [] => by simp [maxL]
  | i, j :: js => by
    obtain ⟨h1, h2⟩ := maxL_ok (if j > i then j else i) js
    rw [maxL]
    constructor
    · rcases List.mem_cons.mp h1 with h | h
      · rw [h]; split <;> simp
      · exact List.mem_cons_of_mem _ (List.mem_cons_of_mem _ h)
    · intro y hy
      have h3 := h2 (if j > i then j else i) List.mem_cons_self
      have h4 : i ≤ (if j > i then j else i) ∧ j ≤ (if j > i then j else i) := by split <;> omega
      rcases List.mem_cons.mp hy with rfl | hy
      · exact Int.le_trans h4.1 h3
      · rcases List.mem_cons.mp hy with rfl | hy
        · exact Int.le_trans h4.2 h3
        · exact h2 y (List.mem_cons_of_mem _ hy)
theorem minL_ok : ∀ (i : Int) (is : List Int), minL i is ∈ i :: is ∧ ∀ y ∈ i :: is, minL i is ≤ y
  | i, [] => by simp [minL]
  | i, j :: js => by
    obtain ⟨h1, h2⟩ := minL_ok (if j < i then j else i) js
    rw [minL]
    constructor
    · rcases List.mem_cons.mp h1 with h | h
      · rw [h]; split <;> simp
      · exact List.mem_cons_of_mem _ (List.mem_cons_of_mem _ h)
    · intro y hy
      have h3 := h2 (if j < i then j else i) List.mem_cons_self
      have h4 : (if j < i then j else i) ≤ i ∧ (if j < i then j else i) ≤ j := by split <;> omega
      rcases List.mem_cons.mp hy with rfl | hy
      · exact Int.le_trans h3 h4.1
      · rcases List.mem_cons.mp hy with rfl | hy
        · exact Int.le_trans h3 h4.2
        · exact h2 y (List.mem_cons_of_mem _ hy)
theorem insI_perm (i : Int) : ∀ is : List Int, (insI i is).Perm (i :: is)
  | [] => .refl _
  | j :: js => by
    rw [insI]; split
    · exact .refl _
    · exact ((insI_perm i js).cons j).trans (.swap i j js)
theorem isort_perm : ∀ is : List Int, (isort is).Perm is
  | [] => .refl _
  | i :: is => (insI_perm i (isort is)).trans ((isort_perm is).cons i)
theorem insI_sorted (i : Int) : ∀ is : List Int, is.Pairwise (· ≤ ·) → (insI i is).Pairwise (· ≤ ·)
  | [], _ => by simp [insI]
  | j :: js, h => by
    rw [insI]; split
    · rename_i hij
      refine List.pairwise_cons.mpr ⟨fun a ha => ?_, h⟩
      rcases List.mem_cons.mp ha with rfl | ha
      · exact hij
      · exact Int.le_trans hij ((List.pairwise_cons.mp h).1 a ha)
    · rename_i hij
      refine List.pairwise_cons.mpr ⟨fun a ha => ?_, insI_sorted i js (List.pairwise_cons.mp h).2⟩
      rcases List.mem_cons.mp ((insI_perm i js).mem_iff.mp ha) with rfl | ha
      · omega
      · exact (List.pairwise_cons.mp h).1 a ha
theorem isort_sorted : ∀ is : List Int, (isort is).Pairwise (· ≤ ·)
  | [] => .nil
  | i :: is => insI_sorted i _ (isort_sorted is)
theorem isort_eq {ns is : List Int} (h : ns.Perm is) (hs : ns.Pairwise (· ≤ ·)) : ns = isort is :=
  List.Perm.eq_of_pairwise (fun a b _ _ h1 h2 => Int.le_antisymm h1 h2) hs (isort_sorted is) (h.trans (isort_perm is).symm)
theorem reps_ints_ {K : PySem.W.Frag} {H : Hp} {β : List Addr} : ∀ ns : List Int, Reps K H β (ns.map PV.int) (ns.map V.int)
  | [] => reps_nil.mpr rfl
  | i :: is => reps_cons.mpr ⟨_, _, rfl, rep_int.mpr rfl, reps_ints_ is⟩
theorem maxL_fold : ∀ (i : Int) (is : List Int), maxL i is = is.foldl max i
  | i, [] => rfl
  | i, j :: js => by
    rw [maxL, maxL_fold, List.foldl_cons]
    congr 1
    split <;> omega
theorem minL_fold : ∀ (i : Int) (is : List Int), minL i is = is.foldl min i
  | i, [] => rfl
  | i, j :: js => by
    rw [minL, minL_fold, List.foldl_cons]
    congr 1
    split <;> omega
theorem cb_max1 (hc : X.calm = true) (hu1 : X.A.units + 1 + 0 < cLine) : CallR X (.builtin "max") (rC X.K .max1) := by
  intro pins s σ H xs us Q I r h
  obtain ⟨vs, β, M, w, R, rs, o⟩ := h
  unfold bcallM at o
  split at o <;> try contradiction
  rename_i n _ _
  split at o
  · rename_i i is e
    obtain ⟨x, rfl, rx⟩ := reps1 rs
    obtain ⟨p, ps, ys, rfl, e1, e2, e3⟩ := list_look R e rx
    rw [ints_rep e1 e3] at e2
    obtain ⟨m1, m2⟩ := maxL_ok i is
    refine cr_max hc pins s σ H _ us Q I r ⟨p, i :: is, rfl, e2, by simp, fun m hm hle => ?_⟩
    have : m = maxL i is := Int.le_antisymm (m2 m hm) (hle _ m1)
    rw [this]
    exact o.flat R (rep_int.mpr rfl)
  · exact o.elim
  · rename_i ps _ _
    split at o
    · rename_i i is e
      obtain ⟨x, rfl, rx⟩ := reps1 rs
      obtain ⟨a, ys, rfl, ht, rr⟩ := rep_tup.mp rx
      rw [ints_rep e rr] at ht
      obtain ⟨its, rv, pl, hz⟩ := I.tuple ht.sq
      rw [Vals.ref1 r]
      have hr : ReadsAll s.heap its.toArray.toList (PyData.int i :: is.map PyData.int) [] := by simpa using reads_ints (h := s.heap) rv
      refine PySem.W.max_tuple_data (I.ok.hd hc) pl hr (alike_ints (i :: is)) (by have := depth_ints (i :: is); rw [List.map_cons] at this; rw [this]; exact hu1) fun k v h' tk bs hv hrd hk => ?_
      rw [PySem.W.maxD_ints, ← maxL_fold] at hrd
      cases hrd
      exact ⟨.int _, H, I.kept hk, ⟨_, rfl⟩, o.flat R (rep_int.mpr rfl)⟩
    · exact o.elim
theorem cb_min1 (hc : X.calm = true) (hu1 : X.A.units + 1 + 0 < cLine) : CallR X (.builtin "min") (rC X.K .min1) := by
  intro pins s σ H xs us Q I r h
  obtain ⟨vs, β, M, w, R, rs, o⟩ := h
  unfold bcallM at o
  split at o <;> try contradiction
  rename_i n _ _
  split at o
  · rename_i i is e
    obtain ⟨x, rfl, rx⟩ := reps1 rs
    obtain ⟨p, ps, ys, rfl, e1, e2, e3⟩ := list_look R e rx
    rw [ints_rep e1 e3] at e2
    obtain ⟨m1, m2⟩ := minL_ok i is
    refine cr_min hc pins s σ H _ us Q I r ⟨p, i :: is, rfl, e2, by simp, fun m hm hle => ?_⟩
    have : m = minL i is := Int.le_antisymm (hle _ m1) (m2 m hm)
    rw [this]
    exact o.flat R (rep_int.mpr rfl)
  · exact o.elim
  · rename_i ps _ _
    split at o
    · rename_i i is e
      obtain ⟨x, rfl, rx⟩ := reps1 rs
      obtain ⟨a, ys, rfl, ht, rr⟩ := rep_tup.mp rx
      rw [ints_rep e rr] at ht
      obtain ⟨its, rv, pl, hz⟩ := I.tuple ht.sq
      rw [Vals.ref1 r]
      have hr : ReadsAll s.heap its.toArray.toList (PyData.int i :: is.map PyData.int) [] := by simpa using reads_ints (h := s.heap) rv
      refine PySem.W.min_tuple_data (I.ok.hd hc) pl hr (alike_ints (i :: is)) (by have := depth_ints (i :: is); rw [List.map_cons] at this; rw [this]; exact hu1) fun k v h' tk bs hv hrd hk => ?_
      rw [PySem.W.minD_ints, ← minL_fold] at hrd
      cases hrd
      exact ⟨.int _, H, I.kept hk, ⟨_, rfl⟩, o.flat R (rep_int.mpr rfl)⟩
    · exact o.elim
/-- max(xs, default=d) -/
theorem cb_maxD (hc : X.calm = true) (hu1 : X.A.units + 1 + 0 < cLine) : CallRK X (.builtin "max") [Str.ofString "default"] (fun xs zs H Q => rC X.K .maxD (xs ++ zs) H Q ∧ xs.length = 1 ∧ zs.length = 1) := by
  intro pins s σ H xs zs us ws Q I r r' h
  obtain ⟨h, l1, l2⟩ := h
  obtain ⟨x, rfl⟩ := List.length_eq_one_iff.mp l1
  obtain ⟨z, rfl⟩ := List.length_eq_one_iff.mp l2
  obtain ⟨vs, β, M, w, R, rs, o⟩ := h
  unfold bcallM at o
  split at o <;> try contradiction
  rename_i n d _
  obtain ⟨x', z', e0, rx, rz⟩ := reps2 rs
  cases e0
  obtain ⟨u, rfl, ru⟩ := vals1 r
  obtain ⟨u', rfl, ru'⟩ := vals1 r'
  rw [rep_int.mp rz] at ru'
  obtain ⟨t, rfl⟩ := ru'
  have fin : ∀ {l : List Int}, (M.lst? n).bind ints? = some l → (l = [] → Out X.K β M H (.ok (.int d) M) (kQ X.K Q) w) → (∀ i is, l = i :: is → Out X.K β M H (.ok (.int (maxL i is)) M) (kQ X.K Q) w) →
      wpAny (model X.prog X.w) X.A (call (.builtin "max") [u] ([Str.ofString "default"].zip [Value.int d t])) (EP X pins σ Q) X.xe s := by
    intro l e o0 o1
    obtain ⟨p, ps, ys, rfl, e1, e2, e3⟩ := list_look R e rx
    rw [ints_rep e1 e3] at e2
    cases ru
    obtain ⟨its, rv, pl, hz⟩ := I.list e2
    have hr : ReadsAll s.heap its.toArray.toList (l.map PyData.int) [] := by simpa using reads_ints (h := s.heap) rv
    refine PySem.W.max_list_default (I.ok.hd hc) pl.isList hr (alike_ints l) (by rw [depth_ints]; exact hu1) (fun e0 h' tk hk => ?_) fun y ys i v h' tk bs ey hv hrd hk => ?_
    · exact ⟨.int _, H, I.kept hk, ⟨_, rfl⟩, (o0 (List.map_eq_nil_iff.mp e0)).flat R (rep_int.mpr rfl)⟩
    · cases l with
      | nil => cases ey
      | cons i is =>
        cases ey
        rw [PySem.W.maxD_ints, ← maxL_fold] at hrd
        cases hrd
        exact ⟨.int _, H, I.kept hk, ⟨_, rfl⟩, (o1 i is rfl).flat R (rep_int.mpr rfl)⟩
  split at o
  · rename_i i is e
    exact fin e (fun q => by cases q) fun i' is' q => by cases q; exact o
  · rename_i e
    exact fin e (fun _ => o) fun i' is' q => by cases q
  · exact o.elim
theorem Vals.get_ {xs : List V} {us : List Value} {i : Nat} {x : V} (r : Vals xs us) (h : xs[i]? = some x) : ∃ u, us[i]? = some u ∧ RelV x u := r.get h
/-- items that read as data, with what they are -/
theorem each_reps {X : Cx} {pins : List (Addr × Obj)} {σ : L2.St} {H : Hp} {s : Shared} {β : List Addr} (I : Inv X pins σ H s) : ∀ {ps : List PV} {xs : List V} {us : List Value}, Reps X.K H β ps xs → Vals xs us → ps.all shallow = true →
    PySem.W.EachIs (fun u p => (∃ as, Reads s.heap u p.toD as) ∧ ∃ x, RelV x u ∧ Rep X.K H β p x) us ps
  | [], xs, us, r, v, _ => by
    rw [reps_nil.mp r] at v
    cases v
    exact .nil
  | p :: ps, xs, us, r, v, h => by
    obtain ⟨x, t, rfl, r1, r2⟩ := reps_cons.mp r
    cases v with
    | cons v1 v2 =>
      rw [List.all_cons, Bool.and_eq_true] at h
      exact .cons ⟨Dp.reads I _ _ _ (dat_dp p 60 x h.1 r1) v1, x, v1, r1⟩ (each_reps I r2 v2 h.2)
theorem each_back {X : Cx} {H : Hp} {β : List Addr} {F : Value → PV → Prop} : ∀ {ps : List PV} {us : List Value}, PySem.W.EachIs (fun u p => F u p ∧ ∃ x, RelV x u ∧ Rep X.K H β p x) us ps → ∃ xs, Vals xs us ∧ Reps X.K H β ps xs
  | [], us, h => by cases h; exact ⟨[], .nil, reps_nil.mpr rfl⟩
  | p :: ps, us, h => by
    cases h with
    | cons a b =>
      obtain ⟨_, x, v1, r1⟩ := a
      obtain ⟨xs, v2, r2⟩ := each_back b
      exact ⟨x :: xs, .cons v1 v2, reps_cons.mpr ⟨x, xs, rfl, r1, r2⟩⟩
theorem le_data_ {ps : List PV} (hs : ps.all shallow = true) (ha : (ps.all fun x => ps.all fun y => x.alk y) = true) : ∀ x ∈ ps, ∀ y ∈ ps, PySem.W.dataLe false PV.toD x y = !y.lt x := by
  intro x hx y hy
  rw [PySem.W.dataLe_eq]
  show (!PySem.W.dataLt y.toD x.toD) = _
  rw [lt_toD y x 60 60 (List.all_eq_true.mp hs y hy) (List.all_eq_true.mp hs x hx) (List.all_eq_true.mp (List.all_eq_true.mp ha y hy) x hx)]
theorem merge_congr {α : Type} {f g : α → α → Bool} {xs : List α} (h : ∀ x ∈ xs, ∀ y ∈ xs, f x y = g x y) : xs.mergeSort f = xs.mergeSort g := by
  have := List.map_mergeSort (r := f) (s := g) (f := id) (l := xs) h
  simpa using this
theorem cb_sorted (hu : X.A.units + 65 < cLine) : CallR X (.builtin "sorted") (rC X.K .sorted) := by
  intro pins s σ H xs us Q I r h
  obtain ⟨vs, β, M, w, R, rs, o⟩ := h
  unfold bcallM at o
  split at o <;> try contradiction
  rename_i n _ _
  split at o
  · rename_i is e
    obtain ⟨x, rfl, rx⟩ := reps1 rs
    obtain ⟨p, ps, ys, rfl, e1, e2, e3⟩ := list_look R e rx
    rw [ints_rep e1 e3] at e2
    refine cr_sortedI pins s σ H _ us Q I r ⟨p, is, rfl, e2, fun ns' l hp hs hl => ?_⟩
    rw [isort_eq hp hs]
    exact o.lst R (reps_ints_ _) hl
  · split at o
    · rename_i ps e
      split at o
      · rename_i ok
        unfold srtOk at ok
        simp only [Bool.and_eq_true, decide_eq_true_eq] at ok
        obtain ⟨⟨⟨o1, o2⟩, o3⟩, o4⟩ := ok
        obtain ⟨x, rfl, rx⟩ := reps1 rs
        obtain ⟨a, ys, hb, hl, rr⟩ := R.list e
        rw [rx.ref_of hb] at r
        obtain ⟨its, rv, pl, hz⟩ := I.list hl
        rw [Vals.ref1 r]
        have ea := each_reps I rr rv o2
        refine PySem.W.sorted_data (enc := PV.toD) pl.isList ea (ea.mono fun _ _ h => h.1) ?_ ?_ (by rw [← LIM_eq]; exact o4) (fun b hb => ?_) fun out hout eo => ?_
        · intro d hd d' hd'
          obtain ⟨p, hp, rfl⟩ := List.mem_map.mp hd
          obtain ⟨q, hq, rfl⟩ := List.mem_map.mp hd'
          exact alk_toD _ _ (List.all_eq_true.mp (List.all_eq_true.mp o3 p hp) q hq)
        · refine .inl fun d hd => ?_
          obtain ⟨p, hp, rfl⟩ := List.mem_map.mp hd
          have := List.all_eq_true.mp o1 p hp
          cases p with
          | tup zs =>
            cases zs with
            | nil => simp [isTup1] at this
            | cons z zs => rw [toD_tup, PV.toD.toDs]; exact ⟨_, _, rfl⟩
          | _ => simp [isTup1] at this
        · have := (dat_can b 60 (List.all_eq_true.mp o2 b hb)).2
          omega
        · obtain ⟨zs, v2, r2⟩ := each_back eo
          rw [merge_congr (le_data_ o2 o3)] at r2
          obtain ⟨ep, he'⟩ := PyProof.Rows.sortedAll_at s.heap its out.toArray
          have hlen : zs.length ≤ sizeLine := by
            rw [v2.length, hout, ← LIM_eq]; exact o4
          exact ⟨.ref _, upd H (s.heap.objs.size + 1) (.lst zs), I.laid (t' := s.toks) (fun _ _ => PyProof.Rows.sortedAll_old) (Nat.le_succ _) ⟨hlen, out, ep, v2, he'⟩, rfl, o.lst R r2 (I.hok.fresh (Nat.le_succ _))⟩
      · exact o.elim
    · exact o.elim
/-- repr -/
theorem cb_repr (hu : X.A.units + 65 < cLine) (hg : X.A.guards = some []) : CallR X (.builtin "repr") (rC X.K .repr) := by
  intro pins s σ H xs us Q I r h
  obtain ⟨vs, β, M, w, R, rs, o⟩ := h
  unfold bcallM at o
  split at o <;> try contradiction
  rename_i v _
  obtain ⟨x, rfl, rx⟩ := reps1 rs
  have fin : ∀ (d : PyData) (z : V) (hz : z = x), (∀ u, RelV z u → ∃ a as, u = .ref a ∧ Reads s.heap (.ref a) d as) → d.canLay0 = true → d.depth ≤ 61 → repOk d = true → Out X.K β M H (Res.ok (PV.str d.shown) M) (kQ X.K Q) w → wpAny (model X.prog X.w) X.A (call (.builtin "repr") us) (EP X pins σ Q) X.xe s := by
    intro d z hz hd hc hp hr o
    subst hz
    obtain ⟨u, rfl, ru⟩ := vals1 r
    obtain ⟨a, as, rfl, rd⟩ := hd u ru
    unfold repOk at hr
    rw [Bool.and_eq_true, decide_eq_true_eq] at hr
    refine repr_of_reads' rd hr.1 (PyData.noDict_hsm (PyData.hasDict_of_canLay d hc)) hg (by omega) (fun _ _ e => e) (fun h' u tk hk => ?_) (by rw [← LIM_eq]; exact hr.2)
    exact ⟨.str d.shown, H, I.kept (t' := tk) hk, ⟨u, rfl⟩, o.flat R (rep_str.mpr rfl)⟩
  split at o
  · rename_i n
    split at o
    · rename_i ps e
      split at o
      · rename_i ok
        rw [Bool.and_eq_true] at ok
        obtain ⟨a, ys, hb, hl, rr⟩ := R.list e
        have hx := rx.ref_of hb
        have hd : PV.dat.dats ps 60 = true := by rw [dats_eq]; exact ok.1
        obtain ⟨c1, c2⟩ := dats_can ps 60 hd
        refine fin (.list (PV.toD.toDs ps)) x rfl (fun u ru => ?_) (by rw [PyData.canLay0]; exact c1) (by rw [PyData.depth]; omega) ok.2 o
        subst hx
        cases ru
        obtain ⟨as, rd⟩ := Dp.reads I (.list (PV.toD.toDs ps)) _ _ (.lst hl (dats_dp ps 60 ys hd rr)) rfl
        exact ⟨a, as, rfl, rd⟩
      · exact o.elim
    · exact o.elim
  · rename_i hnr
    split at o
    · rename_i ok
      rw [Bool.and_eq_true] at ok
      have ok2 := ok.2
      unfold repOk at ok2
      rw [Bool.and_eq_true, decide_eq_true_eq] at ok2
      cases v with
      | ref n => exact (hnr n rfl).elim
      | non =>
        obtain ⟨u, rfl, ru⟩ := vals1 r
        rw [rep_non.mp rx] at ru
        cases ru
        exact PySem.P.repr_of_none ⟨.str _, H, I.tok _, ⟨_, rfl⟩, o.flat R (rep_str.mpr (by rfl))⟩
      | bl b =>
        obtain ⟨u, rfl, ru⟩ := vals1 r
        rw [rep_bl.mp rx] at ru
        cases ru
        exact PySem.P.repr_of_bool ⟨.str _, H, I.tok _, ⟨_, rfl⟩, o.flat R (rep_str.mpr (by rfl))⟩
      | int i =>
        obtain ⟨u, rfl, ru⟩ := vals1 r
        rw [rep_int.mp rx] at ru
        obtain ⟨t, rfl⟩ := ru
        have hs := ok2.1
        simp only [PV.toD, PyData.showable, decide_eq_true_eq] at hs
        exact PySem.P.repr_of_int hs ⟨.str _, H, I.tok _, ⟨_, rfl⟩, o.flat R (rep_str.mpr (by rfl))⟩
      | str i =>
        obtain ⟨u, rfl, ru⟩ := vals1 r
        rw [rep_str.mp rx] at ru
        obtain ⟨t, rfl⟩ := ru
        refine PySem.P.repr_of_str ⟨.str _, H, I.tok _, ⟨_, rfl⟩, o.flat R (rep_str.mpr (by rfl))⟩ ?_
        have := ok2.2
        rw [LIM_eq] at this
        exact this
      | tup ps =>
        obtain ⟨c1, c2⟩ := dat_can (.tup ps) 60 ok.1
        refine fin (PV.tup ps).toD x rfl (fun u ru => ?_) c1 (by omega) ok.2 o
        obtain ⟨a, ys, rfl, ht, rr⟩ := rep_tup.mp rx
        cases ru
        obtain ⟨as, rd⟩ := Dp.reads I (PV.tup ps).toD _ _ (dat_dp (.tup ps) 60 _ ok.1 rx) rfl
        exact ⟨a, as, rfl, rd⟩
    · exact o.elim
theorem cb_list : CallR X (.type "list") (rC X.K .list) := by
  intro pins s σ H xs us Q I r h
  obtain ⟨vs, β, M, w, R, rs, o⟩ := h
  unfold bcallM at o
  split at o <;> try contradiction
  rename_i v _ _
  split at o
  · rename_i ps e
    obtain ⟨x, rfl, rx⟩ := reps1 rs
    obtain ⟨a, ys, rfl, hq, rr⟩ := seq_rep R e rx
    refine call_list_of pins s σ H _ us Q I r ⟨a, ys, rfl, ?_, fun l hl => o.lst R rr hl⟩
    rcases hq with hq | hq
    · exact .inl hq
    · exact .inr hq.sq
  · exact o.elim
theorem cb_tuple : CallR X (.type "tuple") (rC X.K .tuple) := by
  intro pins s σ H xs us Q I r h
  obtain ⟨vs, β, M, w, R, rs, o⟩ := h
  unfold bcallM at o
  split at o <;> try contradiction
  rename_i v _ _
  split at o
  · rename_i ps e
    obtain ⟨x, rfl, rx⟩ := reps1 rs
    obtain ⟨a, ys, rfl, hq, rr⟩ := seq_rep R e rx
    obtain ⟨u, rfl, ru⟩ := vals1 r
    cases ru
    rcases hq with hq | hq
    · obtain ⟨its, r', pl, hz⟩ := I.list hq
      have hlen := r'.length
      refine call_tuple_list pl.isList (fun h' kp => ?_) (by rw [List.size_toArray]; omega)
      have I1 : Inv X pins σ H { s with heap := h' } := I.kept (t' := s.toks) kp
      exact ⟨.ref h'.objs.size, _, newTup I1 r' hz, rfl, o.tup R rr (I1.hok.fresh (Nat.le_refl _)) rfl⟩
    · obtain ⟨its, r', pl, hz⟩ := I.tuple hq.sq
      exact call_tuple_same pl ⟨.ref a, H, I, rfl, o.flat R (rep_tup.mpr ⟨a, ys, rfl, hq, rr⟩)⟩
  · exact o.elim

/-! ### methods -/
theorem all_app {p : PV → Bool} {xs ys : List PV} (h1 : xs.all p = true) (h2 : ys.all p = true) : (xs ++ ys).all p = true := by rw [List.all_append, h1, h2]; rfl
theorem mm_append : MtR X "list.append" (rMt X.K .append) := by
  intro pins s σ H x xs v us Q I rx rv h
  obtain ⟨pv, vs, β, M, w, R, hx, hs, o⟩ := h
  unfold methM at o
  split at o <;> try contradiction
  rename_i n y _
  split at o
  · rename_i ys e
    split at o
    · rename_i hz
      obtain ⟨a, zs, b1, hl, rl⟩ := R.lst e
      obtain ⟨z, rfl, rz⟩ := reps1 hs
      rw [hx.ref_of b1] at rx
      refine mt_append pins s σ H _ _ v us Q I rx rv ⟨a, zs, z, rfl, rfl, hl, by rw [← LIM_eq, ← rl.length]; exact hz, ?_⟩
      refine o.put R e b1 hl (rl.append (.one rz)) (fun he b hb => all_app hb ?_) _ (rep_non.mpr rfl)
      by_cases hp : y.pure = true
      · rw [List.all_cons, pure_bnd hp]; rfl
      · rw [if_neg hp] at he; cases he
    · exact o.elim
  · exact o.elim
theorem all_pure {ys : List PV} (h : ys.all PV.pure = true) (b : Nat) : ys.all (PV.bnd b) = true := bnds_mono (Nat.zero_le _) h
theorem mm_extend : MtR X "list.extend" (rMt X.K .extend) := by
  intro pins s σ H x xs v us Q I rx rv h
  obtain ⟨pv, vs, β, M, w, R, hx, hs, o⟩ := h
  unfold methM at o
  split at o <;> try contradiction
  rename_i n m _ _ _
  split at o
  · rename_i ps qs e1 e2
    split at o
    · rename_i hz
      obtain ⟨a, zs, b1, hl, rl⟩ := R.lst e1
      obtain ⟨b, ws, b2, hl2, rl2⟩ := R.lst e2
      obtain ⟨z, rfl, rz⟩ := reps1 hs
      rw [hx.ref_of b1] at rx
      rw [rz.ref_of b2] at rv
      refine mt_extend pins s σ H _ _ v us Q I rx rv ⟨a, b, zs, ws, rfl, rfl, hl, hl2, by rw [← LIM_eq, ← rl.length, ← rl2.length]; exact hz, ?_⟩
      refine o.put R e1 b1 hl (rl.append rl2) (fun he b hb => all_app hb ?_) _ (rep_non.mpr rfl)
      by_cases hp : qs.all PV.pure = true
      · exact all_pure hp b
      · rw [if_neg hp] at he; cases he
    · exact o.elim
  · exact o.elim
theorem all_erase {p : PV → Bool} : ∀ {xs : List PV} (j : Nat), xs.all p = true → (xs.eraseIdx j).all p = true
  | [], _, _ => rfl
  | x :: xs, 0, h => by rw [List.all_cons, Bool.and_eq_true] at h; exact h.2
  | x :: xs, j + 1, h => by
    rw [List.all_cons, Bool.and_eq_true] at h
    rw [List.eraseIdx_cons_succ, List.all_cons, h.1, all_erase j h.2]; rfl
theorem mm_pop : MtR X "list.pop" (rMt X.K .pop) := by
  intro pins s σ H x xs v us Q I rx rv h
  obtain ⟨pv, vs, β, M, w, R, hx, hs, o⟩ := h
  unfold methM at o
  split at o <;> try contradiction
  rename_i n i _
  split at o
  · rename_i ps e1
    split at o
    · rename_i j ej
      split at o
      · rename_i p ep
        obtain ⟨a, zs, b1, hl, rl⟩ := R.lst e1
        obtain ⟨z, rfl, rz⟩ := reps1 hs
        rw [rep_int.mp rz] at rv
        rw [hx.ref_of b1] at rx
        rw [ixOf_eq, rl.length] at ej
        obtain ⟨q1, q2, q3, q4⟩ := ixN_seq ej
        obtain ⟨y, ey, ry⟩ := rl.get ep
        have hzl := (I.lstM hl).1
        have hsl := sizeLine_eq
        refine mt_popAt pins s σ H _ _ v us Q I rx rv ⟨a, zs, i, j, y, rfl, rfl, hl, by omega, by omega, q1, ey, ?_⟩
        refine o.put R e1 b1 hl (rl.erase j) (fun _ b hb => all_erase j hb) _ ?_
        exact ry.mono (fun _ _ => tup_upd_lst hl) fun _ _ h => h
      · exact o.elim
    · exact o.elim
  · exact o.elim
theorem mm_reverse : MtR X "list.reverse" (rMt X.K .reverse) := by
  intro pins s σ H x xs v us Q I rx rv h
  obtain ⟨pv, vs, β, M, w, R, hx, hs, o⟩ := h
  unfold methM at o
  split at o <;> try contradiction
  rename_i n _ _ _
  split at o
  · rename_i ps e1
    obtain ⟨a, zs, b1, hl, rl⟩ := R.lst e1
    have e := reps_nil.mp hs
    subst e
    rw [hx.ref_of b1] at rx
    refine mt_reverse pins s σ H _ _ v us Q I rx rv ⟨a, zs, rfl, rfl, hl, ?_⟩
    exact o.put R e1 b1 hl rl.rev (fun _ b hb => by rw [List.all_reverse]; exact hb) _ (rep_non.mpr rfl)
  · exact o.elim
theorem mm_clear : MtR X "list.clear" (rMt X.K .clear) := by
  intro pins s σ H x xs v us Q I rx rv h
  obtain ⟨pv, vs, β, M, w, R, hx, hs, o⟩ := h
  unfold methM at o
  split at o <;> try contradiction
  rename_i n _ _ _
  split at o
  · rename_i ps e1
    obtain ⟨a, zs, b1, hl, rl⟩ := R.lst e1
    have e := reps_nil.mp hs
    subst e
    rw [hx.ref_of b1] at rx
    refine mt_clear pins s σ H _ _ v us Q I rx rv ⟨a, zs, rfl, rfl, hl, ?_⟩
    exact o.put R e1 b1 hl (reps_nil.mpr rfl) (fun _ b hb => rfl) _ (rep_non.mpr rfl)
  · exact o.elim
/-- where the first equal one stands -/
theorem find_toD {v : PV} (hv : shallow v = true) {xs : List PV} (hx : xs.all shallow = true) {j : Nat} (h : xs.findIdx? (fun x => x.eqv v) = some j) :
    (∃ z, (PV.toD.toDs xs)[j]? = some z ∧ PyData.eqv z v.toD = true) ∧ ∀ (m : Nat) z, m < j → (PV.toD.toDs xs)[m]? = some z → PyData.eqv z v.toD = false := by
  rw [List.findIdx?_eq_some_iff_getElem] at h
  obtain ⟨hj, h1, h2⟩ := h
  have sh : ∀ (m : Nat) (hm : m < xs.length), shallow xs[m] = true := fun m hm => List.all_eq_true.mp hx _ (List.getElem_mem hm)
  rw [toDs_eq]
  refine ⟨⟨xs[j].toD, by rw [List.getElem?_map, List.getElem?_eq_getElem hj]; rfl, by rw [eqv_toD _ _ 60 60 (sh j hj) hv]; exact h1⟩, fun m z hm e => ?_⟩
  rw [List.getElem?_map, List.getElem?_eq_getElem (Nat.lt_trans hm hj)] at e
  cases e
  rw [eqv_toD _ _ 60 60 (sh m (Nat.lt_trans hm hj)) hv]
  exact eq_false_of_ne_true (by simpa using h2 m hm)
/-- t.index(x) of a tuple of plain data -/
theorem mt_tupIndex (hu : X.A.units + 65 < cLine) : MtR X "tuple.index" (fun x xs H Q => ∃ (a : Addr) (y : V) (d : PyData) (zs : List V) (ds : List PyData) (j : Nat) (z : PyData), x = V.ref a ∧ xs = [y] ∧ SqT X.K H a zs ∧ DpAll X.K H zs ds ∧ Dp X.K H y d ∧
    SeqAt.shaped (.list ds) = true ∧ SeqAt.shaped d = true ∧ ds[j]? = some z ∧ PyData.eqv z d = true ∧ (∀ (m : Nat) (z' : PyData), m < j → ds[m]? = some z' → PyData.eqv z' d = false) ∧ Q (.int (j : Nat)) H) := by
  intro pins s σ H x xs v us Q I rx rxs h
  obtain ⟨a, y, d, zs, ds, j, z, rfl, rfl, hs, ha, hy, sl, sd, hz, hzj, hno, q⟩ := h
  cases rx
  obtain ⟨uy, rfl, ry⟩ := vals1 rxs
  obtain ⟨bs, r1⟩ := Dp.reads I d y uy hy ry
  have hxs : PyData.canLayAll0 ds = true := SeqAt.canLay_of_shaped sl
  have hroom : X.A.units + 1 + min (PyData.depthAll ds) d.depth < cLine := room_in sd hu
  obtain ⟨its, rv, pl, hlen⟩ := I.tuple hs
  obtain ⟨⟨cls, dd, data, sls⟩, ho, hc, n, hdt⟩ := pl
  simp only at hc hdt
  subst hc hdt
  obtain ⟨as, h4⟩ := Dp.readsAll I ds _ its ha rv
  have hn : its.length = ds.length := SeqAt.ReadsAll.length ds its as h4
  have hmap : its.map (SeqAt.readOf s.heap) = ds := SeqAt.readsAll_map ds its as hxs h4
  obtain ⟨hjd, _⟩ := List.getElem?_eq_some_iff.mp hz
  have hjl : j < its.length := by omega
  have hj : j < its.toArray.size := by simpa using hjl
  have at_ : ∀ (m : Nat) (hm : m < its.toArray.size) (z' : PyData), ds[m]? = some z' → SeqAt.readOf s.heap its.toArray[m] = z' := by
    intro m hm z' hz'
    have hml : m < its.length := by simpa using hm
    rw [← hmap, List.getElem?_map, List.getElem?_eq_getElem hml] at hz'
    have e1 : SeqAt.readOf s.heap its[m] = z' := Option.some.inj hz'
    simpa using e1
  refine call_meets PySem.F.slot_tuple_index ⟨_, ho, rfl⟩ PySem.F.entry_tuple_index (PySem.F.args_tuple_index_2 _ _)
    (TI.tuple_indexAt a its.toArray n dd sls uy (fun u => PyData.eqv (SeqAt.readOf s.heap u) d) j hj ?_ ?_)
    ⟨ho, SeqAt.items_eqAt (vs := its.toArray) (show ReadsAll s.heap its.toArray.toList ds as from h4) r1 hxs (SeqAt.canLay_of_shaped sd) hroom, ?_⟩
  · show PyData.eqv (SeqAt.readOf s.heap its.toArray[j]) d = true
    rw [at_ j hj z hz]
    exact hzj
  · intro m hm hmj
    show PyData.eqv (SeqAt.readOf s.heap its.toArray[m]) d = false
    have hmd : m < ds.length := by
      have : m < its.length := by simpa using hm
      omega
    rw [at_ m hm ds[m] (List.getElem?_eq_getElem hmd)]
    exact hno m _ hmj (List.getElem?_eq_getElem hmd)
  · exact ⟨.int (j : Nat), H, I.tok _, ⟨_, rfl⟩, q⟩
theorem methM_index (v : PV) (vs : List PV) (M : Mem) : methM .index v vs M = (match vs with
    | [w] => (match seq? v M with
      | some xs => if xs.all shallow && shallow w then (match xs.findIdx? (fun x => x.eqv w) with | some j => .ok (.int j) M | none => .stuck) else .stuck
      | none => .stuck)
    | _ => .stuck) := by
  match vs with
  | [] => cases v <;> rfl
  | [w] => cases v <;> rfl
  | _ :: _ :: _ => cases v <;> rfl
theorem index_look {K : PySem.W.Frag} {β : List Addr} {H : Hp} {M : Mem} {v : PV} {vs : List PV} {Q : VK} {w : WM} (o : Out K β M H (methM .index v vs M) (kQ K Q) w) :
    ∃ u xs j, vs = [u] ∧ seq? v M = some xs ∧ xs.all shallow = true ∧ shallow u = true ∧ xs.findIdx? (fun x => x.eqv u) = some j ∧ Out K β M H (.ok (.int j) M) (kQ K Q) w := by
  rw [methM_index] at o
  match vs, o with
  | [], o => exact o.elim
  | _ :: _ :: _, o => exact o.elim
  | [u], o =>
    simp only at o
    split at o
    · rename_i xs e
      split at o
      · rename_i hc
        rw [Bool.and_eq_true] at hc
        split at o
        · rename_i j ej
          exact ⟨_, xs, j, rfl, e, hc.1, hc.2, ej, o⟩
        · exact o.elim
      · exact o.elim
    · exact o.elim
theorem mm_indexT (hu : X.A.units + 65 < cLine) : MtR X "tuple.index" (fun x xs H Q => (∃ a zs, x = .ref a ∧ Tup X.K H a zs) ∧ ∃ ps vs β M w, RelH X.K β M H ∧ Rep X.K H β (.tup ps) x ∧ Reps X.K H β vs xs ∧ Out X.K β M H (methM .index (.tup ps) vs M) (kQ X.K Q) w) := by
  intro pins s σ H x xs v us Q I rx rv h
  obtain ⟨_, ps, vs, β, M, w, R, hx, hs, o⟩ := h
  obtain ⟨u, qs, j, rfl, e, h1, h2, h3, o⟩ := index_look o
  cases e
  obtain ⟨y, rfl, ry⟩ := reps1 hs
  obtain ⟨a, zs, rfl, ht, rs⟩ := rep_tup.mp hx
  obtain ⟨⟨z, f1, f2⟩, f3⟩ := find_toD h2 h1 h3
  exact mt_tupIndex hu pins s σ H _ _ v us Q I rx rv ⟨a, y, u.toD, zs, _, j, z, rfl, rfl, ht.sq, dats_dp ps 60 zs (shallows h1) rs, shal_dp h2 ry, shaped_list h1, shaped_of h2, f1, f2, f3, o.flat R (rep_int.mpr rfl)⟩
theorem mm_indexL (hu : X.A.units + 65 < cLine) : MtR X "list.index" (fun x xs H Q => ∃ n vs β M w, RelH X.K β M H ∧ Rep X.K H β (.ref n) x ∧ Reps X.K H β vs xs ∧ Out X.K β M H (methM .index (.ref n) vs M) (kQ X.K Q) w) := by
  intro pins s σ H x xs v us Q I rx rv h
  obtain ⟨n, vs, β, M, w, R, hx, hs, o⟩ := h
  obtain ⟨u, qs, j, rfl, e, h1, h2, h3, o⟩ := index_look o
  obtain ⟨y, rfl, ry⟩ := reps1 hs
  obtain ⟨a, zs, e1, e2, e3⟩ := R.list (show M.lst? n = some qs from e)
  rw [hx.ref_of e1] at rx
  obtain ⟨⟨z, f1, f2⟩, f3⟩ := find_toD h2 h1 h3
  exact mt_indexD hu pins s σ H _ _ v us Q I rx rv ⟨a, y, u.toD, _, j, z, rfl, rfl, .lst e2 (dats_dp qs 60 zs (shallows h1) e3), shal_dp h2 ry, shaped_list h1, shaped_of h2, f1, f2, f3, o.flat R (rep_int.mpr rfl)⟩
end
end Mn
end
section
set_option Elab.async false
set_option linter.all false
set_option maxRecDepth 100000
set_option maxHeartbeats 4000000
namespace Mn
open PySem PySem.Spec PyProof.Rows L2

/-! ### enumerate over a tuple -/
section
open AutoSeq1 (wpAny_loadPart')
theorem enum_newT (l : Addr) (items : Array Value) (n : Nat) (dct : Option Addr) (sl : Array (Option Value)) :
    Meets (Builtin.«enumerate.__new__» ⟨[.type "enumerate", .ref l], []⟩) (fun _ R s => s.heap.get? l = some { cls := .type "tuple", dict := dct, data := .seq items n, slots := sl } ∧
      R (.ok (.ret (.ref (s.heap.push { cls := .type "tuple_iterator", data := .fields #[.ref l, .int 0 0] }).objs.size)))
        { s with heap := (s.heap.push { cls := .type "tuple_iterator", data := .fields #[.ref l, .int 0 0] }).push { cls := .type "enumerate", data := .fields #[.none, .bool false, .ref s.heap.objs.size, rawInt 0, .none, .none] } }) :=
  .of_wp fun prog w A R s h => by
    obtain ⟨hp, g, d, tk, os⟩ := s; obtain ⟨hl, h⟩ := h
    have hsub := sub_enumerate
    have hL : Heap.IsTuple (Shared.heap ⟨hp, g, d, tk, os⟩) l items := ⟨_, hl, rfl, n, rfl⟩
    wp_walk using wpAny_loadPart' hl
    refine wpAny_stack_any fun st => wpAny_pure ?_
    split
    · rename_i c _ _ _ _ _
      cases (c == Value.type "enumerate")
      · wp_walk using wpAny_loadPart' hl, wpAny_pyIter_tuple hL
        exact ⟨_, rfl, h⟩
      · wp_walk using wpAny_loadPart' hl, wpAny_pyIter_tuple hL
        exact ⟨_, rfl, h⟩
    · wp_walk using wpAny_loadPart' hl, wpAny_pyIter_tuple hL
      exact ⟨_, rfl, h⟩
end
section
variable {prog : Program} {w : World} {A : Around} {E : Value → Shared → Prop} {s : Shared}
theorem call_enumT {l : Addr} {items : Array Value} {Q : Value → Shared → Prop} (hL : s.heap.IsTuple l items)
    (h : ∀ h', IsEnum h' (s.heap.objs.size + 1) s.heap.objs.size 0 .none → h'.IsTupleIter s.heap.objs.size l 0 → h'.objs.size = s.heap.objs.size + 2 →
      (∀ b o, s.heap.get? b = some o → h'.get? b = some o) → Q (.ref (s.heap.objs.size + 1)) { s with heap := h' }) :
    wpAny (model prog w) A (call (.type "enumerate") [.ref l]) Q E s := by
  obtain ⟨⟨c, dct, dt, sl⟩, hl, hc, n, hd⟩ := hL
  replace hc : c = .type "tuple" := hc
  replace hd : dt = .seq items n := hd
  subst hc hd
  refine callType_new F.called_enumerate (by decide) (F.typeCall_enumerate_1 _) (F.newCall_enumerate_1 _) (fun obj => F.args_object_init_2 obj _) F.entry_enumerate_new
    (enum_newT l items n dct sl) ⟨hl, ?_⟩
  generalize hit : ({ cls := .type "tuple_iterator", data := .fields #[.ref l, .int 0 0] } : Obj) = oi
  generalize hen : ({ cls := .type "enumerate", data := .fields #[.none, .bool false, .ref s.heap.objs.size, rawInt 0, .none, .none] } : Obj) = oe
  have hz : (s.heap.push oi).objs.size = s.heap.objs.size + 1 := Heap.size_push ..
  show _ ∧ _
  rw [hz]
  have he0 := Heap.get?_push_size (s.heap.push oi) (o := oe) (by rw [← hen]; rfl)
  rw [hz] at he0
  have he : IsEnum ((s.heap.push oi).push oe) (s.heap.objs.size + 1) s.heap.objs.size 0 .none := by rw [← hen] at he0 ⊢; exact he0
  have hi0 := Heap.get?_push_size s.heap (o := oi) (by rw [← hit]; rfl)
  refine ⟨⟨_, he0, by rw [← hen]⟩, h _ he ⟨_, Heap.get?_push_of_some _ hi0, by rw [← hit], by rw [← hit]; rfl⟩ (by rw [Heap.size_push, hz]) fun b o x => Heap.get?_push_of_some _ (Heap.get?_push_of_some _ x)⟩
theorem draws_tuple (hh : A.handled = none) (it l : Addr) (hne : l ≠ it) (items : Array Value) :
    Draws prog w A it [it, l] items.size (fun i v => items[i]? = some v) (fun i h => h.IsTupleIter it l i ∧ h.IsTuple l items) where
  live := fun _ _ st => let ⟨o, ho, _⟩ := st.1; ⟨o, ho⟩
  frame := fun _ _ _ st hk => ⟨by
      obtain ⟨o, ho, r⟩ := st.1
      exact ⟨o, hk it (by simp) o ho, r⟩, by
      obtain ⟨o, ho, r⟩ := st.2
      exact ⟨o, hk l (by simp) o ho, r⟩⟩
  item := fun i s Q E hi st hQ => by
    refine PySem.wpAny_nextOf_tuple_item st.1 st.2 (x := items[i]) (by simp [hi]) fun h' hit' hs' => ?_
    exact hQ _ h' s.toks (by simp [hi]) ⟨hit', by
      obtain ⟨o, ho, r⟩ := st.2
      exact ⟨o, (hs'.2 l hne).trans ho, r⟩⟩ hs'
  done := fun s Q E st hE => PySem.wpAny_nextOf_tuple_end hh st.1 st.2 (by simp) hE
end
/-- the tuple at a, the items in new pairs with their places -/
def IteT (K : PySem.W.Frag) (a : Addr) : It :=
  ⟨fun i H => ∃ (xs : List V) (x : V), SqT K H a xs ∧ xs[i]? = some x, fun i H v H' => ∃ T x, v = .ref T ∧ H T = none ∧ H' = upd H T (.tup [.int (i : Nat), x]) ∧ ∀ xs, SqT K H a xs → xs[i]? = some x, fun i H => ∃ xs : List V, SqT K H a xs ∧ xs.length = i⟩
theorem turn_enumT {P : Program} {w : World} {K : PySem.W.Frag} {elts : List Expr} {kk : Nat} {tpos : Pos} (a e it : Addr) (hae : a ≠ e) (hai : a ≠ it) :
    Turn P w K (.Tuple elts kk tpos) (IteT K a) [e, it] e (fun i h => (∃ old, IsEnum h e it ((i : Nat) : Int) old) ∧ h.IsTupleIter it a i ∧ e ≠ it) where
  mem := by simp
  obj := fun i h st b hb => by
    obtain ⟨⟨old, he⟩, ⟨o, ho, hc, hd⟩, _⟩ := st
    have e' : b = e ∨ b = it := by simpa using hb
    rcases e' with z | z
    · rw [z]; exact ⟨_, he, fun v q => nomatch q⟩
    · rw [z]; exact ⟨o, ho, fun v q => by rw [hd] at q; cases q⟩
  keep := fun i h h' st k => by
    obtain ⟨⟨old, he⟩, ⟨o, ho, r⟩, hne⟩ := st
    exact ⟨⟨old, k e (by simp) _ he⟩, ⟨o, k it (by simp) o ho, r⟩, hne⟩
  item := by
    intro X hP hw hK hc i pins s σ H E I hf st hg
    subst hP hw hK
    obtain ⟨⟨old, he⟩, hit, hne⟩ := st
    obtain ⟨xs, x, hq, hx⟩ := hg
    obtain ⟨its, rv, p, hz⟩ := I.tuple hq
    obtain ⟨u, hu, ru⟩ := rv.get hx
    have hel : e < s.heap.objs.size := Heap.lt_size he
    have hil : it < s.heap.objs.size := by obtain ⟨_, q, _⟩ := hit; exact Heap.lt_size q
    have hlt : i < its.toArray.size := by
      rw [List.size_toArray]
      exact (List.getElem?_eq_some_iff.mp hu).1
    refine wpAny_pyNext_enum_itemD (draws_tuple (A := X.A.in1) (show X.A.in1.handled = none from I.ok.hd hc) it a hai its.toArray) he ⟨hit, p⟩ hlt hne (by
      intro hm
      have : e = it ∨ e = a := by simpa using hm
      rcases this with z | z
      · exact hne z
      · exact hae z.symm) fun u' h' tk hu' ho hst' hT hsz hk => ?_
    have eu : u' = u := by
      rw [List.getElem?_toArray] at hu'
      rw [hu] at hu'
      exact (Option.some.inj hu').symm
    subst eu
    refine ⟨_, rfl, wpAny_letOwnedTupleGo_enum (s := { s with heap := h', toks := tk + 1 }) ho fun h'' he' sb => ?_⟩
    have hT2 := (sb.2 _ (Nat.ne_of_gt hel)).trans hT
    have new : ObjOk X.prog X.w (upd H s.heap.objs.size (.tup [.int (i : Nat), x])) h'' s.heap.objs.size (.tup [.int (i : Nat), x]) :=
      ⟨by show 2 ≤ sizeLine; decide, [.int i tk, u'], .cons ⟨_, rfl⟩ (.cons ru .nil), ⟨_, hT2, rfl, _, rfl⟩⟩
    have I1 : Inv X pins σ (upd H s.heap.objs.size (.tup [.int (i : Nat), x])) { s with heap := h'', toks := tk + 1 } :=
      I.turnedNew (ch := [e, it]) (fun b ob hb q => (sb.2 b (fun z => hb (by simp [z]))).trans (hk b ob (fun z => hb (by simp [z])) (fun z => hb (by simp [z])) q)) hf (Nat.le_refl _) new
    refine ⟨.ref s.heap.objs.size, _, I1, rfl, ⟨_, x, rfl, I.hok.fresh (Nat.le_refl _), rfl, fun ys hy => by rw [I.tuple_inj hy hq]; exact hx⟩, ⟨⟨u', ?_⟩, ?_, hne⟩, fun b hb => ?_⟩
    · have e1 : ((i + 1 : Nat) : Int) = (i : Int) + 1 := by omega
      rw [e1]; exact he'
    · obtain ⟨o, ho, r⟩ := hst'.1
      exact ⟨o, (sb.2 it (Ne.symm hne)).trans ho, r⟩
    · have hb' : b < s.heap.objs.size := by
        have e' : b = e ∨ b = it := by simpa using hb
        rcases e' with z | z
        · rw [z]; exact hel
        · rw [z]; exact hil
      rw [upd_ne (Nat.ne_of_lt hb')]
      exact (hf b hb).1
  done := by
    intro X hP hw hK hc i pins s σ H E I hf st hg
    subst hP hw hK
    obtain ⟨⟨old, he⟩, hit, hne⟩ := st
    obtain ⟨xs, hq, hx⟩ := hg
    obtain ⟨its, rv, p, hz⟩ := I.tuple hq
    obtain ⟨f0, f1, f2, f3, f4, f5⟩ := hf it (by simp)
    have hl := rv.length
    have hn : its.toArray.size = i := by rw [List.size_toArray]; omega
    refine wpAny_pyNext_enum_endD (draws_tuple (A := X.A.in1) (show X.A.in1.handled = none from I.ok.hd hc) it a hai its.toArray) he ⟨by rw [hn]; exact hit, p⟩ fun h' eb => ⟨rfl, I.turned (t' := s.toks) (fun b o hb q => eb b o hb q) f0 f1 f3 f4 f5⟩
  self := fun A i s Q E st h => let ⟨⟨_, he⟩, _⟩ := st; wpAny_pyIter_enum he h
def iEnumA (K : PySem.W.Frag) (ta : TA) : TI := fun σ H R => ta σ H fun vs H1 => ∃ a xs, vs = [.ref a] ∧ ((SqL K H1 a xs ∧ R (Ite K a) H1) ∨ (SqT K H1 a xs ∧ R (IteT K a) H1))
theorem pi_enumA {X : Cx} {e : Expr} {ta : TA} {p pos tpos : Pos} {elts : List Expr} {kk : Nat} (hg : Gl X "enumerate") (hm : X.mg "enumerate" = none) (ha : PA X [e] ta) (hs : starEach [e] X.env = [(false, eval e X.env)]) :
    PI X (.Tuple elts kk tpos) (.Call (.Name "enumerate" p) [e] [] pos) (iEnumA X.K ta) := by
  refine ⟨fun pins s σ H R I h => ?_⟩
  refine Call_ (ld_blt I hg hm boot_enumerate (PyProof.Rows.callWith_type1 (thn (ha.run pos pins s σ H _ I h) fun us s1 ⟨vs, H1, I1, r1, q1⟩ => ?_) hs rfl))
  obtain ⟨a, xs, ex, hq⟩ := q1
  subst ex
  have eu := Vals.ref1 r1
  subst eu
  have fp : ∀ b ∈ [s1.heap.objs.size + 1, s1.heap.objs.size], FpOk X pins H1 b := fun b hb => by
    have hle : s1.heap.objs.size ≤ b := by
      have e' : b = s1.heap.objs.size + 1 ∨ b = s1.heap.objs.size := by simpa using hb
      omega
    exact I1.fpOk hle (I1.hok.fresh hle)
  rcases hq with ⟨hq, q⟩ | ⟨hq, q⟩
  · obtain ⟨its, rv, p', hz⟩ := I1.list hq
    refine call_enumerate_list p'.isList fun h' he hit hsz hk => wpAny_pyIter_enum he ?_
    exact ⟨s1.heap.objs.size + 1, _, _, _, H1, rfl, I1.kept (t' := s1.toks) hk, turn_enum a (s1.heap.objs.size + 1) s1.heap.objs.size, ⟨⟨.none, he⟩, hit, Nat.succ_ne_self _⟩, fp, q⟩
  · obtain ⟨its, rv, p', hz⟩ := I1.tuple hq
    have hal : a < s1.heap.objs.size := p'.lt
    refine call_enumT p' fun h' he hit hsz hk => wpAny_pyIter_enum he ?_
    exact ⟨s1.heap.objs.size + 1, _, _, _, H1, rfl, I1.kept (t' := s1.toks) hk, turn_enumT a (s1.heap.objs.size + 1) s1.heap.objs.size (Nat.ne_of_lt (Nat.lt_succ_of_lt hal)) (Nat.ne_of_lt hal), ⟨⟨.none, he⟩, hit, Nat.succ_ne_self _⟩, fp, q⟩
end Mn
end
section
set_option Elab.async false
set_option linter.all false
set_option maxRecDepth 100000
set_option maxHeartbeats 4000000
namespace Mn
open PySem PySem.Spec PyProof.Rows L2

/-! ### the look: does the small syntax tell the text? -/
/-- a scope as it runs, and which of its cells may be written (none: all) -/
structure SC where
  sc : Scope
  fnl : Option (List Str)
  cs : List Nat
def SC.fnOk (S : SC) (x : Str) : Bool := match S.fnl with | none => true | some l => l.contains x
def visB (sc : Scope) (x : Str) : Bool := match sc.names.lookup x with | some .local => true | some .cell => true | some .free => true | _ => false
def glB (sc : Scope) (x : Str) : Bool := match sc.names.lookup x with | some .globalImplicit => true | _ => false
def nmB (x : Str) : Bool := !(x == ("__debug__" : Str)) && !(x == ("__classdict__" : Str))
def locB (S : SC) (x : Str) : Bool := match S.sc.names.lookup x with | some .local => true | some .cell => S.fnOk x | _ => false
def BF.id : BF → Option Str
  | .len => some "len" | .all => some "all" | .any => some "any" | .int => some "int" | .list => some "list" | .tuple => some "tuple" | .sum => some "sum"
  | .max2 => some "max" | .min2 => some "min" | .max1 => some "max" | .min1 => some "min" | .sorted => some "sorted" | .repr => some "repr" | _ => none
def MF.id : MF → Str
  | .append => "append" | .extend => "extend" | .index => "index" | .pop => "pop" | .reverse => "reverse" | .insert => "insert" | .clear => "clear" | .count => "count" | .join => "join"
def TyK.id : TyK → Str
  | .list => "list" | .tuple => "tuple" | .bool => "bool" | .int => "int" | .str => "str"
def notStar : Expr → Bool
  | .Starred _ _ => false
  | _ => true
def notSlice : Expr → Bool
  | .Slice _ _ _ _ => false
  | _ => true
/-- no call without arguments (super) -/
def notCall0 : Expr → Bool
  | .Call _ [] _ _ => false
  | _ => true
def notSet : Expr → Bool
  | .Set _ _ _ => false
  | _ => true
def notIf : Expr → Bool
  | .IfExp _ _ _ _ => false
  | _ => true
def MEs.len : MEs → Nat
  | .nil => 0
  | .cons _ es => es.len + 1
mutual
def MG.slots : MG → List Nat
  | .name i => [i]
  | .tup gs => gs.slots
def MGs.slots : MGs → List Nat
  | .nil => []
  | .cons g gs => g.slots ++ gs.slots
end
mutual
/-- a target -/
def chkG (N : List Str) (S : SC) : MG → Expr → Bool
  | .name i, e => (match e with | .Name x _ => (N[i]? == some x) && locB S x | _ => false)
  | .tup gs, e => (match e with | .Tuple xs _ _ => chkGs N S gs xs | _ => false)
def chkGs (N : List Str) (S : SC) : MGs → List Expr → Bool
  | .nil, es => es.isEmpty
  | .cons g gs, es => (match es with | e :: es => chkG N S g e && notStar e && chkGs N S gs es | [] => false)
end
def isTup : Expr → Bool
  | .Tuple _ _ _ => true
  | _ => false
/-- the names of a comprehension's own -/
def ownP (N : List Str) (own : List Nat) : List (Str × Nat) := own.map fun i => ((N[i]?).getD "", i)
def tysB (sc : Scope) : List TyK → List Expr → Bool
  | [], [] => true
  | t :: ts, .Name x _ :: es => (x == t.id) && glB sc x && tysB sc ts es
  | _, _ => false

/-- names of defs in a list -/
def fnsB (fn : List (Nat × Str)) (sc : Scope) : List Nat → List Expr → Bool
  | [], es => es.isEmpty
  | f :: fs, es => (match es with | .Name x _ :: ns => (fn.lookup f == some x) && glB sc x && nmB x && fnsB fn sc fs ns | _ => false)
mutual
def chkE (N : List Str) (fn : List (Nat × Str)) : SC → ME → Expr → Bool
  | S, .var i, e => (match e with | .Name x _ => (N[i]? == some x) && visB S.sc x && nmB x | _ => false)
  | _, .int i, e => (match e with | .Constant (.int j) _ _ => decide (i = j) | _ => false)
  | _, .bl b, e => (match e with | .Constant (.bool c) _ _ => b == c | _ => false)
  | _, .non, e => (match e with | .Constant .none _ _ => true | _ => false)
  | _, .str x, e => (match e with | .Constant (.str y) _ _ => decide (x = y) | _ => false)
  | S, .tup es, e => (match e with | .Tuple xs _ _ => chkEs N fn S es xs | _ => false)
  | S, .lst es, e => (match e with | .List xs _ => chkEs N fn S es xs | _ => false)
  | S, .bin op a b, e => (match e with | .BinOp x op' y _ => (op == op') && chkE N fn S a x && chkE N fn S b y | _ => false)
  | S, .neg a, e => (match e with | .UnaryOp .USub x _ => chkE N fn S a x | _ => false)
  | S, .not a, e => (match e with | .UnaryOp .Not x _ => chkE N fn S a x && notIf x | _ => false)
  | S, .cmp op a b, e => (match e with | .Compare x [op'] [y] _ => (op == op') && chkE N fn S a x && chkE N fn S b y && notSet y | _ => false)
  | S, .chain op1 op2 a b c, e => (match e with | .Compare x [o1, o2] [y, z] _ => (op1 == o1) && (op2 == o2) && chkE N fn S a x && chkE N fn S b y && chkE N fn S c z && notSet y && notSet z | _ => false)
  | S, .and es, e => (match e with | .BoolOp .And xs _ => chkEs N fn S es xs && xs.all notIf | _ => false)
  | S, .or es, e => (match e with | .BoolOp .Or xs _ => chkEs N fn S es xs && xs.all notIf | _ => false)
  | S, .ife c a b, e => (match e with | .IfExp x y z _ => chkE N fn S c x && chkE N fn S a y && chkE N fn S b z && notIf x | _ => false)
  | S, .ix a i, e => (match e with | .Subscript x y _ => chkE N fn S a x && chkE N fn S i y && notSlice y | _ => false)
  | S, .sl a lo hi, e => (match e with | .Subscript x (.Slice l h none _) _ => chkE N fn S a x && chkO N fn S lo l && chkO N fn S hi h | _ => false)
  | S, .stp a st, e => (match e with | .Subscript x (.Slice none none (some y) _) _ => chkE N fn S a x && chkE N fn S st y | _ => false)
  | S, .call f args, e => (match e with | .Call (.Name x _) es [] _ => (fn.lookup f == some x) && glB S.sc x && nmB x && chkEs N fn S args es | _ => false)
  | S, .bcall f args, e => (match f, args, e with
    | .listR1, .cons a .nil, .Call (.Name x _) [.Call (.Name y _) [z] [] _] [] _ => (x == ("list" : Str)) && (y == ("range" : Str)) && glB S.sc x && glB S.sc y && chkE N fn S a z && notStar z
    | .tupR1, .cons a .nil, .Call (.Name x _) [.Call (.Name y _) [z] [] _] [] _ => (x == ("tuple" : Str)) && (y == ("range" : Str)) && glB S.sc x && glB S.sc y && chkE N fn S a z && notStar z
    | .tupRev, .cons a .nil, .Call (.Name x _) [.Call (.Name y _) [z] [] _] [] _ => (x == ("tuple" : Str)) && (y == ("reversed" : Str)) && glB S.sc x && glB S.sc y && chkE N fn S a z && notStar z
    | .srtSet, .cons a .nil, .Call (.Name x _) [.Call (.Name y _) [z] [] _] [] _ => (x == ("sorted" : Str)) && (y == ("set" : Str)) && glB S.sc x && glB S.sc y && chkE N fn S a z && notStar z
    | .maxD, .cons a (.cons b .nil), .Call (.Name x _) [y] [⟨some k, z, _⟩] _ => (x == ("max" : Str)) && (k == ("default" : Str)) && glB S.sc x && chkE N fn S a y && chkE N fn S b z && notStar y
    | f, args, .Call (.Name x _) es [] _ => (f.id == some x) && glB S.sc x && chkEs N fn S args es && decide (0 < es.length)
    | _, _, _ => false)
  | S, .cix i a, e => (match e with | .Subscript (.Name y _) z _ => (match CST[i]? with | some c => (c.1 == y) && glB S.sc y && nmB y && S.cs.contains i && chkE N fn S a z && notSlice z | none => false) | _ => false)
  | S, .callL fs a args, e => (match e with | .Call (.Subscript (.List ns _) z _) (y :: es) [] _ => fnsB fn S.sc fs ns && decide (fs.length ≤ 1000) && chkE N fn S a z && notSlice z && chkEs N fn S args (y :: es) | _ => false)
  | S, .meth m o args, e => (match e with | .Call (.Attribute x name apos) es [] cpos => (name == m.id) && chkE N fn S o x && chkEs N fn S args es && notCall0 x && (apos.endLine == cpos.line) && decide (es.length < 20) | _ => false)
  | S, .isi a ts tup, e => (match e with
    | .Call (.Name x _) [y, .Tuple es _ _] [] _ => tup && (x == ("isinstance" : Str)) && glB S.sc x && chkE N fn S a y && notStar y && tysB S.sc ts es
    | .Call (.Name x _) [y, .Name z _] [] _ => !tup && (x == ("isinstance" : Str)) && glB S.sc x && chkE N fn S a y && notStar y && (match ts with | [t] => (z == t.id) && glB S.sc z | _ => false)
    | _ => false)
  | S, .lc own g it cnd elt, e => (match e with
    | .ListComp el [⟨tg, iter, ifs, ia⟩] scope _ => decide (ia = 0) && blkC N S.sc scope (ownP N own) && g.slots.all (fun i => own.contains i) && chkI N fn S it (isTup tg) iter && notSet iter &&
        chkG N ⟨relS scope S.sc, some (scope.names.filterMap fun p => if p.2 == .cell then some p.1 else none), S.cs⟩ g tg &&
        (match cnd, ifs with
          | .none, [] => true
          | .some c, [x] => chkE N fn ⟨relS scope S.sc, some (scope.names.filterMap fun p => if p.2 == .cell then some p.1 else none), S.cs⟩ c x && notIf x
          | _, _ => false) &&
        chkE N fn ⟨relS scope S.sc, some (scope.names.filterMap fun p => if p.2 == .cell then some p.1 else none), S.cs⟩ elt el
    | _ => false)
def chkEs (N : List Str) (fn : List (Nat × Str)) : SC → MEs → List Expr → Bool
  | _, .nil, es => es.isEmpty
  | S, .cons m ms, es => (match es with | e :: es => chkE N fn S m e && notStar e && chkEs N fn S ms es | [] => false)
def chkO (N : List Str) (fn : List (Nat × Str)) : SC → MEo → Option Expr → Bool
  | _, .none, o => o.isNone
  | S, .some m, o => (match o with | some e => chkE N fn S m e | none => false)
/-- tp: the target is a tuple -/
def chkI (N : List Str) (fn : List (Nat × Str)) : SC → MI → Bool → Expr → Bool
  | S, .seq m, _, e => chkE N fn S m e
  | S, .range1 a, _, e => (match e with | .Call (.Name x _) [y] [] _ => (x == ("range" : Str)) && glB S.sc x && chkE N fn S a y && notStar y | _ => false)
  | S, .range2 a b, _, e => (match e with | .Call (.Name x _) [y, z] [] _ => (x == ("range" : Str)) && glB S.sc x && chkE N fn S a y && chkE N fn S b z && notStar y && notStar z | _ => false)
  | S, .enum a, tp, e => (match e with | .Call (.Name x _) [y] [] _ => tp && (x == ("enumerate" : Str)) && glB S.sc x && chkE N fn S a y && notStar y | _ => false)
  | S, .zip a b, tp, e => (match e with | .Call (.Name x _) [y, z] [] _ => tp && (x == ("zip" : Str)) && glB S.sc x && chkE N fn S a y && chkE N fn S b z && notStar y && notStar z | _ => false)
end

/-! ### what stands around -/
/-- a def's promise: what the evaluator says -/
def spM (K : PySem.W.Frag) (cf : CF) (f : Nat) : Sp := fun vs H Q _ => ∃ pvs β M, RelH K β M H ∧ Reps K H β pvs vs ∧ Out K β M H (cf f pvs M) (kQ K Q) (fun _ _ _ _ => False)
/-- a def's promise, kept wherever nothing is being shown -/
structure FnG (P : Program) (w : World) (K : PySem.W.Frag) (mg : Str → Option Value) (base : Heap) (k : Nat) (f : Addr) (fd : FuncData) (ps : List Str) (sp : Sp) : Prop where
  many : ∀ xs H Q E, sp xs H Q E → xs.length = ps.length
  goes : ∀ (B : Around) (out : List Env) (s : Shared) (H : Hp) (as : Args) (us : List Value) (xs : List V) (Q : VK) (E : XK), Room k B → B.guards = some [] → Env0 P w K mg base B out s H → BindsTo s fd as (ps.zip us) → Vals xs us → sp xs H Q E →
    codeAny (model P w) B (.call (.ref f) as) (CR CX0 out P w H s Q E) s
/-- a def of the text is at hand -/
def FnAt (P : Program) (w : World) (K : PySem.W.Frag) (mg : Str → Option Value) (base : Heap) (k : Nat) (cf : CF) (f : Nat) (x : Str) : Prop :=
  ∃ fa fd ps, mg x = some (.ref fa) ∧ PySem.W.keepIn K (.ref fa) = true ∧ Binds K fd ps [] ∧ FnG P w K mg base k fa fd ps (spM K cf f)
def bltNames : List Str := ["len", "all", "any", "int", "list", "tuple", "sum", "max", "min", "range", "enumerate", "zip", "isinstance", "bool", "str", "sorted", "repr", "reversed", "set", "dict"]
/-- a dict of the top is at hand -/
def CstAt (K : PySem.W.Frag) (w : World) (mg : Str → Option Value) (i : Nat) : Prop :=
  ∀ c, CST[i]? = some c → ∃ a, mg c.1 = some (.ref a) ∧ ∀ s p, c.2.lookup s = some p → ∃ v, KDct K w a s v ∧ ∀ H β, Rep K H β p v
structure Gd (X : Cx) (k : Nat) (cf : CF) (fn : List (Nat × Str)) (S : SC) : Prop where
  calm : X.calm = true
  nd : X.N.Nodup
  room : Room k X.A
  gd : X.A.guards = some []
  sc : X.env.scope = S.sc
  fnk : ∀ x, S.fnOk x = true → X.fn x = true
  po : PassesOwn (model X.prog X.w) X.A X.env X.xe
  blt : ∀ x ∈ bltNames, X.mg x = none
  fns : ∀ f x, fn.lookup f = some x → FnAt X.prog X.w X.K X.mg X.base k cf f x
  cst : ∀ i ∈ S.cs, CstAt X.K X.w X.mg i

section
variable {X : Cx} {k : Nat} {cf : CF} {fn : List (Nat × Str)} {S : SC}
theorem Gd.hu (G : Gd X k cf fn S) : X.A.units + 65 < cLine := by
  have := G.room.un
  omega
theorem Gd.vis (G : Gd X k cf fn S) {x : Str} (h : visB S.sc x = true) : Vis X.env.scope x := by
  rw [G.sc]
  unfold visB at h
  unfold Vis
  split at h <;> first | (cases h; done) | simp_all
theorem Gd.gl (G : Gd X k cf fn S) {x : Str} (h : glB S.sc x = true) : Gl X x := by
  unfold Gl Env.kindOf
  rw [G.sc]
  unfold glB at h
  split at h <;> first | assumption | cases h
theorem Gd.loc (G : Gd X k cf fn S) {x : Str} (h : locB S x = true) : Loc X.env.scope x ∧ (X.fn x = true ∨ X.env.scope.names.lookup x = some .local) := by
  rw [G.sc]
  unfold locB at h
  split at h
  · rename_i e; exact ⟨.inl e, .inr e⟩
  · rename_i e; exact ⟨.inr e, .inl (G.fnk x h)⟩
  · cases h
theorem nmB_of {x : Str} (h : nmB x = true) : (x == ("__debug__" : Str)) = false ∧ (x == ("__classdict__" : Str)) = false := by
  unfold nmB at h
  simpa using h
theorem notStar_of {e : Expr} {es : List Expr} {env : Env} (h : notStar e = true) : starEach (e :: es) env = (false, eval e env) :: starEach es env := by
  cases e <;> first | rfl | cases h
theorem star_any (pos : Pos) {env : Env} : ∀ {es : List Expr}, es.all notStar = true → (backTo pos (starEach es env)).any (·.1) = false
  | [], _ => rfl
  | e :: es, h => by
    rw [List.all_cons, Bool.and_eq_true] at h
    rw [notStar_of h.1]
    show (false || (backTo pos (starEach es env)).any (·.1)) = false
    rw [star_any pos h.2]
    rfl
theorem chkEs_star {N : List Str} : ∀ {ms : MEs} {es : List Expr}, chkEs N fn S ms es = true → es.all notStar = true
  | .nil, es, h => by
    unfold chkEs at h
    cases es with
    | nil => rfl
    | cons _ _ => cases h
  | .cons m ms, es, h => by
    unfold chkEs at h
    cases es with
    | nil => cases h
    | cons e es =>
      simp only [Bool.and_eq_true] at h
      rw [List.all_cons, h.1.2, chkEs_star h.2]
      rfl
end
end Mn
end
section
set_option Elab.async false
set_option linter.all false
set_option maxRecDepth 100000
set_option maxHeartbeats 4000000
namespace Mn
open PySem PySem.Spec PyProof.Rows L2

section
variable {X : Cx} {w : WS} {a b c e : Expr} {pos : Pos} {ea eb ec : Mn.Ev}

theorem s_var {i : Nat} {x : Str} (hN : X.N[i]? = some x) (hv : Vis X.env.scope x) (hd : (x == ("__debug__" : Str)) = false) (hcd : (x == ("__classdict__" : Str)) = false) :
    PE X (.Name x pos) (tE X.K w (fun σ M => (match σ[i]? with | some (some v) => .ok v M | _ => .stuck))) := by
  refine PE.imp (pe_var hN hv hd hcd) fun σ H Q h => ?_
  obtain ⟨mσ, β, M, R, Sl, o⟩ := h
  simp only at o
  split at o
  · rename_i v ev
    obtain ⟨y, e1, r⟩ := Sl.2 i v ev
    exact ⟨y, e1, o.flat R r⟩
  · exact o.elim
theorem s_const {v : PV} {x : V} (h : PE X e (tC x)) (r : ∀ H β, Rep X.K H β v x) : PE X e (tE X.K w (fun _ M => .ok v M)) := by
  refine PE.imp h fun σ H Q h => ?_
  obtain ⟨mσ, β, M, R, Sl, o⟩ := h
  exact o.flat R (r H β)
theorem s_trim (h : PE X e (tE X.K w ea)) : PE X e (tE X.K w (fun σ M => trim M (ea σ M))) := PE.imp h fun σ H Q q => tE_trim q
/-- two values, then an operation -/
theorem two {f : PV → PV → Mem → Res PV} {σ : L2.St} {H : Hp} {Q : VK} (h : tE X.K w (fun σ M => (ea σ M).bind fun v M1 => (eb σ M1).bind fun u M2 => f v u M2) σ H Q) :
    tE X.K w ea σ H fun x H1 => tE X.K w eb σ H1 fun y H2 => rM X.K f x y H2 Q := by
  obtain ⟨mσ, β, M, R, Sl, o⟩ := h
  obtain ⟨mσ', β', M', R', Sl', o'⟩ := tE_step R Sl o
  refine ⟨mσ', β', M', R', Sl', o'.imp (fun v β1 M1 H1 s1 q x hx => ?_) fun _ _ _ _ _ q => q⟩
  obtain ⟨v1, β2, M2, s2, r2, o2⟩ := q x hx
  have h3 := tE_step (w := w) s2.rel (Sl.stp R s2) o2
  obtain ⟨mσ3, β3, M3, R3, Sl3, o3⟩ := h3
  refine ⟨mσ3, β3, M3, R3, Sl3, o3.imp (fun u β4 M4 H4 s4 q4 y hy => ?_) fun _ _ _ _ _ q => q⟩
  obtain ⟨u1, β5, M5, s5, r5, o5⟩ := q4 y hy
  exact ⟨v1, u1, β5, M5, w σ, s5.rel, s5.rep s2.rel r2, r5, o5⟩
theorem s_bin {op : Operator} (ha : PE X a (tE X.K w ea)) (hb : PE X b (tE X.K w eb)) : PE X (.BinOp a op b pos) (tE X.K w (fun σ M => (ea σ M).bind fun v M1 => (eb σ M1).bind fun u M2 => binM op v u M2)) :=
  PE.imp (pe_op (op_binM op) ha hb) fun σ H Q h => two h
theorem s_cmp {op : CmpOp} (hu : X.A.units + 65 < cLine) (hm : behindInMarks op b = false) (ha : PE X a (tE X.K w ea)) (hb : PE X b (tE X.K w eb)) : PE X (.Compare a [op] [b] pos) (tE X.K w (fun σ M => (ea σ M).bind fun v M1 => (eb σ M1).bind fun u M2 => cmpM op v u M2)) :=
  PE.imp (pe_cmpR (op_cmpM hu op) ha hb hm) fun σ H Q h => two h
theorem s_ix (hs : PlainIx b) (ha : PE X a (tE X.K w ea)) (hb : PE X b (tE X.K w eb)) : PE X (.Subscript a b pos) (tE X.K w (fun σ M => (ea σ M).bind fun v M1 => (eb σ M1).bind fun u M2 => ixM v u M2)) :=
  PE.imp (pe_ix ix_okM ha hb hs) fun σ H Q h => two h
/-- one value, and a continuation -/
theorem one {γ : Type} {f : PV → Mem → Res γ} {k : γ → List Addr → Mem → Hp → Prop} {mσ : Mn.St} {σ : L2.St} {β : List Addr} {M : Mem} {H : Hp} {Q : VK} (R : RelH X.K β M H) (Sl : RelS X.K H β mσ σ)
    (o : Out X.K β M H ((ea mσ M).bind f) k (w σ)) (hq : ∀ v x β1 M1 H1, Stp X.K β M H β1 M1 H1 → Rep X.K H1 β1 v x → RelS X.K H1 β1 mσ σ → Out X.K β1 M1 H1 (f v M1) k (w σ) → Q x H1) : tE X.K w ea σ H Q := by
  obtain ⟨mσ', β', M', R', Sl', o'⟩ := tE_step R Sl o
  refine ⟨mσ', β', M', R', Sl', o'.imp (fun v β1 M1 H1 s1 q x hx => ?_) fun _ _ _ _ _ q => q⟩
  obtain ⟨v1, β2, M2, s2, r2, o2⟩ := q x hx
  exact hq v1 x β2 M2 H1 s2 r2 (Sl.stp R s2) o2
theorem oneT {γ : Type} {f : PV → Mem → Res γ} {k : γ → List Addr → Mem → Hp → Prop} {mσ : Mn.St} {σ : L2.St} {β : List Addr} {M : Mem} {H : Hp} {Q : VK} (R : RelH X.K β M H) (Sl : RelS X.K H β mσ σ)
    (o : Out X.K β M H ((trim M (ea mσ M)).bind f) k (w σ)) (hq : ∀ v x β1 M1 H1, Stp X.K β M H β1 M1 H1 → Rep X.K H1 β1 v x → RelS X.K H1 β1 mσ σ → Out X.K β1 M1 H1 (f v M1) k (w σ) → Q x H1) : tE X.K w ea σ H Q := by
  obtain ⟨mσ', β', M', R', Sl', o'⟩ := tE_stepT R Sl o
  refine ⟨mσ', β', M', R', Sl', o'.imp (fun v β1 M1 H1 s1 q x hx => ?_) fun _ _ _ _ _ q => q⟩
  obtain ⟨v1, β2, M2, s2, r2, o2⟩ := q x hx
  exact hq v1 x β2 M2 H1 s2 r2 (Sl.stp R s2) o2
theorem oneA {γ : Type} {ev : Mn.St → Mem → Res (List PV)} {f : List PV → Mem → Res γ} {k : γ → List Addr → Mem → Hp → Prop} {mσ : Mn.St} {σ : L2.St} {β : List Addr} {M : Mem} {H : Hp} {Q : List V → Hp → Prop} (R : RelH X.K β M H) (Sl : RelS X.K H β mσ σ)
    (o : Out X.K β M H ((ev mσ M).bind f) k (w σ)) (hq : ∀ v x β1 M1 H1, Stp X.K β M H β1 M1 H1 → Reps X.K H1 β1 v x → RelS X.K H1 β1 mσ σ → Out X.K β1 M1 H1 (f v M1) k (w σ) → Q x H1) : tAs X.K w ev σ H Q := by
  obtain ⟨mσ', β', M', R', Sl', o'⟩ := tA_step R Sl o
  refine ⟨mσ', β', M', R', Sl', o'.imp (fun v β1 M1 H1 s1 q x hx => ?_) fun _ _ _ _ _ q => q⟩
  obtain ⟨v1, β2, M2, s2, r2, o2⟩ := q x hx
  exact hq v1 x β2 M2 H1 s2 r2 (Sl.stp R s2) o2
theorem oneB {γ : Type} {ev : Mn.St → Mem → Res Bool} {f : Bool → Mem → Res γ} {k : γ → List Addr → Mem → Hp → Prop} {mσ : Mn.St} {σ : L2.St} {β : List Addr} {M : Mem} {H : Hp} {Q : Bool → Hp → Prop} (R : RelH X.K β M H) (Sl : RelS X.K H β mσ σ)
    (o : Out X.K β M H ((ev mσ M).bind f) k (w σ)) (hq : ∀ b β1 M1 H1, Stp X.K β M H β1 M1 H1 → RelS X.K H1 β1 mσ σ → Out X.K β1 M1 H1 (f b M1) k (w σ) → Q b H1) : tTs X.K w ev σ H Q := by
  obtain ⟨mσ', β', M', R', Sl', o'⟩ := tT_step R Sl o
  refine ⟨mσ', β', M', R', Sl', o'.imp (fun v β1 M1 H1 s1 q => ?_) fun _ _ _ _ _ q => q⟩
  obtain ⟨β2, M2, s2, o2⟩ := q
  exact hq v β2 M2 H1 s2 (Sl.stp R s2) o2
theorem s_neg (ha : PE X a (tE X.K w ea)) : PE X (.UnaryOp .USub a pos) (tE X.K w (fun σ M => (ea σ M).bind fun v M1 => (intR v M1).bind fun i M2 => .ok (.int (-i)) M2)) := by
  refine PE.imp (pe_un un_neg ha) fun σ H Q h => ?_
  obtain ⟨mσ, β, M, R, Sl, o⟩ := h
  refine one R Sl o fun v x β1 M1 H1 s1 r1 S1 o1 => ?_
  cases v with
  | int i => exact ⟨i, rep_int.mp r1, o1.flat s1.rel (rep_int.mpr rfl)⟩
  | _ => exact o1.elim
theorem s_not (ha : PE X a (tE X.K w ea)) : PE X (.UnaryOp .Not a pos) (tE X.K w (fun σ M => (ea σ M).bind fun v M1 => (truth v M1).bind fun b M2 => .ok (.bl (!b)) M2)) := by
  refine PE.imp (pe_notT ha) fun σ H Q h => ?_
  obtain ⟨mσ, β, M, R, Sl, o⟩ := h
  refine one R Sl o fun v x β1 M1 H1 s1 r1 S1 o1 => ?_
  obtain ⟨b, tb, o2⟩ := truth_ok s1.rel r1 o1
  exact ⟨b, tb, o2.flat s1.rel (rep_bl.mpr rfl)⟩
theorem s_chain {op op' : CmpOp} (hu : X.A.units + 65 < cLine) (hm : lastMarks [op, op'] [b, c] = false) (ha : PE X a (tE X.K w ea)) (hb : PE X b (tE X.K w eb)) (hc : PE X c (tE X.K w ec)) :
    PE X (.Compare a [op, op'] [b, c] pos) (tE X.K w (fun σ M => (ea σ M).bind fun v M1 => (eb σ M1).bind fun u M2 => (cmpM op v u M2).bind fun r M3 =>
      match r with
      | .bl true => (ec σ M3).bind fun z M4 => cmpM op' u z M4
      | .bl false => .ok (.bl false) M3
      | _ => .stuck)) := by
  refine PE.imp (pe_chain (op_cmpM hu op) (op_cmpM hu op') ha hb hc hm) fun σ H Q h => ?_
  obtain ⟨mσ, β, M, R, Sl, o⟩ := h
  refine one R Sl o fun v x β1 M1 H1 s1 r1 S1 o1 => ?_
  refine one s1.rel S1 o1 fun u y β2 M2 H2 s2 r2 S2 o2 => ?_
  refine ⟨v, u, β2, M2, w σ, s2.rel, s2.rep s1.rel r1, r2, (o2.bind s2.rel).imp (fun r β3 M3 H3 s3 q z rz => ?_) fun _ _ _ _ _ q => q⟩
  cases r with
  | bl b =>
    have ez := rep_bl.mp rz
    cases b with
    | true =>
      refine ⟨true, ez, ?_⟩
      rw [if_pos rfl]
      refine one s3.rel (S2.stp s2.rel s3) q fun t yy β4 M4 H4 s4 r4 S4 o4 => ?_
      exact ⟨u, t, β4, M4, w σ, s4.rel, s4.rep s3.rel (s3.rep s2.rel r2), r4, o4⟩
    | false =>
      refine ⟨false, ez, ?_⟩
      rw [if_neg Bool.false_ne_true]
      exact q.flat s3.rel (rep_bl.mpr rfl)
  | _ => exact q.elim
theorem s_ife (hc : PT X c (tTs X.K w (fun σ M => (ec σ M).bind truth))) (ha : PE X a (tE X.K w ea)) (hb : PE X b (tE X.K w eb)) :
    PE X (.IfExp c a b pos) (tE X.K w (fun σ M => ((ec σ M).bind truth).bind fun t M2 => if t then ea σ M2 else eb σ M2)) := by
  refine PE.imp (pe_ifExp hc ha hb) fun σ H Q h => ?_
  obtain ⟨mσ, β, M, R, Sl, o⟩ := h
  refine oneB (ev := fun σ M => (ec σ M).bind truth) R Sl o fun t β1 M1 H1 s1 S1 o1 => ?_
  cases t with
  | true => rw [if_pos rfl] at o1 ⊢; exact ⟨mσ, β1, M1, s1.rel, S1, o1⟩
  | false => rw [if_neg Bool.false_ne_true] at o1 ⊢; exact ⟨mσ, β1, M1, s1.rel, S1, o1⟩

/-! ### tests -/
theorem plain_of (hp : ∀ whole, isTrue e X.env whole = (do let v ← whole; standAt e.pos; holding [v] (truthy v))) (ha : PE X e (tE X.K w ea)) : PT X e (tTs X.K w (fun σ M => (ea σ M).bind truth)) := by
  refine PT.imp (pt_truth ha hp) fun σ H Q h => ?_
  obtain ⟨mσ, β, M, R, Sl, o⟩ := h
  refine one R Sl o fun v x β1 M1 H1 s1 r1 S1 o1 => ?_
  have o1' : Out X.K β1 M1 H1 ((truth v M1).bind fun b M => .ok b M) (kB Q) (w σ) := by
    revert o1
    cases truth v M1 with
    | ok v M1 => exact fun o => o
    | exc v M1 => exact fun o => o
    | stuck => exact fun o => o
  obtain ⟨b, tb, o2⟩ := truth_ok s1.rel r1 o1'
  exact ⟨b, tb, o2.ok s1.rel⟩
end
end Mn
end
section
set_option Elab.async false
set_option linter.all false
set_option maxRecDepth 100000
set_option maxHeartbeats 4000000
namespace Mn
open PySem PySem.Spec PyProof.Rows L2

section
variable {X : Cx} {w : WS} {a b c e : Expr} {es : List Expr} {pos : Pos} {ea eb ec : Mn.Ev} {eA : Mn.St → Mem → Res (List PV)}

theorem a_nil : PA X [] (tAs X.K w (fun _ M => .ok [] M)) := by
  refine PA.imp pa_nil fun σ H Q h => ?_
  obtain ⟨mσ, β, M, R, Sl, o⟩ := h
  exact o.ok R [] (reps_nil.mpr rfl)
theorem a_cons (hs : notStar e = true) (ha : PE X e (tE X.K w ea)) (hr : PA X es (tAs X.K w eA)) : PA X (e :: es) (tAs X.K w (fun σ M => (ea σ M).bind fun v M1 => (eA σ M1).bind fun vs M2 => .ok (v :: vs) M2)) := by
  refine PA.imp (pa_cons ha hr (notStar_of hs)) fun σ H Q h => ?_
  obtain ⟨mσ, β, M, R, Sl, o⟩ := h
  refine one R Sl o fun v x β1 M1 H1 s1 r1 S1 o1 => ?_
  refine oneA s1.rel S1 o1 fun vs xs β2 M2 H2 s2 r2 S2 o2 => ?_
  exact o2.ok s2.rel (x :: xs) (reps_cons.mpr ⟨x, xs, rfl, s2.rep s1.rel r1, r2⟩)
theorem s_tup {kk : Nat} (ha : PA X es (tAs X.K w eA)) : PE X (.Tuple es kk pos) (tE X.K w (fun σ M => (eA σ M).bind fun vs M1 => if vs.length ≤ LIM then .ok (.tup vs) M1 else .stuck)) := by
  refine ⟨fun pins s σ H Q I h => ?_⟩
  obtain ⟨mσ, β, M, R, Sl, o⟩ := h
  have key : tAs X.K w eA σ H fun xs H1 => xs.length ≤ sizeLine ∧ ∀ p ob, H1 p = none → ob.dict = none → Q (.ref p) (upd H1 p (.frz ob (.tup xs))) :=
    oneA R Sl o fun vs xs β1 M1 H1 s1 r1 S1 o1 => by
      by_cases hz : vs.length ≤ LIM
      · rw [if_pos hz] at o1
        exact ⟨by rw [← r1.length, ← LIM_eq]; exact hz, fun p ob hp ho => o1.tup s1.rel r1 hp ho⟩
      · rw [if_neg hz] at o1; exact o1.elim
  refine wpAny_Tuple_spliced (thn (ha.run pos pins s σ H _ I key) fun us s1 ⟨xs, H1, I1, r, z, q⟩ => ⟨by rw [← r.length]; exact z, ?_⟩)
  exact ⟨.ref s1.heap.objs.size, _, newTup I1 r z, rfl, q _ _ (I1.hok.fresh (Nat.le_refl _)) rfl⟩
theorem s_lst (ha : PA X es (tAs X.K w eA)) : PE X (.List es pos) (tE X.K w (fun σ M => (eA σ M).bind fun vs M1 => if vs.length ≤ LIM then .ok (.ref M1.sz) (M1.push (.lst vs)) else .stuck)) := by
  refine PE.imp (pe_lst ha) fun σ H Q h => ?_
  obtain ⟨mσ, β, M, R, Sl, o⟩ := h
  refine oneA R Sl o fun vs xs β1 M1 H1 s1 r1 S1 o1 => ?_
  by_cases hz : vs.length ≤ LIM
  · rw [if_pos hz] at o1
    exact ⟨by rw [← r1.length, ← LIM_eq]; exact hz, fun p hp => o1.lst s1.rel r1 hp⟩
  · rw [if_neg hz] at o1; exact o1.elim
theorem s_and {rest : List Expr} (ha : PE X a (tE X.K w ea)) (hb : PE X (.BoolOp .And (b :: rest) pos) (tE X.K w eb)) :
    PE X (.BoolOp .And (a :: b :: rest) pos) (tE X.K w (fun σ M => (ea σ M).bind fun v M1 => (truth v M1).bind fun t M2 => if t then eb σ M2 else .ok v M2)) := by
  refine PE.imp (pe_andT ha hb) fun σ H Q h => ?_
  obtain ⟨mσ, β, M, R, Sl, o⟩ := h
  refine one R Sl o fun v x β1 M1 H1 s1 r1 S1 o1 => ?_
  obtain ⟨t, tb, o2⟩ := truth_ok s1.rel r1 o1
  refine ⟨t, tb, ?_⟩
  cases t with
  | true => rw [if_pos rfl] at o2 ⊢; exact ⟨mσ, β1, M1, s1.rel, S1, o2⟩
  | false => rw [if_neg Bool.false_ne_true] at o2 ⊢; exact o2.flat s1.rel r1
theorem s_or {rest : List Expr} (ha : PE X a (tE X.K w ea)) (hb : PE X (.BoolOp .Or (b :: rest) pos) (tE X.K w eb)) :
    PE X (.BoolOp .Or (a :: b :: rest) pos) (tE X.K w (fun σ M => (ea σ M).bind fun v M1 => (truth v M1).bind fun t M2 => if t then .ok v M2 else eb σ M2)) := by
  refine PE.imp (pe_orT ha hb) fun σ H Q h => ?_
  obtain ⟨mσ, β, M, R, Sl, o⟩ := h
  refine one R Sl o fun v x β1 M1 H1 s1 r1 S1 o1 => ?_
  obtain ⟨t, tb, o2⟩ := truth_ok s1.rel r1 o1
  refine ⟨t, tb, ?_⟩
  cases t with
  | true => rw [if_pos rfl] at o2 ⊢; exact o2.flat s1.rel r1
  | false => rw [if_neg Bool.false_ne_true] at o2 ⊢; exact ⟨mσ, β1, M1, s1.rel, S1, o2⟩
/-- tests of and, or -/
theorem assoc3 {α γ δ : Type} (r : Res α) (f : α → Mem → Res γ) (g : γ → Mem → Res δ) : (r.bind f).bind g = r.bind fun a M => (f a M).bind g := by cases r <;> rfl
theorem w_and {rest : List Expr} (ha : PT X a (tTs X.K w (fun σ M => (ea σ M).bind truth))) (hb : PW X (.BoolOp .And (b :: rest) pos) (tTs X.K w (fun σ M => (eb σ M).bind truth))) :
    PW X (.BoolOp .And (a :: b :: rest) pos) (tTs X.K w (fun σ M => ((ea σ M).bind fun v M1 => (truth v M1).bind fun t M2 => if t then eb σ M2 else .ok v M2).bind truth)) := by
  refine PW.imp (pw_and ha hb) fun σ H Q h => ?_
  obtain ⟨mσ, β, M, R, Sl, o⟩ := h
  have o' : Out X.K β M H (((ea mσ M).bind truth).bind fun t M2 => if t then (eb mσ M2).bind truth else .ok false M2) (kB Q) (w σ) := by
    simp only [assoc3] at o ⊢
    revert o
    cases ea mσ M with
    | ok v M1 =>
      simp only [Res.bind]
      cases ht : truth v M1 with
      | ok t M2 =>
        have em : M2 = M1 := by
          unfold truth at ht
          cases v with
          | str z =>
            simp only at ht
            split at ht <;> cases ht
            rfl
          | ref n =>
            simp only at ht
            split at ht <;> cases ht
            rfl
          | _ => cases ht; rfl
        subst em
        cases t with
        | true => exact fun o => o
        | false =>
          simp only [Bool.false_eq_true, if_false]
          rw [ht]
          exact fun o => o
      | exc v M1 => exact fun o => o
      | stuck => exact fun o => o
    | exc v M1 => exact fun o => o
    | stuck => exact fun o => o
  refine oneB (ev := fun σ M => (ea σ M).bind truth) R Sl o' fun t β1 M1 H1 s1 S1 o1 => ?_
  cases t with
  | true => rw [if_pos rfl] at o1 ⊢; exact ⟨mσ, β1, M1, s1.rel, S1, o1⟩
  | false => rw [if_neg Bool.false_ne_true] at o1 ⊢; exact o1.ok s1.rel
theorem w_or {rest : List Expr} (ha : PT X a (tTs X.K w (fun σ M => (ea σ M).bind truth))) (hb : PW X (.BoolOp .Or (b :: rest) pos) (tTs X.K w (fun σ M => (eb σ M).bind truth))) :
    PW X (.BoolOp .Or (a :: b :: rest) pos) (tTs X.K w (fun σ M => ((ea σ M).bind fun v M1 => (truth v M1).bind fun t M2 => if t then .ok v M2 else eb σ M2).bind truth)) := by
  refine PW.imp (pw_or ha hb) fun σ H Q h => ?_
  obtain ⟨mσ, β, M, R, Sl, o⟩ := h
  have o' : Out X.K β M H (((ea mσ M).bind truth).bind fun t M2 => if t then .ok true M2 else (eb mσ M2).bind truth) (kB Q) (w σ) := by
    simp only [assoc3] at o ⊢
    revert o
    cases ea mσ M with
    | ok v M1 =>
      simp only [Res.bind]
      cases ht : truth v M1 with
      | ok t M2 =>
        have em : M2 = M1 := by
          unfold truth at ht
          cases v with
          | str z =>
            simp only at ht
            split at ht <;> cases ht
            rfl
          | ref n =>
            simp only at ht
            split at ht <;> cases ht
            rfl
          | _ => cases ht; rfl
        subst em
        cases t with
        | false => exact fun o => o
        | true =>
          simp only [if_true]
          rw [ht]
          exact fun o => o
      | exc v M1 => exact fun o => o
      | stuck => exact fun o => o
    | exc v M1 => exact fun o => o
    | stuck => exact fun o => o
  refine oneB (ev := fun σ M => (ea σ M).bind truth) R Sl o' fun t β1 M1 H1 s1 S1 o1 => ?_
  cases t with
  | true => rw [if_pos rfl] at o1 ⊢; exact o1.ok s1.rel
  | false => rw [if_neg Bool.false_ne_true] at o1 ⊢; exact ⟨mσ, β1, M1, s1.rel, S1, o1⟩
/-- a value that is a truth, as a test -/
theorem t_of_bl {Q : Bool → Hp → Prop} {σ : L2.St} {H : Hp} {f : Mn.St → Mem → Res PV} (hf : ∀ σ M v M', f σ M = .ok v M' → ∃ b, v = .bl b) (h : tTs X.K w (fun σ M => (f σ M).bind truth) σ H Q) :
    ∃ mσ β M, RelH X.K β M H ∧ RelS X.K H β mσ σ ∧ Out X.K β M H (f mσ M) (kQ X.K fun x H' => ∃ b, x = .bl b ∧ Q b H') (w σ) := by
  obtain ⟨mσ, β, M, R, Sl, o⟩ := h
  refine ⟨mσ, β, M, R, Sl, ?_⟩
  simp only at o
  revert o
  cases hr : f mσ M with
  | ok v M1 =>
    obtain ⟨b, rfl⟩ := hf _ _ _ _ hr
    exact fun o β1 H1 s x hx => ⟨b, rep_bl.mp hx, o β1 H1 s⟩
  | exc v M1 => exact fun o => o
  | stuck => exact fun o => o
theorem ltPr_bl {v u : PV} {M M' : Mem} {r : PV} (h : ltPr v u M = .ok r M') : ∃ b, r = .bl b := by
  unfold ltPr at h
  split at h
  · split at h <;> first | (cases h; exact ⟨_, rfl⟩) | (cases h; done)
  · cases h
theorem cmpM_bl {op : CmpOp} {v u : PV} {M M' : Mem} {r : PV} (h : cmpM op v u M = .ok r M') : ∃ b, r = .bl b := by
  unfold cmpM at h
  cases op <;> simp only at h <;> split at h <;> first | (cases h; exact ⟨_, rfl⟩) | (cases h; done) | (split at h <;> first | (cases h; exact ⟨_, rfl⟩) | (cases h; done) | exact ltPr_bl h)
theorem bind_ok {α γ : Type} {r : Res α} {f : α → Mem → Res γ} {c : γ} {M' : Mem} (h : r.bind f = .ok c M') : ∃ a M1, r = .ok a M1 ∧ f a M1 = .ok c M' := by
  cases r with
  | ok a M1 => exact ⟨a, M1, rfl, h⟩
  | exc v M1 => cases h
  | stuck => cases h
theorem trim_bl {M0 M' : Mem} {r : Res PV} {v : PV} (hr : ∀ v M, r = .ok v M → ∃ b, v = .bl b) (h : trim M0 r = .ok v M') : ∃ b, v = .bl b := by
  cases r with
  | ok u M =>
    obtain ⟨b, rfl⟩ := hr u M rfl
    have h : trimV M0 (.bl b) M = .ok v M' := h
    cases h; exact ⟨b, rfl⟩
  | exc v M => cases h
  | stuck => cases h
theorem t_cmp {op : CmpOp} (hu : X.A.units + 65 < cLine) (hm : behindInMarks op b = false) (ha : PE X a (tE X.K w ea)) (hb : PE X b (tE X.K w eb)) :
    PT X (.Compare a [op] [b] pos) (tTs X.K w (fun σ M => (trim M ((ea σ M).bind fun v M1 => (eb σ M1).bind fun u M2 => cmpM op v u M2)).bind truth)) := by
  refine PT.imp (pt_cmpR (op_cmpM hu op) ha hb hm) fun σ H Q h => ?_
  have h' := t_of_bl (fun σ M v M' e => trim_bl (fun v M e => by
    obtain ⟨_, _, _, e⟩ := bind_ok e
    obtain ⟨_, _, _, e⟩ := bind_ok e
    exact cmpM_bl e) e) h
  exact two (tE_trim h')
theorem t_chain {op op' : CmpOp} (hu : X.A.units + 65 < cLine) (hm : lastMarks [op, op'] [b, c] = false) (ha : PE X a (tE X.K w ea)) (hb : PE X b (tE X.K w eb)) (hc : PE X c (tE X.K w ec)) :
    PT X (.Compare a [op, op'] [b, c] pos) (tTs X.K w (fun σ M => (trim M ((ea σ M).bind fun v M1 => (eb σ M1).bind fun u M2 => (cmpM op v u M2).bind fun r M3 =>
      match r with
      | .bl true => (ec σ M3).bind fun z M4 => cmpM op' u z M4
      | .bl false => .ok (.bl false) M3
      | _ => .stuck)).bind truth)) := by
  refine PT.imp (pt_chain (op_cmpM hu op) (op_cmpM hu op') ha hb hc hm) fun σ H Q h => ?_
  have h' := t_of_bl (fun σ M v M' e => trim_bl (fun v M e => by
    obtain ⟨_, _, _, e⟩ := bind_ok e
    obtain ⟨_, _, _, e⟩ := bind_ok e
    obtain ⟨r, _, _, e⟩ := bind_ok e
    split at e
    · obtain ⟨_, _, _, e⟩ := bind_ok e
      exact cmpM_bl e
    · cases e; exact ⟨_, rfl⟩
    · cases e) e) h
  obtain ⟨mσ, β, M, R, Sl, o⟩ := tE_trim h'
  refine one R Sl o fun v x β1 M1 H1 s1 r1 S1 o1 => ?_
  refine one s1.rel S1 o1 fun u y β2 M2 H2 s2 r2 S2 o2 => ?_
  refine ⟨v, u, β2, M2, w σ, s2.rel, s2.rep s1.rel r1, r2, (o2.bind s2.rel).imp (fun r β3 M3 H3 s3 q z rz => ?_) fun _ _ _ _ _ q => q⟩
  cases r with
  | bl b =>
    have ez := rep_bl.mp rz
    cases b with
    | true =>
      refine ⟨true, ez, ?_⟩
      rw [if_pos rfl]
      refine one s3.rel (S2.stp s2.rel s3) q fun t yy β4 M4 H4 s4 r4 S4 o4 => ?_
      exact ⟨u, t, β4, M4, w σ, s4.rel, s4.rep s3.rel (s3.rep s2.rel r2), r4, o4⟩
    | false =>
      refine ⟨false, ez, ?_⟩
      rw [if_neg Bool.false_ne_true]
      exact q.flat s3.rel (rep_bl.mpr rfl)
  | _ => exact q.elim
theorem t_not (ha : PT X a (tTs X.K w (fun σ M => (ea σ M).bind truth))) : PT X (.UnaryOp .Not a pos) (tTs X.K w (fun σ M => (trim M ((ea σ M).bind fun v M1 => (truth v M1).bind fun b M2 => .ok (.bl (!b)) M2)).bind truth)) := by
  refine PT.imp (pt_not ha) fun σ H Q h => ?_
  have h' := t_of_bl (fun σ M v M' e => trim_bl (fun v M e => by
    obtain ⟨_, _, _, e⟩ := bind_ok e
    obtain ⟨_, _, _, e⟩ := bind_ok e
    cases e; exact ⟨_, rfl⟩) e) h
  obtain ⟨mσ, β, M, R, Sl, o⟩ := tE_trim h'
  have o' : Out X.K β M H (((ea mσ M).bind truth).bind fun b M2 => .ok (PV.bl (!b)) M2) (kQ X.K fun x H' => ∃ b, x = .bl b ∧ Q b H') (w σ) := by rw [assoc3]; exact o
  refine oneB (ev := fun σ M => (ea σ M).bind truth) R Sl o' fun t β1 M1 H1 s1 S1 o1 => ?_
  obtain ⟨b, e, q⟩ := o1.flat s1.rel (rep_bl.mpr rfl)
  cases e
  exact q

/-! ### slices -/
def tOs (K : PySem.W.Frag) (w : WS) (ev : Mn.St → Mem → Res (Option Int)) : TO := fun σ H Q => ∃ mσ β M, RelH K β M H ∧ RelS K H β mσ σ ∧ Out K β M H (ev mσ M) (fun o _ _ H' => Q o H') (w σ)
theorem o_none : PO X none (tOs X.K w (fun _ M => .ok none M)) := by
  refine PO.imp po_none fun σ H Q h => ?_
  obtain ⟨mσ, β, M, R, Sl, o⟩ := h
  exact o.ok R
theorem o_some (ha : PE X e (tE X.K w ea)) : PO X (some e) (tOs X.K w (fun σ M => (ea σ M).bind fun v M1 => (intR v M1).bind fun i M2 => .ok (some i) M2)) := by
  refine PO.imp (po_some ha) fun σ H Q h => ?_
  obtain ⟨mσ, β, M, R, Sl, o⟩ := h
  refine one R Sl o fun v x β1 M1 H1 s1 r1 S1 o1 => ?_
  cases v with
  | int i => exact ⟨i, rep_int.mp r1, o1.ok s1.rel⟩
  | _ => exact o1.elim
theorem s_sl {lo hi : Option Expr} {p2 : Pos} {el eh : Mn.St → Mem → Res (Option Int)} (ha : PE X e (tE X.K w ea)) (hl : PO X lo (tOs X.K w el)) (hh : PO X hi (tOs X.K w eh)) :
    PE X (.Subscript e (.Slice lo hi none p2) pos) (tE X.K w (fun σ M => (ea σ M).bind fun v M1 => (el σ M1).bind fun l M2 => (eh σ M2).bind fun h M3 => slM v l h M3)) := by
  refine PE.imp (pe_slice sl_okM ha hl hh) fun σ H Q h => ?_
  obtain ⟨mσ, β, M, R, Sl, o⟩ := h
  refine one R Sl o fun v x β1 M1 H1 s1 r1 S1 o1 => ?_
  refine ⟨mσ, β1, M1, s1.rel, S1, (o1.bind s1.rel).imp (fun l β2 M2 H2 s2 q2 => ?_) fun _ _ _ _ _ q => q⟩
  refine ⟨mσ, β2, M2, s2.rel, S1.stp s1.rel s2, (q2.bind s2.rel).imp (fun h β3 M3 H3 s3 q3 => ?_) fun _ _ _ _ _ q => q⟩
  exact ⟨v, β3, M3, w σ, s3.rel, s3.rep s2.rel (s2.rep s1.rel r1), q3⟩
/-! ### t[::1], t[::-1] -/
theorem sliceApplied_step {prog : Program} {wo : World} {A : Around} {E : Value → Shared → Prop} {s : Shared} {sl : Addr} {vs : Value} {c : Int} {n : Nat} {Q : Int × Int × Nat → Shared → Prop} (hs : s.heap.IsSliceOf sl .none .none vs) (ps : IsPart vs (some c)) (hc : c = 1 ∨ c = -1)
    (h : Q (if c = 1 then 0 else (n : Int) - 1, c, n) s) : wpAny (model prog wo) A (Builtin.Slice.sliceApplied (.ref sl) (pure (n : Int))) Q E s := by
  obtain ⟨os, hos, hcs, hds⟩ := id hs
  unfold Builtin.Slice.sliceApplied Builtin.Slice.sliceFields
  refine wpAny_bind (wpAny_bind (wpAny_field hos hds (x := .none) rfl (wpAny_bind (wpAny_field hos hds (x := .none) rfl (wpAny_bind (wpAny_field hos hds (x := vs) rfl (wpAny_pure ?_)))))))
  cases ps with
  | int i t =>
    refine wpAny_bind (slicePart_int ?_)
    show wpAny _ _ (if (c == 0) = true then _ else _) _ _ s
    rw [if_neg (by rcases hc with rfl | rfl <;> decide)]
    refine wpAny_bind (slicePart_none (wpAny_bind (slicePart_none (wpAny_bind (wpAny_pure ?_)))))
    rcases hc with rfl | rfl
    · have e : Builtin.Slice.slicePlaces 0 (n : Int) 1 = n := by
        unfold Builtin.Slice.slicePlaces
        simp only [show (1 : Int) > 0 by decide, if_true, Int.ediv_one]
        split <;> omega
      show wpAny _ _ (pure ((0 : Int), (1 : Int), Builtin.Slice.slicePlaces 0 (n : Int) 1)) _ _ s
      rw [e]
      exact wpAny_pure h
    · have e : Builtin.Slice.slicePlaces ((n : Int) - 1) (-1) (-1) = n := by
        unfold Builtin.Slice.slicePlaces
        simp only [show ¬ ((-1 : Int) > 0) by decide, if_false, show (- -1 : Int) = 1 by decide, Int.ediv_one]
        split <;> omega
      show wpAny _ _ (pure ((n : Int) - 1, (-1 : Int), Builtin.Slice.slicePlaces ((n : Int) - 1) (-1) (-1))) _ _ s
      rw [e]
      exact wpAny_pure h
theorem fm_congr {α β : Type} {f g : α → Option β} : ∀ {l : List α}, (∀ x ∈ l, f x = g x) → l.filterMap f = l.filterMap g
  | [], _ => rfl
  | x :: l, h => by rw [List.filterMap_cons, List.filterMap_cons, h x List.mem_cons_self, fm_congr (fun y hy => h y (List.mem_cons_of_mem _ hy))]
theorem pick_rev (xs : Array Value) : ((List.range xs.size).filterMap fun (m : Nat) => xs[(((xs.size : Int) - 1) + (m : Int) * (-1)).toNat]?).toArray = xs.toList.reverse.toArray := by
  congr 1
  have h1 : ((List.range xs.size).filterMap fun (m : Nat) => xs[(((xs.size : Int) - 1) + (m : Int) * (-1)).toNat]?) = (List.range xs.size).filterMap fun m => xs.toList.reverse[m]? := by
    refine fm_congr fun m hm => ?_
    have hm := List.mem_range.mp hm
    have e : (((xs.size : Int) - 1) + (m : Int) * (-1)).toNat = xs.size - 1 - m := by omega
    rw [e, List.getElem?_reverse (by simpa using hm), Array.getElem?_toList]
    simp
  rw [h1]
  have h2 : ∀ l : List Value, ((List.range l.length).filterMap fun m => l[m]?) = l := by
    intro l
    induction l with
    | nil => rfl
    | cons a l ih =>
      rw [List.length_cons, List.range_succ_eq_map, List.filterMap_cons]
      simp only [List.getElem?_cons_zero, List.filterMap_map, Function.comp_def, List.getElem?_cons_succ]
      rw [ih]
  have := h2 xs.toList.reverse
  simpa using this
theorem getItem_tuple_step {prog : Program} {wo : World} {A : Around} {E : Value → Shared → Prop} {s : Shared} {t sl : Addr} {items : Array Value} {vs : Value} {c : Int} {Q : Value → Shared → Prop} (ht : IsTup s.heap t items) (hs : s.heap.IsSliceOf sl .none .none vs) (ps : IsPart vs (some c)) (hc : c = 1 ∨ c = -1)
    (h1 : c = 1 → Q (.ref t) s) (h2 : c = -1 → Q (.ref s.heap.objs.size) { s with heap := s.heap.push { cls := .type "tuple", data := .seq items.toList.reverse.toArray } })
    (hsz : items.size ≤ sizeLine) : wpAny (model prog wo) A (getItem (.ref t) (.ref sl)) Q E s := by
  obtain ⟨os, hos, hcs, hds⟩ := id hs
  have hTs : s.TypeIs (.ref sl) "slice" := ⟨os, hos, hcs⟩
  unfold getItem
  try with_reducible refine wpAny_holding ?_
  first | refine wpAny_bind (wpAny_pure ?_) | skip
  refine wpAny_bind (wpAny_sequenceKey ht.typeIs (by decide) ?_)
  refine wpAny_bind (wpAny_callSpecial?_slot (name := Str.ofString "__getitem__") ht.typeIs PyProof.Rows.slot_tuple_getitem
    (wpAny_call_entry PyProof.Rows.slot_tuple_getitem ht.typeIs entry_tuple_getitem ?_ (args_tuple_getitem _ _)))
  show wpAny _ _ (Builtin.Tuple.tupleItemsOf (.ref t) >>= _) _ _ s
  refine wpAny_bind (tupleItemsOf_ ht ?_)
  refine wpAny_bind (wpAny_typeOf hTs ?_)
  rw [if_pos (by decide)]
  refine wpAny_bind (sliceApplied_step hs ps hc ?_)
  rcases hc with rfl | rfl
  · show wpAny _ _ (if (((0 : Int) == 0 && (1 : Int) == 1 && items.size == items.size) = true) then _ else _) _ _ s
    rw [if_pos (by simp)]
    refine wpAny_bind ?_
    show wpAny _ _ (typeOf (.ref t) >>= fun T => pure (T == .type "tuple")) _ _ s
    refine wpAny_bind (wpAny_typeOf ht.typeIs (wpAny_pure ?_))
    first
      | rw [if_pos (by decide)]
      | simp only [beq_self_eq_true, if_true]
    first
      | exact wpAny_bind (wpAny_rule (wpAny_pure ⟨_, rfl, wpAny_pure (h1 rfl)⟩))
      | exact wpAny_bind (wpAny_rule (wpAny_bind (wpAny_pure (wpAny_pure ⟨_, rfl, wpAny_pure (h1 rfl)⟩))))
  · have htake : sizeOk (.seq items.toList.reverse.toArray) := by
      show items.toList.reverse.toArray.size ≤ sizeLine
      rw [List.size_toArray, List.length_reverse, Array.length_toList]
      exact hsz
    have hno : ¬ ((((items.size : Int) - 1) == 0 && (-1 : Int) == 1 && items.size == items.size) = true) := by
      intro q
      rw [Bool.and_eq_true, Bool.and_eq_true] at q
      exact absurd q.1.2 (by decide)
    show wpAny _ _ (if ((((items.size : Int) - 1) == 0 && (-1 : Int) == 1 && items.size == items.size) = true) then _ else _) _ _ s
    have e0 : (if (-1 : Int) = 1 then (0 : Int) else (items.size : Int) - 1) = (items.size : Int) - 1 := if_neg (by decide)
    rw [if_neg hno, e0, pick_rev]
    have h := h2 rfl
    first
      | exact wpAny_bind (m := Builtin.Tuple.tupleExact _) (wpAny_newObj_type (wpAny_pure ⟨_, rfl, wpAny_pure h⟩) htake)
      | exact wpAny_bind (m := Builtin.Tuple.tupleExact _) (wpAny_newObj_type (wpAny_bind (wpAny_pure (wpAny_pure ⟨_, rfl, wpAny_pure h⟩))) htake)
      | exact wpAny_bind (wpAny_bind (m := Builtin.Tuple.tupleExact _) (wpAny_newObj_type (wpAny_pure (wpAny_pure ⟨_, rfl, wpAny_pure h⟩)) htake))
      | exact wpAny_bind (wpAny_bind (m := Builtin.Tuple.tupleExact _) (wpAny_newObj_type (wpAny_pure ⟨_, rfl, wpAny_pure h⟩) htake))
theorem s_stp {st : Expr} {es : Mn.Ev} {p2 : Pos} (ha : PE X e (tE X.K w ea)) (hs : PE X st (tE X.K w es)) :
    PE X (.Subscript e (.Slice none none (some st) p2) pos) (tE X.K w (fun σ M => (ea σ M).bind fun v M1 => (es σ M1).bind fun u M2 => stpM v u M2)) := by
  refine ⟨fun pins s σ H Q I h => ?_⟩
  have hst := po_some hs
  obtain ⟨mσ, β, M, R, Sl, o⟩ := h
  have h1 : tE X.K w ea σ H (fun x H1 => ∃ v β1 M1, RelH X.K β1 M1 H1 ∧ Rep X.K H1 β1 v x ∧ RelS X.K H1 β1 mσ σ ∧ Out X.K β1 M1 H1 ((es mσ M1).bind fun u M2 => stpM v u M2) (kQ X.K Q) (w σ)) :=
    one R Sl o fun v x β1 M1 H1 s1 r1 S1 o1 => ⟨v, β1, M1, s1.rel, r1, S1, o1⟩
  refine Subscript_ (thn (ha.run pins s σ H _ I h1) fun xv s1 ⟨x, H1, I1, r1, q1⟩ => ?_)
  obtain ⟨v, β1, M1, R1, rv, S1, o1⟩ := q1
  refine wpAny_Slice (thn (po_none.run pins s1 σ H1 (fun o H2 => o = none ∧ H2 = H1) I1 ⟨rfl, rfl⟩) fun vl s2 ⟨l, H2, I2, pl, el, e2⟩ => ?_)
  subst el e2
  refine thn (po_none.run pins s2 σ H2 (fun o H3 => o = none ∧ H3 = H2) I2 ⟨rfl, rfl⟩) fun vu s3 ⟨u, H3, I3, pu, eu, e3⟩ => ?_
  subst eu e3
  have h4 : tPart (tE X.K w es) σ H3 (fun c H4 => ∃ a xs i β2 M2, x = .ref a ∧ c = some i ∧ RelH X.K β2 M2 H4 ∧ Tup X.K H4 a xs ∧ (i = 1 → Q (.ref a) H4) ∧ (i = -1 → ∀ p o, H4 p = none → o.dict = none → Q (.ref p) (upd H4 p (.frz o (.tup xs.reverse)))) ∧ (i = 1 ∨ i = -1)) := by
    refine one R1 S1 o1 fun u y β2 M2 H4 s4 r4 S4 o4 => ?_
    cases v with
    | tup ps =>
      cases u with
      | int i =>
        obtain ⟨a, xs, rfl, ht, rs⟩ := rep_tup.mp (s4.rep R1 rv)
        refine ⟨i, rep_int.mp r4, a, xs, i, β2, M2, rfl, rfl, s4.rel, ht, fun hi => ?_, fun hi p ob hp ho => ?_, ?_⟩
        · subst hi
          have o5 : Out X.K β2 M2 H4 (.ok (.tup ps) M2) (kQ X.K Q) (w σ) := o4
          exact o5.flat s4.rel (rep_tup.mpr ⟨a, xs, rfl, ht, rs⟩)
        · subst hi
          have o5 : Out X.K β2 M2 H4 (.ok (.tup ps.reverse) M2) (kQ X.K Q) (w σ) := o4
          exact o5.tup s4.rel rs.rev hp ho
        · simp only [stpM] at o4
          by_cases h1 : i = 1
          · exact .inl h1
          · by_cases h2 : i = -1
            · exact .inr h2
            · rw [if_neg h1, if_neg h2] at o4; exact o4.elim
      | _ => exact o4.elim
    | _ => exact o4.elim
  refine thn (hst.run pins s3 σ H3 _ I3 h4) fun vs s4 ⟨c, H4, I4, ps, q4⟩ => ?_
  obtain ⟨a, xs, i, β2, M2, rfl, rfl, R2, ht, k1, k2, hi⟩ := q4
  cases r1
  cases pl
  cases pu
  have I5 : Inv X pins σ H4 { s4 with heap := s4.heap.push { cls := .type "slice", data := .fields #[.none, .none, vs] } } := I4.kept (t' := s4.toks) fun b ob q => Heap.get?_push_of_some _ q
  obtain ⟨its, r, pt, hz⟩ := I5.tuple ht.sq
  have hlen := r.length
  show wpAny (model X.prog X.w) X.A (subscriptTail e (.Slice none none (some st) p2) (.ref a) (.ref s4.heap.objs.size)) (EP X pins σ Q) X.xe { s4 with heap := s4.heap.push { cls := .type "slice", data := .fields #[.none, .none, vs] } }
  refine tail_any (ops := [.ref a, .ref s4.heap.objs.size]) pt.typeIs (PyProof.Rows.slot_tuple_getitem.lookup) ?_ (by with_unfolding_all rfl)
  refine getItem_tuple_step pt (Heap.IsSliceOf.new _ .none .none vs) ps hi (fun h1 => ?_) (fun h2 => ?_) (by rw [List.size_toArray]; omega)
  · exact ⟨.ref a, H4, I5, rfl, k1 h1⟩
  · have I6 := newTup I5 r.reverse (by rw [List.length_reverse]; exact hz)
    exact ⟨.ref _, _, I6, rfl, k2 h2 _ _ (I5.hok.fresh (Nat.le_refl _)) rfl⟩
end
end Mn
end
section
set_option Elab.async false
set_option linter.all false
set_option maxRecDepth 100000
set_option maxHeartbeats 4000000
namespace Mn
open PySem PySem.Spec PyProof.Rows L2

/-- nothing is raised -/
abbrev w0 : WS := fun _ _ _ _ _ => False

section
variable {K : PySem.W.Frag} {β : List Addr} {M : Mem} {H H' : Hp}
theorem ext_tup (ext : ∀ a o, H a = some o → H' a = some o) {a : Addr} {xs : List V} (h : Tup K H a xs) : Tup K H' a xs := by
  rcases h with ⟨o, h, d⟩ | h
  · exact .inl ⟨o, ext _ _ h, d⟩
  · exact .inr h
theorem ext_rol (ext : ∀ a o, H a = some o → H' a = some o) {a : Addr} {xs : List V} (h : Rol K H a xs) : Rol K H' a xs := by
  rcases h with ⟨o, h⟩ | h
  · exact .inl ⟨o, ext _ _ h⟩
  · exact .inr h
theorem stp_ext (R : RelH K β M H) (ext : ∀ a o, H a = some o → H' a = some o) : Stp K β M H β M H' where
  rel := ⟨R.len, R.olen, R.inj, fun n ob e => by
    obtain ⟨a, e1, e2⟩ := R.obj n ob e
    refine ⟨a, e1, ?_⟩
    cases ob with
    | lst xs =>
      obtain ⟨ys, e3, e4⟩ := e2
      exact ⟨ys, ext _ _ e3, e4.mono (fun _ _ => ext_tup ext) fun _ _ h => h⟩
    | rol xs =>
      obtain ⟨ys, e3, e4⟩ := e2
      exact ⟨ys, ext_rol ext e3, e4.mono (fun _ _ => ext_tup ext) fun _ _ h => h⟩⟩
  pre := fun _ _ h => h
  szle := Nat.le_refl _
  frame := fun a ob h _ => ext a ob h
  kind := fun n xs _ h => ⟨xs, h⟩
  kind2 := fun n xs h => ⟨xs, h⟩
  fresh := fun n xs a h1 h2 _ => absurd (get_lt h2) (by omega)
  esc := Nat.le_refl _
  clo := fun _ _ _ h => h
/-- a list that has come, besides -/
theorem stp_grow (R : RelH K β M H) (ext : ∀ a o, H a = some o → H' a = some o) {p : Addr} {xs : List PV} {ys : List V} (hp : H p = none) (hp' : H' p = some (.lst ys)) (h : Reps K H' (β ++ [p]) xs ys) : Stp K β M H (β ++ [p]) (M.push (.lst xs)) H' := by
  have s := stp_ext R ext
  have hn : ∀ n xs, M.get n = some (.lst xs) → β[n]? ≠ some p := fun n xs e z => by
    obtain ⟨b, e1, ws, e2, _⟩ := R.obj n _ e
    rw [z] at e1; cases e1
    rw [hp] at e2; cases e2
  refine ⟨⟨?_, ?_, fun n m a xs1 ys1 e1 e2 z1 z2 => ?_, fun n ob e => ?_⟩, fun _ _ h => snoc_old h, Nat.le_succ _, fun a ob h _ => ext a ob h, fun n xs hl e => ?_, fun n xs e => ?_, fun n xs1 a hl e z => ?_, Nat.le_refl _, fun _ b hb h n ob hn e => ?_⟩
  · rw [List.length_append, R.len]; rfl
  · show (_ :: M.objs).length = M.sz + 1; rw [List.length_cons, R.olen]
  · rcases get_push e1 with ⟨h1, g1⟩ | ⟨h1, g1⟩ <;> rcases get_push e2 with ⟨h2, g2⟩ | ⟨h2, g2⟩
    · rw [List.getElem?_append_left (by rw [R.len]; exact h1)] at z1
      rw [List.getElem?_append_left (by rw [R.len]; exact h2)] at z2
      exact R.inj n m a _ _ g1 g2 z1 z2
    · rw [List.getElem?_append_left (by rw [R.len]; exact h1)] at z1
      rw [h2, push_at R] at z2; cases z2
      exact absurd z1 (hn _ _ g1)
    · rw [List.getElem?_append_left (by rw [R.len]; exact h2)] at z2
      rw [h1, push_at R] at z1; cases z1
      exact absurd z2 (hn _ _ g2)
    · rw [h1, h2]
  · rcases get_push e with ⟨h1, g1⟩ | ⟨h1, g1⟩
    · obtain ⟨a, e1, e2⟩ := s.rel.obj n ob g1
      refine ⟨a, snoc_old e1, ?_⟩
      cases ob with
      | lst xs =>
        obtain ⟨ys, e3, e4⟩ := e2
        exact ⟨ys, e3, e4.mono (fun _ _ h => h) fun _ _ h => snoc_old h⟩
      | rol xs =>
        obtain ⟨ys, e3, e4⟩ := e2
        exact ⟨ys, e3, e4.mono (fun _ _ h => h) fun _ _ h => snoc_old h⟩
    · subst h1 g1
      exact ⟨p, push_at R, ys, hp', h⟩
  · rw [get_push_old hl] at e; exact ⟨xs, e⟩
  · rw [get_push_old (get_lt e)]; exact ⟨xs, e⟩
  · rcases get_push e with ⟨h1, _⟩ | ⟨h1, _⟩
    · omega
    · rw [h1, push_at R] at z; cases z
      exact hp
  · rw [get_push_old (by omega)] at e
    exact h n ob hn e
theorem relH_emp : RelH K [] Mem.emp H := ⟨rfl, rfl, fun n m a xs ys e => (by cases e), fun n o e => (by cases e)⟩
theorem emp_ext {β' : List Addr} {M' : Mem} (s : Stp K [] Mem.emp H β' M' H') : ∀ a o, H a = some o → H' a = some o := fun a o h => s.frame a o h fun n xs e => by cases e
/-- one list has been changed by what knows of it alone -/
theorem stp_box (R : RelH K β M H) {n : Nat} {a : Addr} {xs0 xs : List PV} {ys : List V} (hg : M.get n = some (.lst xs0)) (hb : β[n]? = some a) (hfr : ∀ b o, H b = some o → b ≠ a → H' b = some o) (ha : H' a = some (.lst ys)) (h : Reps K H' β xs ys)
    (hx : xs.all PV.pure = true) : Stp K β M H β (M.put n (.lst xs) 0) H' := by
  obtain ⟨a', ha', zs, hz, _⟩ := R.obj n _ hg
  rw [hb] at ha'; cases ha'
  have hn := get_lt hg
  have ta : ∀ {b : Addr} {ws : List V}, Tup K H b ws → Tup K H' b ws := fun {b ws} t => by
    rcases t with ⟨o, q, d⟩ | q
    · exact .inl ⟨o, hfr _ _ q (fun e => by rw [e, hz] at q; cases q), d⟩
    · exact .inr q
  have gp : ∀ {m ob}, (M.put n (.lst xs) 0).get m = some ob → (m = n ∧ ob = .lst xs) ∨ (m ≠ n ∧ M.get m = some ob) := fun {m ob} q => by
    by_cases hm : m = n
    · subst hm
      rw [get_put_same hg R.olen] at q; cases q
      exact .inl ⟨rfl, rfl⟩
    · rw [get_put_ne hm hn] at q
      exact .inr ⟨hm, q⟩
  have kd : ∀ {m zs}, (M.put n (.lst xs) 0).get m = some (.lst zs) → ∃ ws, M.get m = some (.lst ws) := fun {m zs} q => by
    rcases gp q with ⟨h1, _⟩ | ⟨_, h1⟩
    · exact ⟨xs0, h1 ▸ hg⟩
    · exact ⟨zs, h1⟩
  refine ⟨⟨R.len, by show (M.objs.set _ _).length = M.sz; rw [List.length_set]; exact R.olen, fun m1 m2 b xs1 ys1 e1 e2 z1 z2 => ?_, fun m ob q => ?_⟩, fun _ _ h => h, Nat.le_refl _, fun b ob q hne => ?_, fun m zs _ q => kd q, fun m zs q => ?_, fun m zs b h1 h2 _ => ?_, Nat.le_refl _, fun he b hb2 hcl m ob hm q => ?_⟩
  · obtain ⟨w1, k1⟩ := kd e1
    obtain ⟨w2, k2⟩ := kd e2
    exact R.inj m1 m2 b _ _ k1 k2 z1 z2
  · rcases gp q with ⟨rfl, rfl⟩ | ⟨hm, q⟩
    · exact ⟨a, hb, ys, ha, h⟩
    · obtain ⟨b, e1, e2⟩ := R.obj m ob q
      refine ⟨b, e1, ?_⟩
      cases ob with
      | lst zs =>
        obtain ⟨ws, e3, e4⟩ := e2
        have hap : b ≠ a := fun z => hm (R.inj m n b zs xs0 q hg e1 (z ▸ hb))
        exact ⟨ws, hfr _ _ e3 hap, e4.mono (fun _ _ => ta) fun _ _ h => h⟩
      | rol zs =>
        obtain ⟨ws, e3, e4⟩ := e2
        refine ⟨ws, ?_, e4.mono (fun _ _ => ta) fun _ _ h => h⟩
        rcases e3 with ⟨o, e3⟩ | e3
        · exact .inl ⟨o, hfr _ _ e3 (fun z => by rw [z, hz] at e3; cases e3)⟩
        · exact .inr e3
  · exact hfr b ob q fun z => hne n xs0 hg (z ▸ hb)
  · by_cases hm : m = n
    · subst hm
      exact ⟨xs, get_put_same hg R.olen⟩
    · exact ⟨zs, by rw [get_put_ne hm hn]; exact q⟩
  · have := get_lt h2
    have : (M.put n (.lst xs) 0).sz = M.sz := rfl
    omega
  · rcases gp q with ⟨rfl, rfl⟩ | ⟨_, q⟩
    · exact bnds_mono (Nat.zero_le _) hx
    · exact hcl m ob hm q
/-- a list has come, besides -/
theorem stp_also {M1 : Mem} (R : RelH K β M H) (s : Stp K β M H β M1 H') {p : Addr} {xs : List PV} {ys : List V} (hp : H p = none) (hp' : H' p = some (.lst ys)) (h : Reps K H' β xs ys) (hsz : M1.sz = M.sz) : Stp K β M H (β ++ [p]) (M1.push (.lst xs)) H' := by
  have R1 := s.rel
  have hn : ∀ n xs, M1.get n = some (.lst xs) → β[n]? ≠ some p := fun n xs e z => by
    obtain ⟨zs, e0⟩ := s.kind n xs (by rw [← hsz]; exact get_lt e) e
    obtain ⟨b, e1, ws, e2, _⟩ := R.obj n _ e0
    rw [z] at e1; cases e1
    rw [hp] at e2; cases e2
  refine ⟨⟨?_, ?_, fun n m a xs1 ys1 e1 e2 z1 z2 => ?_, fun n ob e => ?_⟩, fun _ _ h => snoc_old h, by show M.sz ≤ M1.sz + 1; omega, s.frame, fun n xs hl e => ?_, fun n xs e => ?_, fun n xs1 a hl e z => ?_, s.esc, fun he b hb hcl n ob hn e => ?_⟩
  · rw [List.length_append, R1.len]; rfl
  · show (_ :: M1.objs).length = M1.sz + 1; rw [List.length_cons, R1.olen]
  · rcases get_push e1 with ⟨h1, g1⟩ | ⟨h1, g1⟩ <;> rcases get_push e2 with ⟨h2, g2⟩ | ⟨h2, g2⟩
    · rw [List.getElem?_append_left (by rw [R1.len]; exact h1)] at z1
      rw [List.getElem?_append_left (by rw [R1.len]; exact h2)] at z2
      exact R1.inj n m a _ _ g1 g2 z1 z2
    · rw [List.getElem?_append_left (by rw [R1.len]; exact h1)] at z1
      rw [h2, push_at R1] at z2; cases z2
      exact absurd z1 (hn _ _ g1)
    · rw [List.getElem?_append_left (by rw [R1.len]; exact h2)] at z2
      rw [h1, push_at R1] at z1; cases z1
      exact absurd z2 (hn _ _ g2)
    · rw [h1, h2]
  · rcases get_push e with ⟨h1, g1⟩ | ⟨h1, g1⟩
    · obtain ⟨a, e1, e2⟩ := R1.obj n ob g1
      refine ⟨a, snoc_old e1, ?_⟩
      cases ob with
      | lst xs =>
        obtain ⟨ys, e3, e4⟩ := e2
        exact ⟨ys, e3, e4.mono (fun _ _ h => h) fun _ _ h => snoc_old h⟩
      | rol xs =>
        obtain ⟨ys, e3, e4⟩ := e2
        exact ⟨ys, e3, e4.mono (fun _ _ h => h) fun _ _ h => snoc_old h⟩
    · subst h1 g1
      exact ⟨p, push_at R1, ys, hp', h.mono (fun _ _ h => h) fun _ _ h => snoc_old h⟩
  · rw [get_push_old (by omega)] at e; exact s.kind n xs hl e
  · obtain ⟨zs, q⟩ := s.kind2 n xs e
    exact ⟨zs, by rw [get_push_old (get_lt q)]; exact q⟩
  · rcases get_push e with ⟨h1, _⟩ | ⟨h1, _⟩
    · omega
    · rw [h1, push_at R1] at z; cases z
      exact hp
  · rw [get_push_old (by omega)] at e
    exact s.clo he b hb hcl n ob hn e
theorem oneRef_mem : ∀ {vs : List PV} {n : Nat}, oneRef vs = some n → PV.ref n ∈ vs
  | v :: vs, n, h => by
    unfold oneRef at h
    split at h
    · cases h; exact List.mem_cons_self
    · exact List.mem_cons_of_mem _ (oneRef_mem h)
theorem reps_to0 {n : Nat} {a : Addr} (hb : β[n]? = some a) : ∀ {vs : List PV} {xs : List V}, Reps K H β vs xs → (vs.all fun v => v.pure || isRef n v) = true → Reps K H [a] (vs.map to0) xs
  | [], xs, r, _ => by rw [reps_nil.mp r]; exact reps_nil.mpr rfl
  | v :: vs, xs, r, h => by
    obtain ⟨x, t, rfl, r1, r2⟩ := reps_cons.mp r
    rw [List.all_cons, Bool.and_eq_true] at h
    refine reps_cons.mpr ⟨x, t, rfl, ?_, reps_to0 hb r2 h.2⟩
    cases v with
    | ref m =>
      have : m = n := by simpa [PV.pure, PV.bnd, isRef] using h.1
      subst this
      rw [r1.ref_of hb]
      exact rep_ref.mpr ⟨a, rfl, rfl⟩
    | _ => exact r1.low (fun n a hn => absurd hn (Nat.not_lt_zero _)) (by have := h.1; simp [isRef] at this; exact this)
theorem get1 {o : MObj} {n : Nat} {ob : MObj} (h : (⟨1, [o], 0⟩ : Mem).get n = some ob) : n = 0 ∧ ob = o := by
  have hn : n < 1 := get_lt h
  have hn : n = 0 := by omega
  subst hn
  cases h
  exact ⟨rfl, rfl⟩
/-- the one list alone -/
theorem relH_one (R : RelH K β M H) {n : Nat} {a : Addr} {o : MObj} (hg : M.get n = some o) (hb : β[n]? = some a) (ho : o.bnd 0 = true) : RelH K [a] ⟨1, [o], 0⟩ H := by
  refine ⟨rfl, rfl, fun m1 m2 b xs ys e1 e2 _ _ => ?_, fun m ob e => ?_⟩
  · rw [(get1 e1).1, (get1 e2).1]
  · obtain ⟨rfl, rfl⟩ := get1 e
    obtain ⟨b, e1, e2⟩ := R.obj n _ hg
    rw [hb] at e1; cases e1
    refine ⟨a, rfl, ?_⟩
    cases ob with
    | lst xs =>
      obtain ⟨ys, e3, e4⟩ := e2
      exact ⟨ys, e3, e4.low (fun n a hn => absurd hn (Nat.not_lt_zero _)) ho⟩
    | rol xs =>
      obtain ⟨ys, e3, e4⟩ := e2
      exact ⟨ys, e3, e4.low (fun n a hn => absurd hn (Nat.not_lt_zero _)) ho⟩
/-- and back -/
theorem stp_back (R : RelH K β M H) {n : Nat} {a : Addr} {o o' : MObj} (hg : M.get n = some o) (hb : β[n]? = some a) (ho' : o'.bnd 0 = true) {β' : List Addr} {M' : Mem} (s : Stp K [a] ⟨1, [o], 0⟩ H β' M' H') (h0 : M'.get 0 = some o') : Stp K β M H β (putO M n o') H' := by
  have b0 : β'[0]? = some a := s.pre 0 a rfl
  obtain ⟨a', e1, e2⟩ := s.rel.obj 0 _ h0
  rw [b0] at e1; cases e1
  cases o' with
  | lst xs' =>
    obtain ⟨zs, g0⟩ := s.kind 0 xs' (by show 0 < 1; omega) h0
    obtain ⟨_, rfl⟩ := get1 g0
    obtain ⟨ys, e3, e4⟩ := e2
    exact stp_box R hg hb (fun b ob q hne => s.frame b ob q fun m xs e z => by
      obtain ⟨rfl, _⟩ := get1 e
      cases z
      exact hne rfl) e3 (e4.low (fun n a hn => absurd hn (Nat.not_lt_zero _)) ho') ho'
  | rol xs' =>
    refine stp_ext R fun b ob q => s.frame b ob q fun m xs e z => ?_
    obtain ⟨ws, g1⟩ := s.kind2 m xs e
    obtain ⟨rfl, _⟩ := get1 e
    rw [h0] at g1; cases g1
theorem shs_eq (d : Nat) : ∀ xs : List PV, PV.sh.shs d xs = xs.map (PV.sh d)
  | [] => by rw [PV.sh.shs]; rfl
  | x :: xs => by rw [PV.sh.shs, shs_eq d xs]; rfl
theorem sh_tup (d : Nat) (xs : List PV) : (PV.tup xs).sh d = .tup (xs.map (PV.sh d)) := by rw [PV.sh, shs_eq]
section
variable {β' : List Addr} (hd : β.length = d)
mutual
theorem Rep.sh {d : Nat} (hd : β.length = d) : ∀ {v : PV} {x : V}, Rep K H' β' v x → Rep K H' (β ++ β') (v.sh d) x
  | .non, x, h => by simp only [PV.sh]; exact rep_non.mpr (rep_non.mp h)
  | .bl _, x, h => by simp only [PV.sh]; exact rep_bl.mpr (rep_bl.mp h)
  | .int _, x, h => by simp only [PV.sh]; exact rep_int.mpr (rep_int.mp h)
  | .str _, x, h => by simp only [PV.sh]; exact rep_str.mpr (rep_str.mp h)
  | .tup ps, x, h => by
    obtain ⟨a, xs, rfl, ht, rs⟩ := rep_tup.mp h
    rw [sh_tup]
    exact rep_tup.mpr ⟨a, xs, rfl, ht, Reps.sh hd rs⟩
  | .ref n, x, h => by
    obtain ⟨a, rfl, e⟩ := rep_ref.mp h
    rw [PV.sh]
    refine rep_ref.mpr ⟨a, rfl, ?_⟩
    rw [List.getElem?_append_right (by omega), show n + d - β.length = n by omega]
    exact e
theorem Reps.sh {d : Nat} (hd : β.length = d) : ∀ {ps : List PV} {xs : List V}, Reps K H' β' ps xs → Reps K H' (β ++ β') (ps.map (PV.sh d)) xs
  | [], xs, h => by rw [reps_nil.mp h]; exact reps_nil.mpr rfl
  | p :: ps, xs, h => by
    obtain ⟨x, t, rfl, r1, r2⟩ := reps_cons.mp h
    exact reps_cons.mpr ⟨x, t, rfl, Rep.sh hd r1, Reps.sh hd r2⟩
end
end
theorem join_get {M M' : Mem} (h1 : M.objs.length = M.sz) (h2 : M'.objs.length = M'.sz) {n : Nat} {o : MObj} (h : (M.join M').get n = some o) : (n < M.sz ∧ M.get n = some o) ∨ (∃ m ob, n = M.sz + m ∧ M'.get m = some ob ∧ o = ob.sh M.sz) := by
  have hn := get_lt h
  have hs : (M.join M').sz = M.sz + M'.sz := rfl
  have e : (M.join M').get n = if n < M.sz + M'.sz then (M'.objs.map (MObj.sh M.sz) ++ M.objs)[M.sz + M'.sz - 1 - n]? else none := rfl
  rw [e, if_pos (by omega)] at h
  by_cases c : n < M.sz
  · refine .inl ⟨c, ?_⟩
    rw [List.getElem?_append_right (by rw [List.length_map]; omega)] at h
    unfold Mem.get
    rw [if_pos c, ← h, List.length_map]
    congr 1; omega
  · rw [List.getElem?_append_left (by rw [List.length_map]; omega), List.getElem?_map] at h
    refine .inr ⟨n - M.sz, ?_⟩
    cases q : M'.objs[M.sz + M'.sz - 1 - n]? with
    | none => rw [q] at h; cases h
    | some ob =>
      rw [q] at h; cases h
      refine ⟨ob, by omega, ?_, rfl⟩
      unfold Mem.get
      rw [if_pos (by omega), ← q]
      congr 1; omega
theorem join_old {M M' : Mem} (h1 : M.objs.length = M.sz) (h2 : M'.objs.length = M'.sz) {n : Nat} (c : n < M.sz) : (M.join M').get n = M.get n := by
  have e : (M.join M').get n = if n < M.sz + M'.sz then (M'.objs.map (MObj.sh M.sz) ++ M.objs)[M.sz + M'.sz - 1 - n]? else none := rfl
  rw [e, if_pos (by omega), List.getElem?_append_right (by rw [List.length_map]; omega)]
  unfold Mem.get
  rw [if_pos c, List.length_map]
  congr 1; omega
/-- what was made without knowing of the memory, upon it -/
theorem stp_join (R : RelH K β M H) {β' : List Addr} {M' : Mem} (s : Stp K [] Mem.emp H β' M' H') : Stp K β M H (β ++ β') (M.join M') H' := by
  have ext := emp_ext s
  have R' := s.rel
  have st := stp_ext R ext
  have hl := R.len
  refine ⟨⟨?_, ?_, fun n m a xs ys e1 e2 z1 z2 => ?_, fun n ob e => ?_⟩, fun n a h => ?_, Nat.le_add_right _ _, fun a o h _ => ext a o h, fun n xs hn e => ?_, fun n xs e => ?_, fun n xs a hn e z => ?_, Nat.le_refl _, fun _ b hb hcl n ob hn e => ?_⟩
  · rw [List.length_append, R.len, R'.len]; rfl
  · show (M'.objs.map _ ++ M.objs).length = M.sz + M'.sz
    rw [List.length_append, List.length_map, R.olen, R'.olen]; omega
  · have old : ∀ {n xs}, M.get n = some (.lst xs) → (β ++ β')[n]? = some a → H a ≠ none := fun {n xs} g z h0 => by
      have hn := get_lt g
      rw [List.getElem?_append_left (by omega)] at z
      obtain ⟨b, q1, ws, q2, _⟩ := R.obj n _ g
      rw [z] at q1; cases q1
      rw [h0] at q2; cases q2
    have new : ∀ {m ob}, M'.get m = some ob → (∃ zs, ob.sh M.sz = .lst zs) → (β ++ β')[M.sz + m]? = some a → (∃ ws, M'.get m = some (.lst ws)) ∧ β'[m]? = some a ∧ H a = none := fun {m ob} g hz z => by
      rw [List.getElem?_append_right (by omega), show M.sz + m - β.length = m by omega] at z
      cases ob with
      | lst ws => exact ⟨⟨ws, g⟩, z, s.fresh m ws a (Nat.zero_le _) g z⟩
      | rol ws => obtain ⟨zs, hz⟩ := hz; cases hz
    rcases join_get R.olen R'.olen e1 with ⟨c1, g1⟩ | ⟨m1, o1, rfl, g1, q1⟩ <;> rcases join_get R.olen R'.olen e2 with ⟨c2, g2⟩ | ⟨m2, o2, rfl, g2, q2⟩
    · rw [List.getElem?_append_left (by omega)] at z1 z2
      exact R.inj n m a _ _ g1 g2 z1 z2
    · exact absurd (new g2 ⟨_, q2.symm⟩ z2).2.2 (old g1 z1)
    · exact absurd (new g1 ⟨_, q1.symm⟩ z1).2.2 (old g2 z2)
    · obtain ⟨⟨w1, k1⟩, y1, _⟩ := new g1 ⟨_, q1.symm⟩ z1
      obtain ⟨⟨w2, k2⟩, y2, _⟩ := new g2 ⟨_, q2.symm⟩ z2
      rw [R'.inj m1 m2 a _ _ k1 k2 y1 y2]
  · rcases join_get R.olen R'.olen e with ⟨c, g⟩ | ⟨m, o1, rfl, g, rfl⟩
    · obtain ⟨a, e1, e2⟩ := st.rel.obj n ob g
      refine ⟨a, by rw [List.getElem?_append_left (by omega)]; exact e1, ?_⟩
      have pre : ∀ n a : Nat, β[n]? = some a → (β ++ β')[n]? = some a := fun n a h => by
        rw [List.getElem?_append_left ((List.getElem?_eq_some_iff.mp h).1)]; exact h
      cases ob with
      | lst xs =>
        obtain ⟨ys, e3, e4⟩ := e2
        exact ⟨ys, e3, e4.mono (fun _ _ h => h) pre⟩
      | rol xs =>
        obtain ⟨ys, e3, e4⟩ := e2
        exact ⟨ys, e3, e4.mono (fun _ _ h => h) pre⟩
    · obtain ⟨a, e1, e2⟩ := R'.obj m o1 g
      refine ⟨a, by rw [List.getElem?_append_right (by omega), show M.sz + m - β.length = m by omega]; exact e1, ?_⟩
      cases o1 with
      | lst xs =>
        obtain ⟨ys, e3, e4⟩ := e2
        exact ⟨ys, e3, e4.sh hl⟩
      | rol xs =>
        obtain ⟨ys, e3, e4⟩ := e2
        exact ⟨ys, e3, e4.sh hl⟩
  · rw [List.getElem?_append_left ((List.getElem?_eq_some_iff.mp h).1)]; exact h
  · rw [join_old R.olen R'.olen hn] at e; exact ⟨xs, e⟩
  · exact ⟨xs, by rw [join_old R.olen R'.olen (get_lt e)]; exact e⟩
  · rcases join_get R.olen R'.olen e with ⟨c, g⟩ | ⟨m, o1, rfl, g, q⟩
    · omega
    · rw [List.getElem?_append_right (by omega), show M.sz + m - β.length = m by omega] at z
      cases o1 with
      | lst ws => exact s.fresh m ws a (Nat.zero_le _) g z
      | rol ws => cases q
  · rw [join_old R.olen R'.olen (by omega)] at e
    exact hcl n ob hn e
/-- what a call wants, from what the evaluator says of it -/
theorem callM_sp {cf : CF} {f : Nat} {vs : List PV} {xs : List V} {Q : VK} {σ : L2.St} (R : RelH K β M H) (r : Reps K H β vs xs) (o : Out K β M H (callM cf f vs M) (kQ K Q) (w0 σ)) : spM K cf f xs H Q E0 := by
  exact ⟨vs, β, M, R, r, o⟩
end
section
variable {X : Cx} {k : Nat} {cf : CF} {fn : List (Nat × Str)} {S : SC} {e : Expr} {es : List Expr} {pos p : Pos} {x : Str} {ea eb : Mn.Ev} {eA : Mn.St → Mem → Res (List PV)} {w : WS}
/-- the def runs -/
theorem runG {fa : Addr} {fd : FuncData} {ps : List Str} {sp : Sp} {pins : List (Addr × Obj)} {σ : L2.St} {H : Hp} {s : Shared} {Q : VK} {us : List Value} {xs : List V} (F : FnG X.prog X.w X.K X.mg X.base k fa fd ps sp) (G : Gd X k cf fn S) (hb : Binds X.K fd ps [])
    (I : Inv X pins σ H s) (r : Vals xs us) (h : sp xs H Q E0) : wpAny (model X.prog X.w) X.A (call (.ref fa) us) (EP X pins σ Q) X.xe s := by
  have hl : us.length = ps.length := r.length.symm.trans (F.many _ _ _ _ h)
  have hb' := hb s us I.kIn (by rw [List.append_nil]; exact hl)
  rw [List.append_nil] at hb'
  refine wpAny_call (codeAny_mono (F.goes X.A X.stack s H ⟨us, []⟩ us xs Q E0 G.room G.gd I.env0 hb' r h) fun res s' hq => ?_)
  match res, hq with
  | .error _, hq => exact hq.elim
  | .ok (.ret _), hq => exact I.after hq
  | .ok .next, hq => exact hq.elim
  | .ok .brk, hq => exact hq.elim
  | .ok .cont, hq => exact hq.elim
theorem s_call {f : Nat} (G : Gd X k cf fn S) (hf : fn.lookup f = some x) (hg : glB S.sc x = true) (hn : nmB x = true) (hst : (e :: es).all notStar = true) (ha : PA X (e :: es) (tAs X.K w0 eA)) :
    PE X (.Call (.Name x p) (e :: es) [] pos) (tE X.K w0 (fun σ M => (eA σ M).bind fun vs M1 => callM cf f vs M1)) := by
  obtain ⟨fa, fd, ps, hm, hk, hb, F⟩ := G.fns f x hf
  have h2 := List.all_cons.symm.trans hst
  rw [Bool.and_eq_true] at h2
  refine ⟨fun pins s σ H Q I h => ?_⟩
  obtain ⟨mσ, β, M, R, Sl, o⟩ := h
  refine wpAny_Call_Name_kw (ld_glob I (G.gl hg) hm ?_ (nmB_of hn).1)
  have hh : tAs X.K w0 eA σ H fun xs H1 => spM X.K cf f xs H1 Q E0 := oneA R Sl o fun vs xs β1 M1 H1 s1 r1 S1 o1 => callM_sp (σ := σ) s1.rel r1 o1
  exact PySem.W.callWith_K (h₀ := X.base) I.ok.mod.kin hk (thn (ha.run pos pins s σ H _ I hh) fun us s1 ⟨xs, H1, I1, r, q⟩ => ⟨I1.kIn, runG F G hb I1 r q⟩) (notStar_of h2.1) (star_any pos h2.2)
theorem s_call0 {f : Nat} (G : Gd X k cf fn S) (hf : fn.lookup f = some x) (hg : glB S.sc x = true) (hn : nmB x = true) :
    PE X (.Call (.Name x p) [] [] pos) (tE X.K w0 (fun σ M => (Res.ok [] M).bind fun vs M1 => callM cf f vs M1)) := by
  obtain ⟨fa, fd, ps, hm, hk, hb, F⟩ := G.fns f x hf
  refine ⟨fun pins s σ H Q I h => ?_⟩
  obtain ⟨mσ, β, M, R, Sl, o⟩ := h
  have o : Out X.K β M H (callM cf f [] M) (kQ X.K Q) (w0 σ) := o
  refine wpAny_Call_Name_kw (ld_glob I (G.gl hg) hm ?_ (nmB_of hn).1)
  exact PySem.W.callWith_K0 I.kIn hk (runG (us := []) F G hb I .nil (callM_sp (σ := σ) R (reps_nil.mpr rfl) o))
/-- a built-in by its name -/
theorem s_bB {f : BF} {id : String} (hr : CallR X (.builtin id) (rC X.K f)) (hg : Gl X x) (hm : X.mg x = none) (hv : bootBuiltins x = some (.builtin id)) (hx : x ≠ "__name__") (hd : (x == ("__debug__" : Str)) = false) (hst : (e :: es).all notStar = true)
    (ha : PA X (e :: es) (tAs X.K w eA)) : PE X (.Call (.Name x p) (e :: es) [] pos) (tE X.K w (fun σ M => (eA σ M).bind fun vs M1 => bcallM f vs M1)) := by
  have h2 := List.all_cons.symm.trans hst
  rw [Bool.and_eq_true] at h2
  refine PE.imp (pe_callB hr hg hm hv ha hx hd (notStar_of h2.1) (star_any pos h2.2)) fun σ H Q h => ?_
  obtain ⟨mσ, β, M, R, Sl, o⟩ := h
  refine oneA R Sl o fun vs xs β1 M1 H1 s1 r1 S1 o1 => ?_
  exact ⟨vs, β1, M1, w σ, s1.rel, r1, o1⟩
theorem s_bT {f : BF} {T : String} (hr : CallR X (.type T) (rC X.K f)) (hg : Gl X x) (hm : X.mg x = none) (hv : bootBuiltins x = some (.type T)) (hx : x ≠ "__name__") (hd : (x == ("__debug__" : Str)) = false) (hst : (e :: es).all notStar = true)
    (ha : PA X (e :: es) (tAs X.K w eA)) : PE X (.Call (.Name x p) (e :: es) [] pos) (tE X.K w (fun σ M => (eA σ M).bind fun vs M1 => bcallM f vs M1)) := by
  have h2 := List.all_cons.symm.trans hst
  rw [Bool.and_eq_true] at h2
  refine PE.imp (pe_callTy hr hg hm hv ha hx hd (notStar_of h2.1) (star_any pos h2.2)) fun σ H Q h => ?_
  obtain ⟨mσ, β, M, R, Sl, o⟩ := h
  refine oneA R Sl o fun vs xs β1 M1 H1 s1 r1 S1 o1 => ?_
  exact ⟨vs, β1, M1, w σ, s1.rel, r1, o1⟩
theorem s_bcall {f : BF} (G : Gd X k cf fn S) (hf : f.id = some x) (hg : glB S.sc x = true) (hst : (e :: es).all notStar = true) (ha : PA X (e :: es) (tAs X.K w eA)) :
    PE X (.Call (.Name x p) (e :: es) [] pos) (tE X.K w (fun σ M => (eA σ M).bind fun vs M1 => bcallM f vs M1)) := by
  have gl := G.gl hg
  cases f <;> simp only [BF.id] at hf <;> cases hf
  · exact s_bB cb_len gl (G.blt _ (by decide +kernel)) (by decide +kernel) (by decide +kernel) (by decide +kernel) hst ha
  · exact s_bB (cb_all G.calm) gl (G.blt _ (by decide +kernel)) (by decide +kernel) (by decide +kernel) (by decide +kernel) hst ha
  · exact s_bB (cb_any G.calm) gl (G.blt _ (by decide +kernel)) (by decide +kernel) (by decide +kernel) (by decide +kernel) hst ha
  · exact s_bT cb_int gl (G.blt _ (by decide +kernel)) (by decide +kernel) (by decide +kernel) (by decide +kernel) hst ha
  · exact s_bT cb_list gl (G.blt _ (by decide +kernel)) (by decide +kernel) (by decide +kernel) (by decide +kernel) hst ha
  · exact s_bT cb_tuple gl (G.blt _ (by decide +kernel)) (by decide +kernel) (by decide +kernel) (by decide +kernel) hst ha
  · exact s_bB (cb_sum G.calm) gl (G.blt _ (by decide +kernel)) (by decide +kernel) (by decide +kernel) (by decide +kernel) hst ha
  · exact s_bB (cb_max1 G.calm (by have := G.hu; omega)) gl (G.blt _ (by decide +kernel)) (by decide +kernel) (by decide +kernel) (by decide +kernel) hst ha
  · exact s_bB (cb_min1 G.calm (by have := G.hu; omega)) gl (G.blt _ (by decide +kernel)) (by decide +kernel) (by decide +kernel) (by decide +kernel) hst ha
  · exact s_bB (cb_max2 G.calm) gl (G.blt _ (by decide +kernel)) (by decide +kernel) (by decide +kernel) (by decide +kernel) hst ha
  · exact s_bB (cb_min2 G.calm) gl (G.blt _ (by decide +kernel)) (by decide +kernel) (by decide +kernel) (by decide +kernel) hst ha
  · exact s_bB (cb_sorted G.hu) gl (G.blt _ (by decide +kernel)) (by decide +kernel) (by decide +kernel) (by decide +kernel) hst ha
  · exact s_bB (cb_repr G.hu G.gd) gl (G.blt _ (by decide +kernel)) (by decide +kernel) (by decide +kernel) (by decide +kernel) hst ha
/-- max(xs, default=d) -/
theorem s_maxD {kp : Pos} {e2 : Expr} {ky : Str} (G : Gd X k cf fn S) (hx : x = "max") (hk : ky = "default") (hg : glB S.sc x = true) (hst : notStar e = true) (ha : PE X e (tE X.K w ea)) (hb : PE X e2 (tE X.K w eb)) :
    PE X (.Call (.Name x p) [e] [⟨some ky, e2, kp⟩] pos) (tE X.K w (fun σ M => ((ea σ M).bind fun v M1 => ((eb σ M1).bind fun u M2 => (Res.ok [] M2).bind fun vs M3 => .ok (u :: vs) M3).bind fun vs M2 => .ok (v :: vs) M2).bind fun vs M1 => bcallM .maxD vs M1)) := by
  subst hx hk
  have hs := notStar_of (env := X.env) (es := []) hst
  refine PE.imp (pe_callBK (pos := pos) (cb_maxD G.calm (by have := G.hu; omega)) (G.gl hg) (G.blt _ (by decide +kernel)) (by decide +kernel) (pa_cons ha pa_nil hs) (pk_cons hb pk_nil) (by decide +kernel) (by decide +kernel) (by rw [hs]; rfl) (by rw [hs]; rfl) rfl rfl rfl) fun σ H Q h => ?_
  have e0 : (fun (σ : Mn.St) (M : Mem) => ((ea σ M).bind fun v M1 => ((eb σ M1).bind fun u M2 => (Res.ok [] M2).bind fun vs M3 => .ok (u :: vs) M3).bind fun vs M2 => .ok (v :: vs) M2).bind fun vs M1 => bcallM .maxD vs M1) =
      fun σ M => (ea σ M).bind fun v M1 => (eb σ M1).bind fun u M2 => bcallM .maxD [v, u] M2 := by
    funext σ M
    cases ea σ M with
    | ok v M1 =>
      show (Res.bind (Res.bind (Res.bind (eb σ M1) _) _) _) = Res.bind (eb σ M1) _
      cases eb σ M1 <;> rfl
    | exc _ _ => rfl
    | stuck => rfl
  rw [e0] at h
  obtain ⟨mσ, β, M, R, Sl, o⟩ := two (f := fun v u M2 => bcallM .maxD [v, u] M2) h
  refine ⟨mσ, β, M, R, Sl, o.imp (fun v β1 M1 H1 s1 q x hx => ?_) fun _ _ _ _ _ q => q⟩
  obtain ⟨mσ2, β2, M2, R2, Sl2, o2⟩ := q x hx
  refine ⟨mσ2, β2, M2, R2, Sl2, o2.imp (fun u β3 M3 H3 s3 q3 y hy => ?_) fun _ _ _ _ _ q => q⟩
  obtain ⟨v', u', β4, M4, w', R4, r4, r5, o4⟩ := q3 y hy
  exact ⟨⟨[v', u'], β4, M4, w', R4, reps_cons.mpr ⟨x, [y], rfl, r4, .one r5⟩, o4⟩, rfl, rfl⟩
/-- list(range(n)), tuple(range(n)) -/
theorem rangeL_rep {K : PySem.W.Frag} {H : Hp} {β : List Addr} (lo hi : Int) : Reps K H β (rangeL lo hi) (rgV lo hi) := by
  unfold rangeL rgV
  generalize List.range (hi - lo).toNat = l
  induction l with
  | nil => exact reps_nil.mpr rfl
  | cons i l ih => exact reps_cons.mpr ⟨_, _, rfl, rep_int.mpr rfl, ih⟩
theorem inRange_of {i : Int} (h : inRange i = true) : -(2 ^ 62) ≤ i ∧ i < 2 ^ 62 := by
  unfold inRange at h
  simpa using h
theorem s_listR1 {y : Str} {p2 pos2 : Pos} (G : Gd X k cf fn S) (hx : x = "list") (hy : y = "range") (hg : glB S.sc x = true) (hg2 : glB S.sc y = true) (hst : notStar e = true) (ha : PE X e (tE X.K w ea)) :
    PE X (.Call (.Name x p) [.Call (.Name y p2) [e] [] pos2] [] pos) (tE X.K w (fun σ M => ((ea σ M).bind fun v M1 => (Res.ok [] M1).bind fun vs M2 => .ok (v :: vs) M2).bind fun vs M1 => bcallM .listR1 vs M1)) := by
  subst hx hy
  refine PE.imp (pe_listRg G.calm (G.gl hg) (G.blt _ (by decide +kernel)) (prg_1 (G.gl hg2) (G.blt _ (by decide +kernel)) ha (notStar_of hst)) (notStar_of rfl)) fun σ H Q h => ?_
  obtain ⟨mσ, β, M, R, Sl, o⟩ := h
  simp only [assoc3] at o
  refine one R Sl o fun v x β1 M1 H1 s1 r1 S1 o1 => ?_
  have o1 : Out X.K β1 M1 H1 (bcallM .listR1 [v] M1) (kQ X.K Q) (w σ) := o1
  cases v with
  | int j =>
    simp only [bcallM] at o1
    split at o1
    · rename_i hc
      rw [Bool.and_eq_true, decide_eq_true_eq] at hc
      obtain ⟨b1, b2⟩ := inRange_of hc.1
      exact ⟨j, rep_int.mp r1, ⟨by omega, by omega, b1, b2, by omega⟩, fun q hq => o1.lst s1.rel (rangeL_rep 0 j) hq⟩
    · exact o1.elim
  | _ => exact o1.elim
theorem s_tupR1 {y : Str} {p2 pos2 : Pos} (G : Gd X k cf fn S) (hx : x = "tuple") (hy : y = "range") (hg : glB S.sc x = true) (hg2 : glB S.sc y = true) (hst : notStar e = true) (ha : PE X e (tE X.K w ea)) :
    PE X (.Call (.Name x p) [.Call (.Name y p2) [e] [] pos2] [] pos) (tE X.K w (fun σ M => ((ea σ M).bind fun v M1 => (Res.ok [] M1).bind fun vs M2 => .ok (v :: vs) M2).bind fun vs M1 => bcallM .tupR1 vs M1)) := by
  subst hx hy
  have hr := prg_1 (p := p2) (pos := pos2) (G.gl hg2) (G.blt _ (by decide +kernel)) ha (notStar_of hst)
  refine ⟨fun pins s σ H Q I h => ?_⟩
  obtain ⟨mσ, β, M, R, Sl, o⟩ := h
  simp only [assoc3] at o
  have key : tRg1 (tE X.K w ea) σ H fun a b H1 => RgOk a b ∧ ∀ q ob, H1 q = none → ob.dict = none → Q (.ref q) (upd H1 q (.frz ob (.tup (rgV a b)))) := by
    refine one R Sl o fun v x β1 M1 H1 s1 r1 S1 o1 => ?_
    have o1 : Out X.K β1 M1 H1 (bcallM .tupR1 [v] M1) (kQ X.K Q) (w σ) := o1
    cases v with
    | int j =>
      simp only [bcallM] at o1
      split at o1
      · rename_i hc
        rw [Bool.and_eq_true, decide_eq_true_eq] at hc
        obtain ⟨b1, b2⟩ := inRange_of hc.1
        exact ⟨j, rep_int.mp r1, ⟨by omega, by omega, b1, b2, by omega⟩, fun q ob hq ho => o1.tup s1.rel (rangeL_rep 0 j) hq ho⟩
      · exact o1.elim
    | _ => exact o1.elim
  refine Call_ (ld_blt I (G.gl hg) (G.blt _ (by decide +kernel)) boot_tuple (PyProof.Rows.callWith_type1 (args_cons (thn (hr pins s σ H _ I key) fun x s1 ⟨r, a, b, t, u, v, H1, ex, hrr, I1, ok, q⟩ => args_nil ?_) (notStar_of rfl)) (notStar_of rfl)))
  subst ex
  obtain ⟨b1, b2, b3, b4, b5⟩ := ok
  refine call_tuple_range (n := (b - a).toNat) (I1.ok.hd G.calm) hrr (small_one b1 b2 b3 b4) (rangeSize_nat a b) b5 fun h' tk acc hk hi => ?_
  have I2 : Inv X pins σ H1 { s1 with heap := h', toks := tk } := I1.kept hk
  have I3 := newTup I2 (vals_rg hi) (by rw [rgV_length, sizeLine_eq]; omega)
  have e2 : tupObj acc.toList = { cls := .type "tuple", data := .seq acc } := by unfold tupObj; rw [Array.toArray_toList]
  rw [e2] at I3
  exact ⟨.ref h'.objs.size, _, I3, rfl, q _ _ (I2.hok.fresh (Nat.le_refl _)) rfl⟩
/-- tuple(reversed(a list)) -/
theorem s_tupRev {y : Str} {p2 pos2 : Pos} (G : Gd X k cf fn S) (hx : x = "tuple") (hy : y = "reversed") (hg : glB S.sc x = true) (hg2 : glB S.sc y = true) (hst : notStar e = true) (ha : PE X e (tE X.K w ea)) :
    PE X (.Call (.Name x p) [.Call (.Name y p2) [e] [] pos2] [] pos) (tE X.K w (fun σ M => ((ea σ M).bind fun v M1 => (Res.ok [] M1).bind fun vs M2 => .ok (v :: vs) M2).bind fun vs M1 => bcallM .tupRev vs M1)) := by
  subst hx hy
  refine ⟨fun pins s σ H Q I h => ?_⟩
  obtain ⟨mσ, β, M, R, Sl, o⟩ := h
  simp only [assoc3] at o
  have key : tE X.K w ea σ H fun v H1 => ∃ (a : Addr) (ys : List V), v = .ref a ∧ (SqL X.K H1 a ys ∨ SqT X.K H1 a ys) ∧ ∀ q ob, H1 q = none → ob.dict = none → Q (.ref q) (upd H1 q (.frz ob (.tup ys.reverse))) := by
    refine one R Sl o fun v x β1 M1 H1 s1 r1 S1 o1 => ?_
    have o1 : Out X.K β1 M1 H1 (bcallM .tupRev [v] M1) (kQ X.K Q) (w σ) := o1
    cases v with
    | ref n =>
      simp only [bcallM] at o1
      split at o1
      · rename_i ps e
        obtain ⟨a, ys, hb, hl, rr⟩ := s1.rel.list e
        exact ⟨a, ys, r1.ref_of hb, .inl hl, fun q ob hq ho => o1.tup s1.rel rr.rev hq ho⟩
      · exact o1.elim
    | tup ps =>
      obtain ⟨a, ys, hb, hl, rr⟩ := rep_tup.mp r1
      exact ⟨a, ys, hb, .inr hl.sq, fun q ob hq ho => Out.tup s1.rel o1 rr.rev hq ho⟩
    | _ => exact o1.elim
  have hs := notStar_of (env := X.env) (es := []) hst
  refine Call_ (ld_blt I (G.gl hg) (G.blt _ (by decide +kernel)) boot_tuple (PyProof.Rows.callWith_type1 (args_cons (Call_ (ld_blt I (G.gl hg2) (G.blt _ (by decide +kernel)) PyProof.Rows.boot_reversed (PyProof.Rows.callWith_type1 (args_cons (thn (ha.run pins s σ H _ I key) fun u s1 ⟨v, H1, I1, r1, q1⟩ => args_nil ?_) hs) hs rfl))) (notStar_of rfl)) (notStar_of rfl) rfl))
  obtain ⟨a, ys, ev, hq, q⟩ := q1
  subst ev
  obtain rfl : u = Value.ref a := r1
  rcases hq with hq | hq
  · obtain ⟨its, rv, pl, hz⟩ := I1.list hq
    refine call_reversed_list pl.isList (args_nil ?_)
    have I2 : Inv X pins σ H1 { s1 with heap := s1.heap.push (revObj a ((its.toArray.size : Int) - 1)) } := I1.kept (t' := s1.toks) fun b o e => Heap.get?_push_of_some _ e
    obtain ⟨f0, f1, f2, f3, f4, f5⟩ := I1.fpOk (H' := H1) (b := s1.heap.objs.size) (Nat.le_refl _) (I1.hok.fresh (Nat.le_refl _))
    have hn : its.toArray.size ≤ sizeLine := by rw [List.size_toArray, ← rv.length]; exact hz
    have hne : a ≠ s1.heap.objs.size := by
      obtain ⟨ob, hob, _⟩ := id pl.isList
      exact Nat.ne_of_lt (Heap.lt_size hob)
    refine RT.call_tuple_rev (s := { s1 with heap := s1.heap.push (revObj a ((its.toArray.size : Int) - 1)) }) (I1.ok.hd G.calm) ⟨_, Heap.get?_push_size _ rfl, rfl, rfl⟩ (pl.isList.push _) hne hn fun h' tk acc hk hi => ?_
    have I3 : Inv X pins σ H1 { s1 with heap := h', toks := tk } := I2.turned (t' := tk) (fun b o hb e => hk b o hb e) f0 f1 f3 f4 f5
    have I4 := newTup I3 (RT.vals_rev rv hi) (by rw [List.length_reverse]; exact hz)
    have e2 : tupObj acc.toList = { cls := .type "tuple", data := .seq acc } := by unfold tupObj; rw [Array.toArray_toList]
    rw [e2] at I4
    exact ⟨.ref h'.objs.size, _, I4, rfl, q _ _ (I3.hok.fresh (Nat.le_refl _)) rfl⟩
  · obtain ⟨its, rv, pl, hz⟩ := I1.tuple hq
    have hn : its.toArray.size ≤ sizeLine := by rw [List.size_toArray, ← rv.length]; exact hz
    refine RT.call_reversed_tup pl (fun A E Q k => len_tuple pl (by rw [sizeLine_eq] at hn; omega) k) (args_nil ?_)
    have I2 : Inv X pins σ H1 { s1 with heap := s1.heap.push (RT.rtObj a ((its.toArray.size : Int) - 1)), toks := s1.toks + 1 + 1 } := I1.kept fun b o e => Heap.get?_push_of_some _ e
    obtain ⟨f0, f1, f2, f3, f4, f5⟩ := I1.fpOk (H' := H1) (b := s1.heap.objs.size) (Nat.le_refl _) (I1.hok.fresh (Nat.le_refl _))
    have hne : a ≠ s1.heap.objs.size := Nat.ne_of_lt pl.lt
    refine call_tuple_rt (s := { s1 with heap := s1.heap.push (RT.rtObj a ((its.toArray.size : Int) - 1)), toks := s1.toks + 1 + 1 }) (I1.ok.hd G.calm) ⟨_, Heap.get?_push_size _ rfl, rfl, rfl⟩ (pl.push _) hne hn fun h' tk acc hk hi => ?_
    have I3 : Inv X pins σ H1 { s1 with heap := h', toks := tk } := I2.turned (t' := tk) (fun b o hb e => hk b o hb e) f0 f1 f3 f4 f5
    have I4 := newTup I3 (RT.vals_rev rv hi) (by rw [List.length_reverse]; exact hz)
    have e2 : tupObj acc.toList = { cls := .type "tuple", data := .seq acc } := by unfold tupObj; rw [Array.toArray_toList]
    rw [e2] at I4
    exact ⟨.ref h'.objs.size, _, I4, rfl, q _ _ (I3.hok.fresh (Nat.le_refl _)) rfl⟩
end
end Mn
end
section
set_option Elab.async false
set_option linter.all false
set_option maxRecDepth 100000
set_option maxHeartbeats 4000000
namespace Mn
open PySem PySem.Spec PyProof.Rows L2

/-! ### isinstance -/
def PV.ty (v : PV) : String := match v with
  | .non => "NoneType" | .bl _ => "bool" | .int _ => "int" | .str _ => "str" | .tup _ => "tuple" | .ref _ => "list"
def TyK.ty : TyK → String
  | .list => "list" | .tuple => "tuple" | .bool => "bool" | .int => "int" | .str => "str"
theorem kt_non : ∀ t : TyK, kitB "NoneType" t.ty = some (([] : List TyK).contains t) := fun t => by cases t <;> decide +kernel
theorem kt_bl : ∀ t : TyK, kitB "bool" t.ty = some ([TyK.bool, TyK.int].contains t) := fun t => by cases t <;> decide +kernel
theorem kt_int : ∀ t : TyK, kitB "int" t.ty = some ([TyK.int].contains t) := fun t => by cases t <;> decide +kernel
theorem kt_str : ∀ t : TyK, kitB "str" t.ty = some ([TyK.str].contains t) := fun t => by cases t <;> decide +kernel
theorem kt_tup : ∀ t : TyK, kitB "tuple" t.ty = some ([TyK.tuple].contains t) := fun t => by cases t <;> decide +kernel
theorem kt_lst : ∀ t : TyK, kitB "list" t.ty = some ([TyK.list].contains t) := fun t => by cases t <;> decide +kernel
section
variable {K : PySem.W.Frag} {β : List Addr} {M : Mem} {H : Hp}
theorem ty_rep (R : RelH K β M H) {v : PV} {x : V} {ks : List TyK} (h : tyOf v M = some ks) (r : Rep K H β v x) : TyX K H x (.type v.ty) ∧ ∀ t : TyK, PySem.W.kitOne K (.type v.ty) (.type t.ty) = some (ks.contains t) := by
  cases v with
  | non =>
    cases h
    rw [rep_non.mp r]
    exact ⟨.base .non, fun t => kit_ty (kt_non t)⟩
  | bl b =>
    cases h
    rw [rep_bl.mp r]
    exact ⟨.base (.bl _), fun t => kit_ty (kt_bl t)⟩
  | int b =>
    cases h
    rw [rep_int.mp r]
    exact ⟨.base (.int _), fun t => kit_ty (kt_int t)⟩
  | str b =>
    cases h
    rw [rep_str.mp r]
    exact ⟨.base (.str _), fun t => kit_ty (kt_str t)⟩
  | tup ps =>
    cases h
    obtain ⟨a, xs, rfl, ht, _⟩ := rep_tup.mp r
    refine ⟨?_, fun t => kit_ty (kt_tup t)⟩
    rcases ht with ⟨o, e, _⟩ | ⟨o, its, n, e1, e2, _⟩
    · exact .fTuple e
    · exact .kTuple e1 e2
  | ref n =>
    simp only [tyOf] at h
    split at h
    · rename_i o e
      cases h
      obtain ⟨a, e1, e2⟩ := R.obj n o e
      rw [r.ref_of e1]
      refine ⟨?_, fun t => kit_ty (kt_lst t)⟩
      cases o with
      | lst xs =>
        obtain ⟨ys, e3, _⟩ := e2
        exact .base (.lst e3)
      | rol xs =>
        obtain ⟨ys, e3, _⟩ := e2
        rcases e3 with ⟨ob, e3⟩ | ⟨ob, its, m, e3, e4, _⟩
        · exact .base (.frz e3)
        · exact .kList e3 e4
    · cases h
theorem kits {t0 : String} {ks : List TyK} (h : ∀ t : TyK, PySem.W.kitOne K (.type t0) (.type t.ty) = some (ks.contains t)) : ∀ ts : List TyK, PySem.W.kitAny K (.type t0) (ts.map fun t => Value.type t.ty) = some (ts.any fun t => ks.contains t)
  | [] => rfl
  | t :: ts => by
    have ih := kits h ts
    rw [List.map_cons, List.any_cons]
    refine kitAny_cons (h t) (fun e => ?_) fun e => ?_
    · rw [e, ih]; rfl
    · rw [e]; rfl
theorem any_swap (ks ts : List TyK) : (ks.any fun k => ts.contains k) = ts.any fun t => ks.contains t := by
  rw [Bool.eq_iff_iff]
  simp only [List.any_eq_true, List.contains_iff_mem]
  exact ⟨fun ⟨a, h1, h2⟩ => ⟨a, h2, h1⟩, fun ⟨a, h1, h2⟩ => ⟨a, h2, h1⟩⟩
end
section
variable {X : Cx} {k : Nat} {cf : CF} {fn : List (Nat × Str)} {S : SC} {e : Expr} {es : List Expr} {pos p : Pos} {x : Str} {ea eb : Mn.Ev} {eA : Mn.St → Mem → Res (List PV)} {w : WS}
theorem ty_name (G : Gd X k cf fn S) {t : TyK} {z : Str} (hz : z = t.id) (hg : glB S.sc z = true) : PE X (.Name z p) (tC (.ty t.ty)) := by
  subst hz
  cases t
  · exact pe_bltn (G.gl hg) (G.blt _ (by decide +kernel)) (u := .type "list") (by decide +kernel) rfl (by decide +kernel) (by decide +kernel)
  · exact pe_bltn (G.gl hg) (G.blt _ (by decide +kernel)) (u := .type "tuple") (by decide +kernel) rfl (by decide +kernel) (by decide +kernel)
  · exact pe_bltn (G.gl hg) (G.blt _ (by decide +kernel)) (u := .type "bool") (by decide +kernel) rfl (by decide +kernel) (by decide +kernel)
  · exact pe_bltn (G.gl hg) (G.blt _ (by decide +kernel)) (u := .type "int") (by decide +kernel) rfl (by decide +kernel) (by decide +kernel)
  · exact pe_bltn (G.gl hg) (G.blt _ (by decide +kernel)) (u := .type "str") (by decide +kernel) rfl (by decide +kernel) (by decide +kernel)
theorem s_isi1 {t : TyK} {z : Str} {p2 : Pos} (G : Gd X k cf fn S) (hx : x = "isinstance") (hg : glB S.sc x = true) (hst : notStar e = true) (hz : z = t.id) (hgz : glB S.sc z = true) (ha : PE X e (tE X.K w ea)) :
    PE X (.Call (.Name x p) [e, .Name z p2] [] pos) (tE X.K w (fun σ M => (ea σ M).bind fun v M1 => isiM v [t] M1)) := by
  subst hx
  refine PE.imp (pe_callB call_isi (G.gl hg) (G.blt _ (by decide +kernel)) (by decide +kernel) (pa_cons ha (pa_cons (ty_name G hz hgz) pa_nil (notStar_of rfl)) (notStar_of hst)) (by decide +kernel) (by decide +kernel) (notStar_of hst) (star_any pos rfl)) fun σ H Q h => ?_
  obtain ⟨mσ, β, M, R, Sl, o⟩ := h
  refine one R Sl o fun v y β1 M1 H1 s1 r1 S1 o1 => ?_
  unfold isiM at o1
  split at o1
  · rename_i ks hk
    obtain ⟨t1, t2⟩ := ty_rep s1.rel hk r1
    refine ⟨y, .ty t.ty, _, _, _, rfl, .ty _, t1, t2 t, ?_⟩
    rw [any_swap] at o1
    have := o1.flat s1.rel (rep_bl.mpr rfl)
    simpa using this
  · exact o1.elim
theorem tys_pa (G : Gd X k cf fn S) : ∀ {ts : List TyK} {es : List Expr}, tysB S.sc ts es = true → PA X es (fun _ H Q => Q (ts.map fun t => V.ty t.ty) H) ∧ es.all notStar = true
  | [], [], _ => ⟨PA.imp pa_nil fun _ _ _ h => h, rfl⟩
  | [], _ :: _, h => by unfold tysB at h; cases h
  | t :: ts, [], h => by unfold tysB at h; cases h
  | t :: ts, e :: es, h => by
    cases e with
    | Name y p =>
      unfold tysB at h
      simp only [Bool.and_eq_true, beq_iff_eq] at h
      obtain ⟨ih1, ih2⟩ := tys_pa G h.2
      refine ⟨PA.imp (pa_cons (ty_name G h.1.1 h.1.2) ih1 (notStar_of rfl)) fun _ _ _ q => q, ?_⟩
      rw [List.all_cons, ih2]; rfl
    | _ => unfold tysB at h; cases h
theorem clsV_map : ∀ ts : List TyK, Paired ClsV (ts.map fun t => V.ty t.ty) (ts.map fun t => Value.type t.ty)
  | [] => .nil
  | t :: ts => .cons (.ty _) (clsV_map ts)
theorem s_isiT {ts : List TyK} {kk : Nat} {p2 : Pos} (G : Gd X k cf fn S) (hx : x = "isinstance") (hg : glB S.sc x = true) (hst : notStar e = true) (ht : tysB S.sc ts es = true) (ha : PE X e (tE X.K w ea)) :
    PE X (.Call (.Name x p) [e, .Tuple es kk p2] [] pos) (tE X.K w (fun σ M => (ea σ M).bind fun v M1 => if ts.length ≤ LIM then isiM v ts M1 else .stuck)) := by
  subst hx
  obtain ⟨h1, h2⟩ := tys_pa G ht
  refine PE.imp (pe_callB call_isiT (G.gl hg) (G.blt _ (by decide +kernel)) (by decide +kernel) (pa_cons ha (pa_cons (pe_tup h1) pa_nil (notStar_of rfl)) (notStar_of hst)) (by decide +kernel) (by decide +kernel) (notStar_of hst) (star_any pos rfl)) fun σ H Q h => ?_
  obtain ⟨mσ, β, M, R, Sl, o⟩ := h
  refine one R Sl o fun v y β1 M1 H1 s1 r1 S1 o1 => ?_
  by_cases hz : ts.length ≤ LIM
  · rw [if_pos hz] at o1
    refine ⟨by rw [List.length_map, ← LIM_eq]; exact hz, fun q hq => ?_⟩
    have s2 := stp_new (o := HO.tup (ts.map fun t => V.ty t.ty)) s1.rel hq
    unfold isiM at o1
    split at o1
    · rename_i ks hk
      obtain ⟨t1, t2⟩ := ty_rep s2.rel hk (s2.rep s1.rel r1)
      refine ⟨y, q, _, _, _, _, rfl, upd_same, clsV_map ts, t1, kits t2 ts, ?_⟩
      rw [any_swap] at o1
      exact o1 _ _ s2 _ (rep_bl.mpr rfl)
    · exact o1.elim
  · rw [if_neg hz] at o1; exact o1.elim

/-! ### methods -/
/-- of what type the thing is, and which built-in is meant -/
theorem recv_list {pins : List (Addr × Obj)} {s : Shared} {σ : L2.St} {H : Hp} {β : List Addr} {M : Mem} {n : Nat} {y : V} {u : Value} (I : Inv X pins σ H s) (R : RelH X.K β M H) (hr : (M.get n).isSome = true) (r : Rep X.K H β (.ref n) y) (ru : RelV y u) :
    s.TypeIs u "list" ∧ ∀ a, u = .ref a → ∃ ob, s.heap.get? a = some ob ∧ ob.dict = none := by
  obtain ⟨o, e⟩ := Option.isSome_iff_exists.mp hr
  have : ∃ xs, M.lst? n = some xs := by
    unfold Mem.lst?
    rw [e]
    cases o <;> exact ⟨_, rfl⟩
  obtain ⟨xs, e⟩ := this
  obtain ⟨a, ys, e1, e2, _⟩ := R.list e
  rw [r.ref_of e1] at ru
  exact tyV_is I ru (.inl ⟨rfl, ys, e2⟩)
theorem recv_tup {pins : List (Addr × Obj)} {s : Shared} {σ : L2.St} {H : Hp} {β : List Addr} {ps : List PV} {y : V} {u : Value} (I : Inv X pins σ H s) (r : Rep X.K H β (.tup ps) y) (ru : RelV y u) :
    s.TypeIs u "tuple" ∧ ∀ a, u = .ref a → ∃ ob, s.heap.get? a = some ob ∧ ob.dict = none := by
  obtain ⟨a, xs, rfl, ht, _⟩ := rep_tup.mp r
  cases ru
  rcases ht with ⟨o, e, d⟩ | ⟨o, its, n, e1, e2, d, _⟩
  · obtain ⟨e1, _, its, _, o', e2, hc, _⟩ := I.hok a _ e
    rw [e1] at e2; cases e2
    exact ⟨⟨o, e1, hc⟩, fun b q => by cases q; exact ⟨o, e1, d⟩⟩
  · exact ⟨⟨o, I.kIn a o e1, e2⟩, fun b q => by cases q; exact ⟨o, I.kIn _ o e1, d⟩⟩
/-- the built-in behind a method, and that it keeps what methM says -/
theorem meth_at {m : MF} {v : PV} {M1 : Mem} {β1 : List Addr} {H1 : Hp} (hu : X.A.units + 65 < cLine) (R : RelH X.K β1 M1 H1) (hr : recvOk m v M1 = true) {y : V} (r : Rep X.K H1 β1 v y) :
    ∃ T id, PlainAttrs T ∧ Slot T m.id id ∧ typeOf (.builtin id) = pure (.type "method_descriptor") ∧
      (∀ pins s σ u, Inv X pins σ H1 s → RelV y u → s.TypeIs u T ∧ ∀ a, u = .ref a → ∃ ob, s.heap.get? a = some ob ∧ ob.dict = none) ∧
      ∀ pins s σ H xs u us Q, Inv X pins σ H s → RelV y u → Vals xs us → (∃ vs β M w, RelH X.K β M H ∧ Rep X.K H β v y ∧ Reps X.K H β vs xs ∧ Out X.K β M H (methM m v vs M) (kQ X.K Q) w) →
        wpAny (model X.prog X.w) X.A (call (.builtin id) (u :: us)) (EP X pins σ Q) X.xe s := by
  have lst : ∀ {n : Nat} {id : String}, v = .ref n → (M1.get n).isSome = true → Slot "list" m.id id → typeOf (.builtin id) = pure (.type "method_descriptor") → MtR X id (rMt X.K m) →
      ∃ T id, PlainAttrs T ∧ Slot T m.id id ∧ typeOf (.builtin id) = pure (.type "method_descriptor") ∧
      (∀ pins s σ u, Inv X pins σ H1 s → RelV y u → s.TypeIs u T ∧ ∀ a, u = .ref a → ∃ ob, s.heap.get? a = some ob ∧ ob.dict = none) ∧
      ∀ pins s σ H xs u us Q, Inv X pins σ H s → RelV y u → Vals xs us → (∃ vs β M w, RelH X.K β M H ∧ Rep X.K H β v y ∧ Reps X.K H β vs xs ∧ Out X.K β M H (methM m v vs M) (kQ X.K Q) w) →
        wpAny (model X.prog X.w) X.A (call (.builtin id) (u :: us)) (EP X pins σ Q) X.xe s := fun {n id} hv hs slot ty mt => by
    subst hv
    refine ⟨"list", id, PySem.F.plainAttrs_list, slot, ty, fun pins s σ u I ru => recv_list I R hs r ru, fun pins s σ H xs u us Q I ru rv h => ?_⟩
    obtain ⟨vs, β, M, w, h1, h2, h3, h4⟩ := h
    exact mt pins s σ H y xs u us Q I ru rv ⟨_, vs, β, M, w, h1, h2, h3, h4⟩
  cases m with
  | append => cases v with
    | ref n => exact lst rfl hr PySem.F.slot_list_append PySem.F.type_list_append mm_append
    | _ => cases hr
  | extend => cases v with
    | ref n => exact lst rfl hr PySem.F.slot_list_extend PySem.F.type_list_extend mm_extend
    | _ => cases hr
  | pop => cases v with
    | ref n => exact lst rfl hr PySem.F.slot_list_pop PySem.F.type_list_pop mm_pop
    | _ => cases hr
  | reverse => cases v with
    | ref n => exact lst rfl hr PySem.F.slot_list_reverse PySem.F.type_list_reverse mm_reverse
    | _ => cases hr
  | clear => cases v with
    | ref n => exact lst rfl hr PySem.F.slot_list_clear PySem.F.type_list_clear mm_clear
    | _ => cases hr
  | insert => cases v with
    | ref n =>
      refine lst rfl hr PySem.F.slot_list_insert PySem.F.type_list_insert fun pins s σ H x xs v us Q I rx rv h => ?_
      obtain ⟨pv, vs, β, M, w, R, hx, hs, o⟩ := h
      exact absurd o (by cases pv <;> exact fun o => o)
    | _ => cases hr
  | count => cases v with
    | ref n =>
      refine lst rfl hr PySem.F.slot_list_count PySem.F.type_list_count fun pins s σ H x xs v us Q I rx rv h => ?_
      obtain ⟨pv, vs, β, M, w, R, hx, hs, o⟩ := h
      exact absurd o (by cases pv <;> exact fun o => o)
    | _ => cases hr
  | index =>
    cases v with
    | ref n =>
      refine ⟨"list", _, PySem.F.plainAttrs_list, PySem.F.slot_list_index, PySem.F.type_list_index, fun pins s σ u I ru => recv_list I R hr r ru, fun pins s σ H xs u us Q I ru rv h => ?_⟩
      obtain ⟨vs, β, M, w, h1, h2, h3, h4⟩ := h
      exact mm_indexL hu pins s σ H y xs u us Q I ru rv ⟨n, vs, β, M, w, h1, h2, h3, h4⟩
    | tup ps =>
      refine ⟨"tuple", _, PySem.F.plainAttrs_tuple, PySem.F.slot_tuple_index, PySem.F.type_tuple_index, fun pins s σ u I ru => recv_tup I r ru, fun pins s σ H xs u us Q I ru rv h => ?_⟩
      obtain ⟨vs, β, M, w, h1, h2, h3, h4⟩ := h
      obtain ⟨a, zs, e1, ht, _⟩ := rep_tup.mp h2
      exact mm_indexT hu pins s σ H y xs u us Q I ru rv ⟨⟨a, zs, e1, ht⟩, ps, vs, β, M, w, h1, h2, h3, h4⟩
    | _ => cases hr
  | join => cases v with
    | str z =>
      refine ⟨"str", _, PySem.F.plainAttrs_str, PySem.F.slot_str_join, PySem.F.type_str_join, fun pins s σ u I ru => ?_, fun pins s σ H xs u us Q I ru rv h => ?_⟩
      · rw [rep_str.mp r] at ru
        exact tyV_is (T := "str") I ru rfl
      · obtain ⟨vs, β, M, w, h1, h2, h3, h4⟩ := h
        exact h4.elim
    | _ => cases hr
theorem base_of {o : Expr} {name : Str} {env : Env} (h : notCall0 o = true) : attributeBase o name env (eval o env) = eval o env := by
  cases o with
  | Call f args kws p =>
    cases args with
    | nil => cases h
    | cons a as =>
      cases f <;> rfl
  | _ => rfl
theorem all_false (pos : Pos) {env : Env} : ∀ {es : List Expr}, es.all notStar = true → (backTo pos (starEach es env)).all (fun x => !x.1) = true
  | [], _ => rfl
  | e :: es, h => by
    rw [List.all_cons, Bool.and_eq_true] at h
    rw [notStar_of h.1]
    show (!false && (backTo pos (starEach es env)).all (fun x => !x.1)) = true
    rw [all_false pos h.2]
    rfl
theorem s_meth {m : MF} {name : Str} {apos cpos : Pos} {e1 : Expr} (hu : X.A.units + 65 < cLine) (hn : name = m.id) (hc : notCall0 e = true) (hl : (apos.endLine == cpos.line) = true) (hlen : (e1 :: es).length < 20) (hst : (e1 :: es).all notStar = true) (ho : PE X e (tE X.K w ea)) (ha : PA X (e1 :: es) (tAs X.K w eA)) :
    PE X (.Call (.Attribute e name apos) (e1 :: es) [] cpos) (tE X.K w (fun σ M => (ea σ M).bind fun v M1 => if recvOk m v M1 then (eA σ M1).bind fun vs M2 => methM m v vs M2 else .stuck)) := by
  subst hn
  refine ⟨fun pins s σ H Q I h => ?_⟩
  obtain ⟨mσ, β, M, R, Sl, o⟩ := h
  have hfew : ((backTo cpos (starEach (e1 :: es) X.env)).all (fun x => !x.1) && (backToKw cpos (keywordEach [] X.env)).all (fun x => x.1.isSome)
      && decide ((e1 :: es).length + ([] : List Keyword).length + (if ([] : List Keyword).isEmpty then 0 else 1) < 30)) = true := by
    rw [all_false cpos hst, decide_eq_true (by show (e1 :: es).length + 0 + 0 < 30; omega)]
    rfl
  have key : tE X.K w ea σ H fun x H1 => ∃ v β1 M1, Stp X.K β M H β1 M1 H1 ∧ Rep X.K H1 β1 v x ∧ recvOk m v M1 = true ∧ tAs X.K w eA σ H1 fun xs H2 => ∃ vs β2 M2, RelH X.K β2 M2 H2 ∧ Rep X.K H2 β2 v x ∧ Reps X.K H2 β2 vs xs ∧ Out X.K β2 M2 H2 (methM m v vs M2) (kQ X.K Q) (w σ) :=
    one R Sl o fun v x β1 M1 H1 s1 r1 S1 o1 => by
      by_cases hr : recvOk m v M1 = true
      · rw [if_pos hr] at o1
        exact ⟨v, β1, M1, s1, r1, hr, oneA s1.rel S1 o1 fun vs xs β2 M2 H2 s2 r2 S2 o2 => ⟨vs, β2, M2, s2.rel, s2.rep s1.rel r1, r2, o2⟩⟩
      · rw [if_neg hr] at o1; exact o1.elim
  refine wpAny_Call_method_late (base_of hc) hfew hl rfl (thn (ho.run pins s σ H _ I key) fun u s1 ⟨x, H1, I1, ru, v, β1, M1, s1', r1, hr, q⟩ => ?_)
  obtain ⟨T, id, pa, slot, hty, hT, hcall⟩ := meth_at hu s1'.rel hr r1
  obtain ⟨t1, t2⟩ := hT pins s1 σ u I1 ru
  refine ⟨T, id, pa, slot, hty, t1, t2, ?_⟩
  have hA := ha.run cpos pins s1 σ H1 _ I1 q
  have hsa := star_any (env := X.env) cpos hst
  have hs1 : notStar e1 = true := by
    rw [List.all_cons, Bool.and_eq_true] at hst
    exact hst.1
  rw [notStar_of hs1] at hA hsa ⊢
  refine Calls.callWith_builtin hsa (Calls.evalArgs_plain ?_)
  refine thn hA fun us s2 ⟨xs, H2, I2, r2, vs, β2, M2, h1, h2, h3, h4⟩ => ?_
  exact hcall pins s2 σ H2 xs u us Q I2 ru r2 ⟨vs, β2, M2, w σ, h1, h2, h3, h4⟩
theorem s_meth0 {m : MF} {name : Str} {apos cpos : Pos} (hu : X.A.units + 65 < cLine) (hn : name = m.id) (hc : notCall0 e = true) (hl : (apos.endLine == cpos.line) = true) (ho : PE X e (tE X.K w ea)) :
    PE X (.Call (.Attribute e name apos) [] [] cpos) (tE X.K w (fun σ M => (ea σ M).bind fun v M1 => if recvOk m v M1 then (Res.ok [] M1).bind fun vs M2 => methM m v vs M2 else .stuck)) := by
  subst hn
  refine ⟨fun pins s σ H Q I h => ?_⟩
  obtain ⟨mσ, β, M, R, Sl, o⟩ := h
  have key : tE X.K w ea σ H fun x H1 => ∃ v β1 M1, Stp X.K β M H β1 M1 H1 ∧ Rep X.K H1 β1 v x ∧ recvOk m v M1 = true ∧ Out X.K β1 M1 H1 (methM m v [] M1) (kQ X.K Q) (w σ) :=
    one R Sl o fun v x β1 M1 H1 s1 r1 S1 o1 => by
      by_cases hr : recvOk m v M1 = true
      · rw [if_pos hr] at o1
        exact ⟨v, β1, M1, s1, r1, hr, o1⟩
      · rw [if_neg hr] at o1; exact o1.elim
  refine wpAny_Call_method0_late (base_of hc) hl (thn (ho.run pins s σ H _ I key) fun u s1 ⟨x, H1, I1, ru, v, β1, M1, s1', r1, hr, q⟩ => ?_)
  obtain ⟨T, id, pa, slot, hty, hT, hcall⟩ := meth_at hu s1'.rel hr r1
  obtain ⟨t1, t2⟩ := hT pins s1 σ u I1 ru
  exact ⟨T, id, pa, slot, hty, t1, t2, Calls.callWith_builtin rfl (PySem.evalArgs_none (hcall pins s1 σ H1 [] u [] Q I1 ru .nil ⟨[], β1, M1, w σ, s1'.rel, r1, reps_nil.mpr rfl, q⟩))⟩
end
end Mn
end
section
set_option Elab.async false
set_option linter.all false
set_option maxRecDepth 100000
set_option maxHeartbeats 4000000
namespace Mn
open PySem PySem.Spec PyProof.Rows L2

/-! ### targets -/
mutual
def gT (K : PySem.W.Frag) : MG → TG
  | .name i => gName i
  | .tup gs => gTup K gs.len (gTs K gs)
def gTs (K : PySem.W.Frag) : MGs → TGs
  | .nil => gNil
  | .cons g gs => gCons (gT K g) (gTs K gs)
def MGs.len : MGs → Nat
  | .nil => 0
  | .cons _ gs => gs.len + 1
end
section
variable {X : Cx} {k : Nat} {cf : CF} {fn : List (Nat × Str)} {S : SC}
theorem each_len {N : List Str} {env : Env} : ∀ {gs : MGs} {es : List Expr}, chkGs N S gs es = true → (assignEach es env).length = gs.len ∧ (assignEach es env).findIdx? (·.1) = none
  | .nil, es, h => by
    unfold chkGs at h
    cases es with
    | nil => exact ⟨rfl, rfl⟩
    | cons _ _ => cases h
  | .cons g gs, es, h => by
    unfold chkGs at h
    cases es with
    | nil => cases h
    | cons e es =>
      simp only [Bool.and_eq_true] at h
      obtain ⟨h1, h2⟩ := each_len (env := env) h.2
      have e1 : assignEach (e :: es) env = (false, assign e env) :: assignEach es env := by
        cases e <;> first | rfl | exact absurd h.1.2 (by intro z; cases z)
      rw [e1]
      refine ⟨by rw [List.length_cons, h1]; rfl, ?_⟩
      rw [List.findIdx?_cons]
      simp [h2]
mutual
theorem pg_of (G : Gd X k cf fn S) : ∀ {g : MG} {e : Expr}, chkG X.N S g e = true → PG X e (gT X.K g)
  | .name i, e, h => by
    unfold chkG at h
    split at h
    · rename_i x _
      simp only [Bool.and_eq_true, beq_iff_eq] at h
      obtain ⟨l1, l2⟩ := G.loc h.2
      rw [gT]
      exact pg_name G.nd h.1 l1 l2
    · cases h
  | .tup gs, e, h => by
    unfold chkG at h
    split at h
    · obtain ⟨h1, h2⟩ := each_len (env := X.env) h
      rw [gT]
      exact pg_tup G.calm (pgs_of G h) h1 h2
    · cases h
theorem pgs_of (G : Gd X k cf fn S) : ∀ {gs : MGs} {es : List Expr}, chkGs X.N S gs es = true → PGs X es (gTs X.K gs)
  | .nil, es, h => by
    unfold chkGs at h
    cases es with
    | nil => rw [gTs]; exact pgs_nil
    | cons _ _ => cases h
  | .cons g gs, es, h => by
    unfold chkGs at h
    cases es with
    | nil => cases h
    | cons e es =>
      simp only [Bool.and_eq_true] at h
      rw [gTs]
      refine pgs_cons (pg_of G h.1.1) (pgs_of G h.2) ?_
      have h2 := h.1.2
      cases e <;> first | rfl | cases h2
end
end
theorem wipe_set {σ : L2.St} {i : Nat} {x : Option V} : ∀ {vs : List Nat}, i ∈ vs → L2.wipe (σ.set i x) vs = L2.wipe σ vs
  | [], h => by cases h
  | v :: vs, h => by
    unfold L2.wipe
    by_cases hv : v = i
    · subst hv
      by_cases hm : v ∈ vs
      · rw [wipe_set hm]
      · -- the slot v is forgotten at last anyway
        have key : ∀ (ws : List Nat), v ∉ ws → L2.wipe (σ.set v x) ws = (L2.wipe σ ws).set v x := by
          intro ws
          induction ws with
          | nil => intro _; rfl
          | cons u ws ih =>
            intro hn
            have h1 : u ≠ v := fun e => hn (e ▸ List.mem_cons_self)
            have h2 : v ∉ ws := fun e => hn (List.mem_cons_of_mem _ e)
            unfold L2.wipe
            rw [ih h2, List.set_comm _ _ (fun e => h1 e.symm)]
        rw [key vs hm, List.set_set]
    · have hm : i ∈ vs := by
        rcases List.mem_cons.mp h with e | e
        · exact absurd e.symm hv
        · exact e
      rw [wipe_set hm]
/-- what may be handed to a target: its parts are at hand (a pair of enumerate or zip: as it is) -/
def RepG (K : PySem.W.Frag) (H : Hp) (β : List Addr) (g : MG) (v : PV) (x : V) : Prop :=
  match g with
  | .name _ => Rep K H β v x
  | .tup _ => ∃ ps a xs, v = .tup ps ∧ x = .ref a ∧ SqT K H a xs ∧ Reps K H β ps xs
section
variable {K : PySem.W.Frag} {H : Hp} {β : List Addr}
theorem Rep.g {g : MG} {v : PV} {x : V} (h : Rep K H β v x) (hg : ∀ gs, g = .tup gs → ∃ ps, v = .tup ps) : RepG K H β g v x := by
  cases g with
  | name i => exact h
  | tup gs =>
    obtain ⟨ps, rfl⟩ := hg gs rfl
    obtain ⟨a, xs, e, t, r⟩ := rep_tup.mp h
    exact ⟨ps, a, xs, rfl, e, t.sq, r⟩
theorem assign_tup {g : MG} {v : PV} {mσ mσ' : Mn.St} (h : assignG g v mσ = some mσ') : ∀ gs, g = .tup gs → ∃ ps, v = .tup ps := fun gs e => by
  subst e
  unfold assignG at h
  cases v with
  | tup ps => exact ⟨ps, rfl⟩
  | _ => cases h
theorem assigns_len : ∀ {gs : MGs} {ps : List PV} {mσ mσ' : Mn.St}, assignGs gs ps mσ = some mσ' → ps.length = gs.len
  | .nil, ps, mσ, mσ', h => by
    unfold assignGs at h
    cases ps with
    | nil => rfl
    | cons _ _ => cases h
  | .cons g gs, ps, mσ, mσ', h => by
    unfold assignGs at h
    cases ps with
    | nil => cases h
    | cons p ps =>
      simp only at h
      obtain ⟨mσ1, e1, e2⟩ := Option.bind_eq_some_iff.mp h
      rw [List.length_cons, assigns_len e2]; rfl
mutual
theorem assign_ok : ∀ {g : MG} {v : PV} {x : V} {mσ mσ' : Mn.St} {σ : L2.St} {Q : L2.St → Hp → Prop}, assignG g v mσ = some mσ' → RepG K H β g v x → RelS K H β mσ σ →
    (∀ σ', RelS K H β mσ' σ' → (∀ vs : List Nat, (∀ i ∈ g.slots, i ∈ vs) → L2.wipe σ' vs = L2.wipe σ vs) → Q σ' H) → gT K g x σ H Q
  | .name i, v, x, mσ, mσ', σ, Q, h, r, S, q => by
    unfold assignG at h
    cases h
    rw [gT]
    exact q _ (S.set r) fun vs hv => wipe_set (hv i (by unfold MG.slots; simp))
  | .tup gs, v, x, mσ, mσ', σ, Q, h, r, S, q => by
    obtain ⟨ps, a, xs, rfl, rfl, hq, rs⟩ := r
    unfold assignG at h
    rw [gT]
    obtain ⟨hl, hg⟩ := assigns_ok h rs S q
    exact ⟨a, xs, rfl, hq, hl, hg⟩
theorem assigns_ok : ∀ {gs : MGs} {ps : List PV} {xs : List V} {mσ mσ' : Mn.St} {σ : L2.St} {Q : L2.St → Hp → Prop}, assignGs gs ps mσ = some mσ' → Reps K H β ps xs → RelS K H β mσ σ →
    (∀ σ', RelS K H β mσ' σ' → (∀ vs : List Nat, (∀ i ∈ gs.slots, i ∈ vs) → L2.wipe σ' vs = L2.wipe σ vs) → Q σ' H) → xs.length = gs.len ∧ gTs K gs xs σ H Q
  | .nil, ps, xs, mσ, mσ', σ, Q, h, r, S, q => by
    unfold assignGs at h
    cases ps with
    | nil =>
      cases h
      have e := reps_nil.mp r
      subst e
      rw [gTs]
      exact ⟨rfl, rfl, q σ S fun _ _ => rfl⟩
    | cons _ _ => cases h
  | .cons g gs, ps, xs, mσ, mσ', σ, Q, h, r, S, q => by
    unfold assignGs at h
    cases ps with
    | nil => cases h
    | cons p ps =>
      obtain ⟨y, t, rfl, r1, r2⟩ := reps_cons.mp r
      simp only at h
      obtain ⟨mσ1, e1, e2⟩ := Option.bind_eq_some_iff.mp h
      have hlen : t.length = gs.len := r2.length.symm.trans (assigns_len e2)
      rw [gTs]
      refine ⟨by rw [List.length_cons, hlen]; rfl, y, t, rfl, ?_⟩
      refine assign_ok e1 (r1.g (assign_tup e1)) S fun σ1 S1 w1 => ?_
      refine (assigns_ok e2 r2 S1 fun σ2 S2 w2 => q σ2 S2 fun vs hv => ?_).2
      rw [w2 vs fun i hi => hv i (by unfold MGs.slots; exact List.mem_append_right _ hi), w1 vs fun i hi => hv i (by unfold MGs.slots; exact List.mem_append_left _ hi)]
end
end
end Mn
end
section
set_option Elab.async false
set_option linter.all false
set_option maxRecDepth 100000
set_option maxHeartbeats 4000000
namespace Mn
open PySem PySem.Spec PyProof.Rows L2
/-! ### zip of a list and a tuple -/
/-- the list at a and the tuple at b, in new pairs -/
def ItzM (K : PySem.W.Frag) (a b : Addr) : It :=
  ⟨fun i H => ∃ (us vs : List V) (u v : V), SqL K H a us ∧ SqT K H b vs ∧ us[i]? = some u ∧ vs[i]? = some v,
    fun i H r H' => ∃ P u v, r = .ref P ∧ H P = none ∧ H' = upd H P (.tup [u, v]) ∧ (∀ us, SqL K H a us → us[i]? = some u) ∧ ∀ vs, SqT K H b vs → vs[i]? = some v,
    fun i H => ∃ us vs : List V, SqL K H a us ∧ SqT K H b vs ∧ i ≤ us.length ∧ i ≤ vs.length ∧ (i = us.length ∨ i = vs.length)⟩
/-- the cells of the walk -/
def zCells (zz ti to j1 j2 : Addr) : List Addr := [zz, ti, to, j1, j2]
theorem zCells_mem {zz ti to j1 j2 d : Addr} : d ∈ zCells zz ti to j1 j2 ↔ d = zz ∨ d = ti ∨ d = to ∨ d = j1 ∨ d = j2 := by simp [zCells]
def ZSt (zz ti to j1 j2 a b : Addr) (i : Nat) (h : Heap) : Prop := IsZip h zz ti to .none ∧ IsPair h ti (.ref j1) (.ref j2) ∧ (∃ u v, IsPair h to u v) ∧ h.IsListIter j1 a i ∧ h.IsTupleIter j2 b i
theorem ZSt.lt {zz ti to j1 j2 a b : Addr} {i : Nat} {h : Heap} (s : ZSt zz ti to j1 j2 a b i h) {d : Addr} (hd : d ∈ zCells zz ti to j1 j2) : d < h.objs.size := by
  obtain ⟨w1, w2, ⟨u, v, w3⟩, ⟨o1, w4, _⟩, ⟨o2, w5, _⟩⟩ := s
  rcases zCells_mem.mp hd with q | q | q | q | q <;> subst q
  · exact Heap.lt_size w1
  · exact Heap.lt_size w2
  · exact Heap.lt_size w3
  · exact Heap.lt_size w4
  · exact Heap.lt_size w5
theorem sepOf {zz ti to j1 j2 a b : Addr} (D : ZipApart zz ti to j1 j2 a b) : ZipSep2 zz ti to j1 j2 [j1, a] [j2, b] where
  TIz := D.TIz
  TOz := D.TOz
  TITO := D.TITO
  TIi1 := D.TIi1
  mem1 := by simp
  zf1 := by simp only [List.mem_cons, List.not_mem_nil, or_false, not_or]; exact ⟨D.i1z.symm, D.l1z.symm⟩
  Tf1 := by simp only [List.mem_cons, List.not_mem_nil, or_false, not_or]; exact ⟨D.TOi1, D.l1TO.symm⟩
  TIi2 := D.TIi2
  mem2 := by simp
  zf2 := by simp only [List.mem_cons, List.not_mem_nil, or_false, not_or]; exact ⟨D.i2z.symm, D.l2z.symm⟩
  Tf2 := by simp only [List.mem_cons, List.not_mem_nil, or_false, not_or]; exact ⟨D.TOi2, D.l2TO.symm⟩
  sep1_2 := by simp only [List.mem_cons, List.not_mem_nil, or_false, not_or]; exact ⟨D.i12, D.l2i1.symm⟩
  sep2_1 := by simp only [List.mem_cons, List.not_mem_nil, or_false, not_or]; exact ⟨D.i12.symm, D.l1i2.symm⟩
theorem turn_zipM {P : Program} {w : World} {K : PySem.W.Frag} {elts : List Expr} {kk : Nat} {tpos : Pos} {a b zz ti to j1 j2 : Addr} (D : ZipApart zz ti to j1 j2 a b) :
    Turn P w K (.Tuple elts kk tpos) (ItzM K a b) (zCells zz ti to j1 j2) zz (ZSt zz ti to j1 j2 a b) where
  mem := by simp [zCells]
  obj := fun i h st d hd => by
    obtain ⟨w1, w2, ⟨u, v, w3⟩, ⟨o1, w4, _, c1⟩, ⟨o2, w5, _, c2⟩⟩ := st
    rcases zCells_mem.mp hd with q | q | q | q | q <;> subst q
    · exact ⟨_, w1, fun r z => nomatch z⟩
    · exact ⟨_, w2, fun r z => nomatch z⟩
    · exact ⟨_, w3, fun r z => nomatch z⟩
    · exact ⟨o1, w4, fun r z => by rw [c1] at z; cases z⟩
    · exact ⟨o2, w5, fun r z => by rw [c2] at z; cases z⟩
  keep := fun i h h' st kp => by
    obtain ⟨w1, w2, ⟨u, v, w3⟩, w4, w5⟩ := st
    exact ⟨kp zz (by simp [zCells]) _ w1, kp ti (by simp [zCells]) _ w2, ⟨u, v, kp to (by simp [zCells]) _ w3⟩, w4.at fun o z => kp j1 (by simp [zCells]) o z, w5.at fun o z => kp j2 (by simp [zCells]) o z⟩
  item := by
    intro X hP hw hK hc i pins s σ H E I hf st hg
    subst hP hw hK
    have slt := fun {d : Addr} => ZSt.lt (d := d) st
    obtain ⟨w1, w2, ⟨u0, v0, w3⟩, w4, w5⟩ := st
    obtain ⟨us, vs, u, v, qu, qv, hu, hv⟩ := hg
    obtain ⟨iu, ru, lu, _⟩ := I.list qu
    obtain ⟨iv, rv, lv, _⟩ := I.tuple qv
    obtain ⟨xu, hxu, rxu⟩ := ru.get hu
    obtain ⟨xv, hxv, rxv⟩ := rv.get hv
    have hd : X.A.in1.handled = none := I.ok.hd hc
    have hzz : zz < s.heap.objs.size := Heap.lt_size w1
    have n1 : i < iu.toArray.size := by rw [List.size_toArray]; exact (List.getElem?_eq_some_iff.mp hxu).1
    have n2 : i < iv.toArray.size := by rw [List.size_toArray]; exact (List.getElem?_eq_some_iff.mp hxv).1
    refine wpAny_pyNext_zipD2_item (sepOf D) (.list hd j1 a D.l1i1 iu.toArray) (.tuple hd j2 b D.l2i2 iv.toArray) w1 w2 w3 ⟨w4, lu.isList⟩ ⟨w5, lv⟩ n1 n2 fun y1 y2 h' tk p1 p2 k1 k2 k3 k4 k5 k6 k7 => ?_
    have g1 : y1 = xu := by
      have p1 : iu.toArray[i]? = some y1 := p1
      rw [List.getElem?_toArray, hxu] at p1; exact (Option.some.inj p1).symm
    have g2 : y2 = xv := by
      have p2 : iv.toArray[i]? = some y2 := p2
      rw [List.getElem?_toArray, hxv] at p2; exact (Option.some.inj p2).symm
    subst g1 g2
    refine ⟨_, rfl, wpAny_letOwnedTupleGo_zip (s := { s with heap := h', toks := tk }) k1 fun h2 m1 sb => ?_⟩
    have hT2 : h2.get? s.heap.objs.size = some { cls := .type "tuple", data := .seq #[y1, y2] } := (sb.2 _ (Nat.ne_of_gt hzz)).trans k5
    have new : ObjOk X.prog X.w (upd H s.heap.objs.size (.tup [u, v])) h2 s.heap.objs.size (.tup [u, v]) := ⟨by show 2 ≤ sizeLine; decide, [y1, y2], .cons rxu (.cons rxv .nil), ⟨_, hT2, rfl, _, rfl⟩⟩
    have out : ∀ (d : Addr) (o : Obj), d ∉ zCells zz ti to j1 j2 → s.heap.get? d = some o → h2.get? d = some o := fun d o hd q => by
      rw [zCells_mem, not_or, not_or, not_or, not_or] at hd
      exact (sb.2 d hd.1).trans (k7 d o hd.1 hd.2.2.1 hd.2.2.2.1 hd.2.2.2.2 q)
    have I1 : Inv X pins σ (upd H s.heap.objs.size (.tup [u, v])) { s with heap := h2, toks := tk } := I.turnedNew (t' := tk) (ch := zCells zz ti to j1 j2) out hf (Nat.le_refl _) new
    refine ⟨.ref s.heap.objs.size, _, I1, rfl, ⟨_, u, v, rfl, I.hok.fresh (Nat.le_refl _), rfl, fun l hl => by rw [I.list_inj hl qu]; exact hu, fun l hl => by rw [I.tuple_inj hl qv]; exact hv⟩, ⟨m1, (sb.2 _ D.TIz).trans (k7 _ _ D.TIz D.TITO D.TIi1 D.TIi2 w2), ⟨y1, y2, (sb.2 _ D.TOz).trans k2⟩, k3.1.at fun o z => (sb.2 _ D.i1z).trans z, k4.1.at fun o z => (sb.2 _ D.i2z).trans z⟩, fun d hd => ?_⟩
    rw [upd_ne (Nat.ne_of_lt (slt hd))]
    exact (hf d hd).1
  done := by
    intro X hP hw hK hc i pins s σ H E I hf st hg
    subst hP hw hK
    obtain ⟨w1, w2, ⟨u0, v0, w3⟩, w4, w5⟩ := st
    obtain ⟨us, vs, qu, qv, le1, le2, fin⟩ := hg
    obtain ⟨iu, ru, lu, _⟩ := I.list qu
    obtain ⟨iv, rv, lv, _⟩ := I.tuple qv
    have m1 : iu.toArray.size = us.length := by rw [List.size_toArray, ru.length]
    have m2 : iv.toArray.size = vs.length := by rw [List.size_toArray, rv.length]
    have hd : X.A.in1.handled = none := I.ok.hd hc
    refine wpAny_pyNext_zipD2_end (sepOf D) (.list hd j1 a D.l1i1 iu.toArray) (.tuple hd j2 b D.l2i2 iv.toArray) w1 w2 w3 ⟨w4, lu.isList⟩ ⟨w5, lv⟩ (by omega) (by omega) (by omega) fun h' tk kp => ⟨rfl, I.turnedL (t' := tk) (ch := zCells zz ti to j1 j2) (fun d o hd q => ?_) hf⟩
    rw [zCells_mem, not_or, not_or, not_or, not_or] at hd
    exact kp d o hd.1 hd.2.2.1 hd.2.2.2.1 hd.2.2.2.2 q
  self := fun A i s Q E st h => wpAny_pyIter_zip st.1 h
/-- what zip asks, of lists and tuples -/
def iZipB (K : PySem.W.Frag) (ta : TA) : TI := fun σ H R => ta σ H fun ws H1 => ∃ a b us vs, ws = [.ref a, .ref b] ∧ ((SqL K H1 a us ∧ SqL K H1 b vs ∧ R (Itz K a b) H1) ∨ (SqT K H1 a us ∧ SqT K H1 b vs ∧ R (RZ.ItzT K a b) H1) ∨ (SqL K H1 a us ∧ SqT K H1 b vs ∧ R (ItzM K a b) H1))
theorem fresh_cells {X : Cx} {pins : List (Addr × Obj)} {σ : L2.St} {H : Hp} {s : Shared} (I : Inv X pins σ H s) : ∀ d, d ∈ zCells (s.heap.objs.size + 4) (s.heap.objs.size + 2) (s.heap.objs.size + 3) s.heap.objs.size (s.heap.objs.size + 1) → FpOk X pins H d := fun d hd => by
  have le : s.heap.objs.size ≤ d := by
    rcases zCells_mem.mp hd with q | q | q | q | q <;> rw [q]
    · exact Nat.le_add_right _ 4
    · exact Nat.le_add_right _ 2
    · exact Nat.le_add_right _ 3
    · exact Nat.le_refl _
    · exact Nat.le_add_right _ 1
  exact I.fpOk le (I.hok.fresh le)
theorem pi_zipB {X : Cx} {e e2 : Expr} {ta : TA} {p pos tpos : Pos} {elts : List Expr} {kk : Nat} (hg : Gl X "zip") (hm : X.mg "zip" = none) (ha : PA X [e, e2] ta)
    (hs : starEach [e, e2] X.env = (false, eval e X.env) :: starEach [e2] X.env) (hpl : (backTo pos (starEach [e2] X.env)).any (·.1) = false) : PI X (.Tuple elts kk tpos) (.Call (.Name "zip" p) [e, e2] [] pos) (iZipB X.K ta) := by
  constructor
  intro pins s σ H R I h
  refine Call_ (ld_blt I hg hm boot_zip (callWith_type1 (thn (ha.run pos pins s σ H _ I h) fun ws s1 got => ?_) hs hpl))
  obtain ⟨zs, H1, I1, r1, a, b, us, vs, ez, q1⟩ := got
  subst ez
  cases r1 with
  | cons ra rr =>
    cases rr with
    | cons rb rn =>
      cases rn
      cases ra
      cases rb
      have fc := fresh_cells I1
      rcases q1 with ⟨qu, qv, q⟩ | ⟨qu, qv, q⟩ | ⟨qu, qv, q⟩
      · obtain ⟨iu, _, lu, _⟩ := I1.list qu
        obtain ⟨iv, _, lv, _⟩ := I1.list qv
        exact call_zip_2 lu.isList lv.isList fun h' z1 z2 z3 z4 z5 _ kp => wpAny_pyIter_zip z1 ⟨s1.heap.objs.size + 4, zCells _ _ _ _ _, _, _, H1, rfl, I1.kept (t' := s1.toks) kp, turn_zip (PySem.W.ktu_apart _ a b lu.lt lv.lt), ⟨z1, z2, ⟨_, _, z3⟩, z4, z5⟩, fc, q⟩
      · obtain ⟨iu, _, lu, _⟩ := I1.tuple qu
        obtain ⟨iv, _, lv, _⟩ := I1.tuple qv
        obtain ⟨ou, hou, _⟩ := id lu
        obtain ⟨ov, hov, _⟩ := id lv
        exact RZ.call_zipT lu lv fun h' z1 z2 z3 z4 z5 _ kp => wpAny_pyIter_zip z1 ⟨s1.heap.objs.size + 4, zCells _ _ _ _ _, _, _, H1, rfl, I1.kept (t' := s1.toks) kp, RZ.turn_zipT (PySem.W.ktu_apart _ a b (Heap.lt_size hou) (Heap.lt_size hov)), ⟨z1, z2, ⟨_, _, z3⟩, z4, z5⟩, fc, q⟩
      · obtain ⟨iu, _, lu, _⟩ := I1.list qu
        obtain ⟨iv, _, lv, _⟩ := I1.tuple qv
        obtain ⟨ov, hov, _⟩ := id lv
        exact zip_begins2 (begins_list a iu.toArray) (begins_tuple b iv.toArray) lu.isList lv fun h' z1 z2 z3 z4 z5 _ kp => wpAny_pyIter_zip z1 ⟨s1.heap.objs.size + 4, zCells _ _ _ _ _, _, _, H1, rfl, I1.kept (t' := s1.toks) kp, turn_zipM (PySem.W.ktu_apart _ a b lu.lt (Heap.lt_size hov)), ⟨z1, z2, ⟨_, _, z3⟩, ⟨_, z4, rfl, rfl⟩, ⟨_, z5, rfl, rfl⟩⟩, fc, q⟩
end Mn
end
section
set_option Elab.async false
set_option linter.all false
set_option maxRecDepth 100000
set_option maxHeartbeats 4000000
namespace Mn
open PySem PySem.Spec PyProof.Rows L2
/-! ### set(l), l a list of ints -/
abbrev fsO (w : World) : Obj := { cls := .type "set", dict := none, data := .set #[] 0 (.fresh 0 0 (!w.params.followText "set-order")) }
section
variable {P : Program} {w : World} {A : Around} {E : Value → Shared → Prop} {s : Shared}
set_option maxHeartbeats 8000000 in
theorem setListI {l : Addr} {its : Array Value} (ns : List Int) {Q : Value → Shared → Prop} (hh : A.handled = none) (hl : s.heap.IsList l its) (hi : IntsAre its.toList ns) (hb : ns.length + 1 < scanBound)
    (h : ∀ (h1 : Heap) (tk c : Nat), SetR w h1 s.heap.objs.size (fun j => decide (j ∈ ns)) c → (∀ b o, s.heap.get? b = some o → h1.get? b = some o) → Q (.ref s.heap.objs.size) { s with heap := h1, toks := tk }) :
    wpAny (model P w) A (call (.type "set") [.ref l]) Q E s := by
  have sz : its.size = ns.length := by have q := IntsAre.length hi; rwa [Array.length_toList] at q
  obtain ⟨c, tl, mr⟩ := F.called_set.mro
  have md := F.called_set.made
  have sb := F.called_set.sub
  refine wpAny_call (codeAny_of_tree (?_ : wpAny _ _ (callAny (.type "set") _) _ _ _))
  refine wpAny_pure ⟨Code.quiet_builtin _ (by decide +kernel), codeAny_builtin F.entry_type_call (?_ : _)⟩
  rw [Around.under_plain (weight_type_call_type "set" [.ref l] []) (by rfl)]
  have n1 := F.called_set.notType
  have n2 := F.called_set.canCreate
  have n3 := F.typeCall_set_1 (.ref l)
  repeat (any_goals first | assumption | wp_step)
  refine codeAny_mono (code_set_led1 (.ref l) (E := E) (Q₁ := fun ob s1 => ob = .ref s.heap.objs.size ∧ s1 = { s with heap := s.heap.push (fsO w) }) ⟨rfl, rfl⟩) fun r s1 hr => ?_
  match r, hr with
  | .error e, hr => exact hr
  | .ok (.ret ob), hr =>
    obtain ⟨rfl, rfl⟩ := hr
    have oS : (s.heap.push (fsO w)).get? s.heap.objs.size = some (fsO w) := Heap.get?_push_size _ rfl
    have oT : Shared.TypeIs { s with heap := s.heap.push (fsO w) } (.ref s.heap.objs.size) "set" := ⟨_, oS, rfl⟩
    have k1 := F.called_set.init.lookup
    have k2 := F.called_set.init.bind (.ref s.heap.objs.size)
    repeat (any_goals first | assumption | wp_step)
    refine codeAny_mono (codeAny_call_builtin (R := wants (fun r s2 => r = .none ∧ ∃ h1 tk c, s2 = { s with heap := h1, toks := tk } ∧ SetR w h1 s.heap.objs.size (fun j => decide (j ∈ ns)) c ∧ (∀ b o, s.heap.get? b = some o → h1.get? b = some o)) E) F.called_set.init.plain F.entry_set_init (check_set_init_1 oT ?_)) fun r2 s2 hr2 => ?_
    · obtain ⟨⟨oc, od, oda, osl⟩, hol, hcl, nl, hdl⟩ := hl
      simp only at hcl hdl
      subst hcl hdl
      have ol2 : (s.heap.push (fsO w)).get? l = some { cls := .type "list", dict := od, data := .seq its nl, slots := osl } := Heap.get?_push_of_some _ hol
      have u1 := F.sub_list_set
      have u2 := F.sub_list_frozenset
      have u3 : (Value.type "list" == Value.type "dict") = false := by decide
      have l1 : (s.heap.push (fsO w)).IsList l its := ⟨_, ol2, rfl, nl, rfl⟩
      unfold Builtin.«set.__init__» noKeywords Builtin.Frozenset.updateFrom
      generalize ePI : pyIter = PI
      wp_walk
      subst ePI
      refine wpAny_pyIter_list l1 (wpAny_bind (wpAny_runValue ?_))
      have lS : l < s.heap.objs.size := Heap.lt_size hol
      have h3 : A.in1.in1.in1.handled = none := by simp [hh]
      have zz : (s.heap.push (fsO w)).objs.size = s.heap.objs.size + 1 := Heap.size_push ..
      have nI : l ≠ (s.heap.push (fsO w)).objs.size := Nat.ne_of_lt (by rw [zz]; exact Nat.lt_succ_of_lt lS)
      have nS : s.heap.objs.size ∉ [(s.heap.push (fsO w)).objs.size, l] := by
        simp only [List.mem_cons, List.not_mem_nil, or_false]
        rintro (e | e)
        · exact absurd e (Nat.ne_of_lt (by rw [zz]; exact Nat.lt_succ_self _))
        · exact absurd e (Nat.ne_of_gt lS)
      have vl : ∀ (i : Nat) (v : Value), its[i]? = some v → ∃ k t, ns[i]? = some k ∧ v = .int k t := fun i v hv => by
        have li : i < ns.length := by rw [← sz]; exact (Array.getElem?_eq_some_iff.mp hv).1
        obtain ⟨t, e⟩ := PyProof.Rows.IntsAre.int_at hi i v (by rw [Array.getElem?_toList]; exact hv)
        exact ⟨ns[i], t, List.getElem?_eq_getElem li, by rw [e, List.getD_eq_getElem?_getD, List.getElem?_eq_getElem li]; rfl⟩
      refine set_update_ints ((Walks.list h3 _ l nI its).toS) s.heap.objs.size nS ns sz hb vl (its.size - 0) 0 _ (by omega) (Nat.zero_le _) ⟨⟨_, Heap.get?_push_size _ rfl, rfl, rfl⟩, (l1.push _)⟩ ⟨0, Nat.le_refl 0, setR_new_at (Heap.get?_push_of_some _ oS)⟩ ?_
      intro s3 c3 hm hc3 hS3
      obtain ⟨h1, g2, d2, tk2, os2⟩ := s3
      obtain rfl : g2 = s.gens := hm.gens
      obtain rfl : d2 = s.drawn := hm.drawn
      obtain rfl : os2 = s.os := hm.os
      show wpAny _ _ _ _ _ _
      refine wpAny_pure (?_ : wpAny _ _ (ret Value.none) _ _ _)
      refine wpAny_pure ⟨rfl, h1, tk2, c3, rfl, hS3, fun b o e => ?_⟩
      have b0 : b < s.heap.objs.size := Heap.lt_size e
      exact hm.heap b o (by simp only [List.mem_cons, List.not_mem_nil, or_false, not_or]; exact ⟨Nat.ne_of_lt b0, Nat.ne_of_lt (by rw [zz]; exact Nat.lt_succ_of_lt b0)⟩) (Heap.get?_push_of_some _ (Heap.get?_push_of_some _ e))
    · match r2, hr2 with
      | .error e, hr2 => exact hr2
      | .ok (.ret r), hr2 =>
        obtain ⟨rfl, h1, tk, c, rfl, hS3, hk⟩ := hr2
        repeat (any_goals first | assumption | wp_step)
        exact h _ _ _ hS3 hk
/-! ### set(t), t a tuple of tuples of ints -/
set_option maxHeartbeats 8000000 in
theorem setTupT {l : Addr} {its : Array Value} (ks : List (Addr × List Int)) {Q : Value → Shared → Prop} (hh : A.handled = none) (hl : s.heap.IsTuple l its) (hi : its.toList = ks.map fun p => Value.ref p.1) (hk : ∀ p ∈ ks, IsT P w s.heap p.2 p.1) (hf : ks.length < 64) (hu : A.units + 20 < cLine)
    (h : ∀ (h1 : Heap) (tk : Nat) L es ep t, SetTR P w h1 s.heap.objs.size L es ep t → Got ks ks.length L → (∀ b o, s.heap.get? b = some o → h1.get? b = some o) → Q (.ref s.heap.objs.size) { s with heap := h1, toks := tk }) :
    wpAny (model P w) A (call (.type "set") [.ref l]) Q E s := by
  have sz : its.size = ks.length := by have q := congrArg List.length hi; rwa [Array.length_toList, List.length_map] at q
  obtain ⟨c, tl, mr⟩ := F.called_set.mro
  have md := F.called_set.made
  have sb := F.called_set.sub
  refine wpAny_call (codeAny_of_tree (?_ : wpAny _ _ (callAny (.type "set") _) _ _ _))
  refine wpAny_pure ⟨Code.quiet_builtin _ (by decide +kernel), codeAny_builtin F.entry_type_call (?_ : _)⟩
  rw [Around.under_plain (weight_type_call_type "set" [.ref l] []) (by rfl)]
  have n1 := F.called_set.notType
  have n2 := F.called_set.canCreate
  have n3 := F.typeCall_set_1 (.ref l)
  repeat (any_goals first | assumption | wp_step)
  refine codeAny_mono (code_set_led1 (.ref l) (E := E) (Q₁ := fun ob s1 => ob = .ref s.heap.objs.size ∧ s1 = { s with heap := s.heap.push (fsO w) }) ⟨rfl, rfl⟩) fun r s1 hr => ?_
  match r, hr with
  | .error e, hr => exact hr
  | .ok (.ret ob), hr =>
    obtain ⟨rfl, rfl⟩ := hr
    have oS : (s.heap.push (fsO w)).get? s.heap.objs.size = some (fsO w) := Heap.get?_push_size _ rfl
    have oT : Shared.TypeIs { s with heap := s.heap.push (fsO w) } (.ref s.heap.objs.size) "set" := ⟨_, oS, rfl⟩
    have k1 := F.called_set.init.lookup
    have k2 := F.called_set.init.bind (.ref s.heap.objs.size)
    repeat (any_goals first | assumption | wp_step)
    refine codeAny_mono (codeAny_call_builtin (R := wants (fun r s2 => r = .none ∧ ∃ h1 tk L es ep t, s2 = { s with heap := h1, toks := tk } ∧ SetTR P w h1 s.heap.objs.size L es ep t ∧ Got ks ks.length L ∧ (∀ b o, s.heap.get? b = some o → h1.get? b = some o)) E) F.called_set.init.plain F.entry_set_init (check_set_init_1 oT ?_)) fun r2 s2 hr2 => ?_
    · obtain ⟨⟨oc, od, oda, osl⟩, hol, hcl, nl, hdl⟩ := hl
      simp only at hcl hdl
      subst hcl hdl
      have ol2 : (s.heap.push (fsO w)).get? l = some { cls := .type "tuple", dict := od, data := .seq its nl, slots := osl } := Heap.get?_push_of_some _ hol
      have u1 := F.sub_tuple_set
      have u2 := F.sub_tuple_frozenset
      have u3 : (Value.type "tuple" == Value.type "dict") = false := by decide
      have l1 : (s.heap.push (fsO w)).IsTuple l its := ⟨_, ol2, rfl, nl, rfl⟩
      unfold Builtin.«set.__init__» noKeywords Builtin.Frozenset.updateFrom
      generalize ePI : pyIter = PI
      wp_walk
      subst ePI
      refine wpAny_pyIter_tuple l1 (wpAny_bind (wpAny_runValue ?_))
      have lS : l < s.heap.objs.size := Heap.lt_size hol
      have h3 : A.in1.in1.in1.handled = none := by simp [hh]
      have zz : (s.heap.push (fsO w)).objs.size = s.heap.objs.size + 1 := Heap.size_push ..
      have nI : l ≠ (s.heap.push (fsO w)).objs.size := Nat.ne_of_lt (by rw [zz]; exact Nat.lt_succ_of_lt lS)
      have nS : s.heap.objs.size ∉ [(s.heap.push (fsO w)).objs.size, l] := by
        simp only [List.mem_cons, List.not_mem_nil, or_false]
        rintro (e | e)
        · exact absurd e (Nat.ne_of_lt (by rw [zz]; exact Nat.lt_succ_self _))
        · exact absurd e (Nat.ne_of_gt lS)
      have vl : ∀ (i : Nat) (v : Value), its[i]? = some v → ∃ p, ks[i]? = some p ∧ v = .ref p.1 := fun i v hv => by
        have q : its.toList[i]? = some v := by rw [Array.getElem?_toList]; exact hv
        rw [hi, List.getElem?_map] at q
        cases hq : ks[i]? with
        | none => rw [hq] at q; cases q
        | some p =>
          rw [hq] at q
          exact ⟨p, rfl, (Option.some.inj q).symm⟩
      have no : ∀ b, s.heap.objs.size ≤ b → s.heap.get? b = none := fun b hb => by
        cases q : s.heap.get? b with
        | none => rfl
        | some o => exact absurd (Nat.lt_of_lt_of_le (Heap.lt_size q) hb) (Nat.lt_irrefl _)
      have hu3 : A.in1.in1.in1.in1.units < cLine := by
        show A.units + 1 + 1 + 1 + 1 < cLine
        omega
      refine set_update_tups ((Walks.tuple h3 _ l nI its).toS) s.heap.objs.size nS ks sz hf vl s.heap hk (no _ (Nat.le_refl _)) (fun b hb => no b (by
        rw [List.mem_singleton.mp hb, Heap.size_push]
        exact Nat.le_succ _)) (by first | exact hu3 | (show A.in1.in1.in1.units < cLine; show A.units + 1 + 1 + 1 < cLine; omega)) (its.size - 0) 0 _ (by omega) (Nat.zero_le _) ⟨⟨_, Heap.get?_push_size _ rfl, rfl, rfl⟩, (l1.push _)⟩ (fun b o e => Heap.get?_push_of_some _ (Heap.get?_push_of_some _ e)) ⟨[], #[], 0, _, setTR_fresh (Heap.get?_push_of_some _ oS), Got.zero ks⟩ ?_
      intro s3 L es ep t hm hS3 g3 hkp
      obtain ⟨h1, g2, d2, tk2, os2⟩ := s3
      obtain rfl : g2 = s.gens := hm.gens
      obtain rfl : d2 = s.drawn := hm.drawn
      obtain rfl : os2 = s.os := hm.os
      show wpAny _ _ _ _ _ _
      refine wpAny_pure (?_ : wpAny _ _ (ret Value.none) _ _ _)
      rw [sz] at g3
      exact wpAny_pure ⟨rfl, h1, tk2, L, es, ep, t, rfl, hS3, g3, hkp⟩
    · match r2, hr2 with
      | .error e, hr2 => exact hr2
      | .ok (.ret r), hr2 =>
        obtain ⟨rfl, h1, tk, L, es, ep, t, rfl, hS3, g3, hk3⟩ := hr2
        repeat (any_goals first | assumption | wp_step)
        exact h _ _ _ _ _ _ hS3 g3 hk3
end
end Mn
end
section
set_option Elab.async false
set_option linter.all false
set_option maxRecDepth 100000
set_option maxHeartbeats 4000000
namespace Mn
open PySem PySem.Spec PyProof.Rows L2
/-! ### sorted(set(..)) -/
theorem Out.new {K : PySem.W.Frag} {β : List Addr} {M : Mem} {H : Hp} {α : Type} {r : Res α} {k : α → List Addr → Mem → Hp → Prop} {w : WM} (R : RelH K β M H) (h : Out K β M H r k w) {p : Addr} {ob : HO} (hp : H p = none) : Out K β M (upd H p ob) r k w := by
  cases r with
  | ok a M1 => exact fun β1 H1 s => h β1 H1 ((stp_new R hp).trans s R)
  | exc v M1 => exact fun β1 H1 s => h β1 H1 ((stp_new R hp).trans s R)
  | stuck => exact h
theorem dd_mem {α : Type} [DecidableEq α] : ∀ {l : List α} {x : α}, x ∈ dd l ↔ x ∈ l
  | [], x => Iff.rfl
  | y :: l, x => by
    rw [dd]
    split
    · rename_i h
      rw [dd_mem, List.mem_cons]
      exact ⟨.inr, fun q => q.elim (fun e => e ▸ h) id⟩
    · rw [List.mem_cons, List.mem_cons, dd_mem]
theorem dd_nodup {α : Type} [DecidableEq α] : ∀ l : List α, (dd l).Nodup
  | [] => List.Pairwise.nil
  | y :: l => by
    rw [dd]
    split
    · exact dd_nodup l
    · rename_i h
      exact List.nodup_cons.mpr ⟨fun q => h (dd_mem.mp q), dd_nodup l⟩
theorem nodup_len {α : Type} [DecidableEq α] {l r : List α} (h1 : l.Nodup) (h2 : r.Nodup) (h : ∀ x, x ∈ l ↔ x ∈ r) : l.Perm r := (List.perm_ext_iff_of_nodup h1 h2).mpr h
section
variable {X : Cx}
/-- set(t), t a tuple of ints: how many there are -/
def rSetN (K : PySem.W.Frag) (w : World) : List V → Hp → VK → Prop := fun xs H Q => ∃ (p : Addr) (ns : List Int), xs = [.ref p] ∧ SqT K H p (ns.map V.int) ∧ ns.length ≤ 1000 ∧ ∀ a, H a = none → Q (.ref a) (upd H a (SetO w a (fun j => decide (j ∈ ns)) (dd ns).length))
theorem setR_card {w : World} {h : Heap} {a : Addr} {ns : List Int} {c : Nat} (R : SetR w h a (fun j => decide (j ∈ ns)) c) : c = (dd ns).length := by
  obtain ⟨o, es, ep, t, _, _, _, _, nd, hm, _, _, hn, _⟩ := R
  have : (es.toList.map keyOf).Perm (dd ns) := nodup_len nd (dd_nodup ns) fun x => by rw [← hm x, dd_mem]; simp
  have := this.length_eq
  rw [List.length_map, Array.length_toList] at this
  omega
theorem cr_setN (hc : X.calm = true) : CallR X (.type "set") (rSetN X.K X.w) := by
  intro pins s σ H xs us Q I r h
  obtain ⟨p, ns, rfl, hp, hl, q⟩ := h
  rw [Vals.ref1 r]
  obtain ⟨its, rv, ⟨o, ho, hcl, n, hd⟩, hz⟩ := I.tuple hp
  have hi : IntsAre its ns := by
    have : ∀ {ns : List Int} {us : List Value}, Vals (ns.map V.int) us → IntsAre us ns := fun {ns} => by
      induction ns with
      | nil => intro us v; cases v; exact .nil
      | cons n ns ih =>
        intro us v
        cases v with
        | cons a b => obtain ⟨tk, rfl⟩ := a; exact .cons _ _ (ih b)
    exact this rv
  refine call_set_tupI (s := s) ns (I.ok.hd hc) (items := its.toArray) ⟨o, ho, hcl, n, hd⟩ (by simpa using hi) (by unfold scanBound; omega) fun h' tk c R hcn k => ?_
  have e := setR_card R
  subst e
  exact ⟨.ref _, upd H s.heap.objs.size (SetO X.w s.heap.objs.size (fun j => decide (j ∈ ns)) (dd ns).length), I.laid (t' := tk) k (Nat.le_refl _) (setO_new R), rfl, q _ (I.hok.fresh (Nat.le_refl _))⟩
/-! sets of tuples -/
theorem leZ_refl : ∀ a : List Int, leZ a a = true
  | [] => rfl
  | x :: a => by rw [leZ]; simp [leZ_refl a]
theorem leZ_total : ∀ a b : List Int, (leZ a b || leZ b a) = true
  | [], b => rfl
  | x :: a, [] => rfl
  | x :: a, y :: b => by
    have := leZ_total a b
    simp only [leZ, Bool.or_eq_true, Bool.and_eq_true, decide_eq_true_eq] at this ⊢
    by_cases h : x < y
    · exact .inl (.inl h)
    · by_cases h2 : y < x
      · exact .inr (.inl h2)
      · have : x = y := by omega
        subst this
        rcases leZ_total a b |> fun z => (Bool.or_eq_true _ _).mp z with q | q
        · exact .inl (.inr ⟨rfl, q⟩)
        · exact .inr (.inr ⟨rfl, q⟩)
theorem leZ_trans : ∀ a b c : List Int, leZ a b = true → leZ b c = true → leZ a c = true
  | [], _, _, _, _ => rfl
  | x :: a, [], _, h, _ => by simp [leZ] at h
  | x :: a, y :: b, [], _, h => by simp [leZ] at h
  | x :: a, y :: b, z :: c, h1, h2 => by
    simp only [leZ, Bool.or_eq_true, Bool.and_eq_true, decide_eq_true_eq] at h1 h2 ⊢
    rcases h1 with h1 | ⟨h1, g1⟩
    · rcases h2 with h2 | ⟨h2, _⟩ <;> left <;> omega
    · rcases h2 with h2 | ⟨h2, g2⟩
      · left; omega
      · exact .inr ⟨by omega, leZ_trans a b c g1 g2⟩
theorem leZ_anti : ∀ a b : List Int, leZ a b = true → leZ b a = true → a = b
  | [], [], _, _ => rfl
  | [], y :: b, _, h => by simp [leZ] at h
  | x :: a, [], h, _ => by simp [leZ] at h
  | x :: a, y :: b, h1, h2 => by
    simp only [leZ, Bool.or_eq_true, Bool.and_eq_true, decide_eq_true_eq] at h1 h2
    rcases h1 with h1 | ⟨h1, g1⟩
    · rcases h2 with h2 | ⟨h2, _⟩ <;> omega
    · rcases h2 with h2 | ⟨h2, g2⟩
      · omega
      · rw [h1, leZ_anti a b g1 g2]
theorem sort_unique {a b : List (List Int)} (h : a.Perm b) : a.mergeSort leZ = b.mergeSort leZ :=
  List.Perm.eq_of_pairwise (fun x y _ _ h1 h2 => leZ_anti x y h1 h2) (List.pairwise_mergeSort leZ_trans leZ_total a) (List.pairwise_mergeSort leZ_trans leZ_total b) (((List.mergeSort_perm a leZ).trans h).trans (List.mergeSort_perm b leZ).symm)
theorem perm_lift {α γ : Type} (f : α → γ) {vs ws : List γ} (h : vs.Perm ws) : ∀ L : List α, ws = L.map f → ∃ L1 : List α, L1.Perm L ∧ vs = L1.map f := by
  induction h with
  | nil =>
    intro L e
    exact ⟨L, .refl _, e⟩
  | cons x _ ih =>
    intro L e
    cases L with
    | nil => cases e
    | cons y L =>
      rw [List.map_cons] at e
      injection e with e1 e2
      obtain ⟨L1, h1, h2⟩ := ih L e2
      exact ⟨y :: L1, h1.cons y, by rw [List.map_cons, ← h2, e1]⟩
  | swap x y l =>
    intro L e
    match L, e with
    | a :: b :: L, e =>
      simp only [List.map_cons, List.cons.injEq] at e
      obtain ⟨rfl, rfl, rfl⟩ := e
      exact ⟨b :: a :: L, .swap a b L, rfl⟩
  | trans _ _ ih1 ih2 =>
    intro L e
    obtain ⟨L1, h1, h2⟩ := ih2 L e
    obtain ⟨L2, h3, h4⟩ := ih1 L1 h2
    exact ⟨L2, h3.trans h1, h4⟩
def encT (q : Addr × List Int) : PyData := .tuple (q.2.map PyData.int)
theorem each_refs {R : Value → Addr × List Int → Prop} : ∀ (L : List (Addr × List Int)), (∀ q ∈ L, R (.ref q.1) q) → PySem.W.EachIs R (L.map fun q => Value.ref q.1) L
  | [], _ => .nil
  | q :: L, h => .cons (h q List.mem_cons_self) (each_refs L fun p hp => h p (List.mem_cons_of_mem _ hp))
theorem refs_each : ∀ {out : List Value} {L : List (Addr × List Int)}, PySem.W.EachIs (fun v q => v = .ref q.1) out L → out = L.map fun q => Value.ref q.1
  | _, _, .nil => rfl
  | _, _, .cons h t => by rw [h, refs_each t]; rfl
/-- sorted(set), tuples of ints, none without items -/
def rSortD (K : PySem.W.Frag) (P : Program) (w : World) : List V → Hp → VK → Prop := fun vs H Q => ∃ (a : Addr) (L : List (Addr × List Int)), vs = [V.ref a] ∧ H a = some (SetTO P w a L) ∧ (∀ p ∈ L, SqT K H p.1 (p.2.map V.int) ∧ p.2 ≠ []) ∧
  ∀ (L' : List (Addr × List Int)) (p : Addr), (L.map (·.2)).Nodup → L'.map (·.2) = (L.map (·.2)).mergeSort leZ → (∀ q ∈ L', q ∈ L) → H p = none → Q (.ref p) (upd H p (.lst (L'.map fun q => V.ref q.1)))
theorem toDs_ints : ∀ k : List Int, PV.toD.toDs (k.map PV.int) = k.map PyData.int
  | [] => by rw [List.map_nil, PV.toD.toDs]; rfl
  | x :: k => by rw [List.map_cons, PV.toD.toDs, toDs_ints k, List.map_cons, PV.toD]
theorem toD_tupP (k : List Int) : (tupP k).toD = .tuple (k.map PyData.int) := by unfold tupP; rw [toD_tup, toDs_ints]
theorem lts_leZ : ∀ a b : List Int, PV.lt.lts (b.map PV.int) (a.map PV.int) = !leZ a b
  | [], [] => by simp [PV.lt.lts, leZ]
  | [], y :: b => by simp [PV.lt.lts, leZ]
  | x :: a, [] => by simp [PV.lt.lts, leZ]
  | x :: a, y :: b => by
    rw [List.map_cons, List.map_cons, PV.lt.lts, leZ, lts_leZ a b]
    simp only [PV.eqv, PV.lt]
    by_cases h : x = y
    · subst h; simp
    · have h' : ¬ y = x := fun z => h z.symm
      simp only [beq_iff_eq, h', if_false, h, decide_false, Bool.false_and, Bool.or_false]
      rw [Bool.eq_iff_iff]
      simp only [decide_eq_true_eq, Bool.not_eq_true', decide_eq_false_iff_not]
      omega
theorem lt_tupP (a b : List Int) : (tupP b).lt (tupP a) = !leZ a b := by unfold tupP; rw [PV.lt, lts_leZ]
theorem dat_tupP (k : List Int) : shallow (tupP k) = true := by
  unfold shallow tupP
  rw [PV.dat]
  have : ∀ (k : List Int) (d : Nat), PV.dat.dats (k.map PV.int) d = true := fun k d => by
    induction k with
    | nil => rw [List.map_nil, PV.dat.dats]
    | cons x k ih => rw [List.map_cons, PV.dat.dats, ih]; simp [PV.dat]
  rw [this]; rfl
theorem alks_ints : ∀ a b : List Int, PV.alk.alks (a.map PV.int) (b.map PV.int) = true
  | [], b => by rw [List.map_nil, PV.alk.alks]
  | x :: a, [] => by rw [List.map_cons, List.map_nil, PV.alk.alks]
  | x :: a, y :: b => by rw [List.map_cons, List.map_cons, PV.alk.alks, alks_ints a b]; simp [PV.alk]
theorem alk_tupP (a b : List Int) : (tupP a).alk (tupP b) = true := by unfold tupP; rw [PV.alk, alks_ints]
theorem dle_T {a b : Addr × List Int} : PySem.W.dataLe false encT a b = leZ a.2 b.2 := by
  rw [PySem.W.dataLe_eq]
  show (!PySem.W.dataLt (encT b) (encT a)) = _
  unfold encT
  rw [← toD_tupP, ← toD_tupP, lt_toD (tupP b.2) (tupP a.2) 60 60 (dat_tupP _) (dat_tupP _) (alk_tupP _ _), lt_tupP, Bool.not_not]
theorem cr_sortD (hc : X.calm = true) (hu : X.A.units + 65 < cLine) : CallR X (.builtin "sorted") (rSortD X.K X.prog X.w) := by
  intro pins s σ H vs us Q I r h
  obtain ⟨a, L, rfl, ha, hk, q⟩ := h
  have R0 : SetT0 X.prog X.w s.heap a L := (I.hok a _ ha).1
  obtain ⟨es, ep, t, R⟩ := R0.full fun p hp => I.isT (hk p hp).1
  rw [Vals.ref1 r]
  obtain ⟨o, ho, hex, hd⟩ := R.ob
  have few := R.few
  have esz := R.size
  refine Calls.call_function_entry kind_sorted plain_sorted entry_sorted (args_sorted1 _) (show wpAny _ X.A.in1 (Builtin.«sorted» _) _ _ s from ?_)
  unfold Builtin.«sorted»
  refine wpAny_bind (m := checkCount "sorted" 1 1 _) (wpAny_pure (wpAny_bind (collect_set (A := X.A.in1) (I.ok.hd hc) ⟨o, ho, hex.1, hd⟩ R.fits (by unfold scanBound; omega) R.tab.ris R.led fun s1 vs k1 hz g1 o1 pm => ?_)))
  obtain ⟨L1, hL1, rfl⟩ := perm_lift (fun p : Int × Value => p.2) pm (rowsOf X.prog X.w L) (by rw [R.rows])
  obtain ⟨L2, hL2, eL⟩ := perm_lift (fun q : Addr × List Int => (Value.ref q.1)) (hL1.map (fun p : Int × Value => p.2)) L (by unfold rowsOf; rw [List.map_map]; rfl)
  rw [eL]
  have l2 : L2.length = L.length := hL2.length_eq
  refine wpAny_bind (wpAny_newList ?_ (by rw [List.length_map, sizeLine_eq]; omega))
  have hoL : (s1.heap.push (seqObj "list" (L2.map fun q => Value.ref q.1).toArray 0)).get? s1.heap.objs.size = some (seqObj "list" (L2.map fun q => Value.ref q.1).toArray 0) := Heap.get?_push_size _ rfl
  have rd : ∀ q ∈ L2, Reads (s1.heap.push (seqObj "list" (L2.map fun q => Value.ref q.1).toArray 0)) (.ref q.1) (encT q) [] := fun q hq => by
    obtain ⟨its, rv, ⟨oo, hoo, hcl, n, hdd⟩, _⟩ := I.tuple (hk q (hL2.mem_iff.mp hq)).1
    exact .tuple (Heap.get?_push_of_some _ (k1 _ _ hoo)) hcl hdd (by simpa using reads_ints rv)
  refine wpAny_bind (wpAny_holding (PySem.W.list_sort_data (A := X.A.in1) (s := { s1 with heap := s1.heap.push (seqObj "list" (L2.map fun q => Value.ref q.1).toArray 0) }) (R := fun v q => v = .ref q.1) (enc := encT) (bs := L2) hoL (each_refs L2 fun q _ => rfl) (each_refs L2 fun q hq => ⟨[], rd q hq, by simp⟩) ?_ ?_ (by rw [sizeLine_eq]; omega) (fun q hq => ?_) fun out hout eo => ?_))
  · exact PySem.W.AllAlike.of fun b b' => by
      show PySem.W.alike (.tuple _) (.tuple _) = true
      rw [PySem.W.alike]; exact PySem.W.alike_ints _ _
  · refine .inl fun d hd' => ?_
    obtain ⟨q, hq, rfl⟩ := List.mem_map.mp hd'
    have := (hk q (hL2.mem_iff.mp hq)).2
    unfold encT
    cases e : q.2 with
    | nil => exact absurd e this
    | cons x xs => exact ⟨_, _, rfl⟩
  · have : (encT q).depth ≤ 1 := by
      unfold encT
      rw [PyData.depth, PySem.W.depth_ints]
      exact Nat.le_refl _
    show X.A.in1.units + 1 + _ < cLine
    have : X.A.in1.units = X.A.units + 1 := rfl
    omega
  · have e1 := refs_each eo
    obtain ⟨c, hcx⟩ := sortedHeap_at (vs := L2.map fun q => Value.ref q.1) (out := out.toArray) hoL
    let L3 := L2.mergeSort (PySem.W.dataLe false encT)
    have p3 : L3.Perm L2 := List.mergeSort_perm _ _
    have m3 : L3.map (·.2) = (L.map (·.2)).mergeSort leZ := by
      have h1 : L3.map (·.2) = (L2.map (·.2)).mergeSort leZ := List.map_mergeSort (f := fun q : Addr × List Int => q.2) (r := PySem.W.dataLe false encT) (s := leZ) (l := L2) fun x _ y _ => dle_T
      rw [h1]; exact sort_unique (hL2.map _)
    have hn : H s1.heap.objs.size = none := I.hok.fresh hz
    have hv : Vals (L3.map fun q => V.ref q.1) out := by rw [e1]; exact vals_of_refs L3
    have kk : ∀ b u, s.heap.get? b = some u → (sortedHeap (s1.heap.push (seqObj "list" (L2.map fun q => Value.ref q.1).toArray 0)) s1.heap.objs.size (L2.map fun q => Value.ref q.1) out.toArray).get? b = some u := fun b u e => by
      have q := k1 b u e
      have hlt := Heap.lt_size q
      rw [sortedHeap_old (Nat.ne_of_lt hlt) (by rw [PyProof.Rows.size_push']; exact Nat.lt_succ_of_lt hlt)]
      exact Heap.get?_push_of_some _ q
    have hlen : (L3.map fun q => V.ref q.1).length ≤ sizeLine := by rw [List.length_map, p3.length_eq, sizeLine_eq]; omega
    refine wpAny_pure ⟨_, rfl, .ref s1.heap.objs.size, upd H s1.heap.objs.size (.lst (L3.map fun q => V.ref q.1)), I.call' (ch := []) o1 (Un.laid kk hz hn) (I.hok.laid kk hz ⟨hlen, out, c, hv, hcx⟩) (by show AllBare s1.gens; rw [g1]; exact I.bare) (fun _ z => nomatch z), rfl, ?_⟩
    exact q L3 _ R.nd m3 (fun p hp => hL2.mem_iff.mp (p3.mem_iff.mp hp)) hn
/-- sorted(set(e)) -/
theorem ints_rep' {K : PySem.W.Frag} {H : Hp} {β : List Addr} : ∀ {ps : List PV} {is : List Int} {ys : List V}, ints? ps = some is → Reps K H β ps ys → ys = is.map V.int
  | [], is, ys, e, r => by cases e; rw [reps_nil.mp r]; rfl
  | p :: ps, is, ys, e, r => by
    obtain ⟨x, r', rfl, r1, r2⟩ := reps_cons.mp r
    cases p with
    | int i =>
      rw [ints?] at e
      obtain ⟨l, e1, rfl⟩ := Option.map_eq_some_iff.mp e
      rw [rep_int.mp r1, ints_rep' e1 r2]; rfl
    | _ => simp [ints?] at e
/-- a list of rows of numbers -/
theorem rows_rep {K : PySem.W.Frag} {H : Hp} {β : List Addr} : ∀ {ps : List PV} {ks : List (List Int)} {ys : List V}, tupZs? ps = some ks → Reps K H β ps ys → ∃ L : List (Addr × List Int), ys = L.map (fun q => V.ref q.1) ∧ L.map (·.2) = ks ∧ ∀ q ∈ L, Tup K H q.1 (q.2.map V.int)
  | [], ks, ys, e, r => by cases e; rw [reps_nil.mp r]; exact ⟨[], rfl, rfl, by simp⟩
  | p :: ps, ks, ys, e, r => by
    obtain ⟨x, r', rfl, r1, r2⟩ := reps_cons.mp r
    rw [tupZs?, Option.bind_eq_some_iff] at e
    obtain ⟨k, e1, e⟩ := e
    obtain ⟨ks', e2, rfl⟩ := Option.map_eq_some_iff.mp e
    obtain ⟨L, h1, h2, h3⟩ := rows_rep e2 r2
    cases p with
    | tup zs =>
      obtain ⟨a, us, rfl, ht, hr⟩ := rep_tup.mp r1
      rw [ints_rep' (by exact e1) hr] at ht
      exact ⟨(a, k) :: L, by rw [h1]; rfl, by rw [← h2]; rfl, fun q hq => by
        rcases List.mem_cons.mp hq with rfl | hq
        · exact ht
        · exact h3 q hq⟩
    | _ => simp [tupZ?] at e1
theorem reps_rows {K : PySem.W.Frag} {H : Hp} {β : List Addr} : ∀ (L : List (Addr × List Int)), (∀ q ∈ L, Tup K H q.1 (q.2.map V.int)) → Reps K H β ((L.map (·.2)).map tupP) (L.map fun q => V.ref q.1)
  | [], _ => reps_nil.mpr rfl
  | q :: L, h => reps_cons.mpr ⟨_, _, rfl, rep_tup.mpr ⟨q.1, _, rfl, h q List.mem_cons_self, reps_ints_ _⟩, reps_rows L fun p hp => h p (List.mem_cons_of_mem _ hp)⟩
/-- set(l), l a list of ints: how many there are -/
def rSetL (K : PySem.W.Frag) (w : World) : List V → Hp → VK → Prop := fun xs H Q => ∃ (p : Addr) (ns : List Int), xs = [.ref p] ∧ SqL K H p (ns.map V.int) ∧ ns.length ≤ 1000 ∧ ∀ a, H a = none → Q (.ref a) (upd H a (SetO w a (fun j => decide (j ∈ ns)) (dd ns).length))
theorem cr_setL (hc : X.calm = true) : CallR X (.type "set") (rSetL X.K X.w) := by
  intro pins s σ H xs us Q I r h
  obtain ⟨p, ns, rfl, hp, hl, q⟩ := h
  rw [Vals.ref1 r]
  obtain ⟨its, rv, ⟨o, n, ho, hcl, hdd, hda⟩, hz⟩ := I.list hp
  have hi : IntsAre its ns := by
    have : ∀ {ns : List Int} {us : List Value}, Vals (ns.map V.int) us → IntsAre us ns := fun {ns} => by
      induction ns with
      | nil => intro us v; cases v; exact .nil
      | cons n ns ih =>
        intro us v
        cases v with
        | cons a b => obtain ⟨tk, rfl⟩ := a; exact .cons _ _ (ih b)
    exact this rv
  refine setListI (s := s) ns (I.ok.hd hc) (its := its.toArray) ⟨o, ho, hcl, n, hda⟩ (by simpa using hi) (by unfold scanBound; omega) fun h' tk c R k => ?_
  have e := setR_card R
  subst e
  exact ⟨.ref _, upd H s.heap.objs.size (SetO X.w s.heap.objs.size (fun j => decide (j ∈ ns)) (dd ns).length), I.laid (t' := tk) k (Nat.le_refl _) (setO_new R), rfl, q _ (I.hok.fresh (Nat.le_refl _))⟩
/-- set(t), t a tuple of tuples of ints -/
def rSetTT (K : PySem.W.Frag) (P : Program) (w : World) : List V → Hp → VK → Prop := fun xs H Q => ∃ (l : Addr) (ks : List (Addr × List Int)), xs = [V.ref l] ∧ SqT K H l (ks.map fun p => V.ref p.1) ∧ (∀ p ∈ ks, SqT K H p.1 (p.2.map V.int)) ∧ ks.length < 64 ∧
  ∀ a L, H a = none → (∀ p ∈ L, p ∈ ks) → (∀ p ∈ ks, p.2 ∈ L.map (·.2)) → Q (.ref a) (upd H a (SetTO P w a L))
theorem cr_setTT (hc : X.calm = true) (hu : X.A.units + 64 < cLine) : CallR X (.type "set") (rSetTT X.K X.prog X.w) := by
  intro pins s σ H xs us Q I r h
  obtain ⟨l, ks, rfl, hl, hk, hf, q⟩ := h
  rw [Vals.ref1 r]
  obtain ⟨its, rv, pl, hz⟩ := I.tuple hl
  have hn : H s.heap.objs.size = none := I.hok.fresh (Nat.le_refl _)
  refine setTupT (P := X.prog) (w := X.w) ks (I.ok.hd hc) (its := its.toArray) (by obtain ⟨o, ho, hcl, n, hd⟩ := pl; exact ⟨o, ho, hcl, n, hd⟩) (by simpa using refs_of_vals rv) (fun p hp => I.isT (hk p hp)) hf (by omega) fun h' tk L es ep t R g k => ?_
  refine ⟨.ref s.heap.objs.size, upd H s.heap.objs.size (SetTO X.prog X.w s.heap.objs.size L), I.laid (t' := tk) k (Nat.le_refl _) (setTO_new R.t0), rfl, q _ L hn (fun p hp => ?_) fun p hp => ?_⟩
  · exact List.mem_of_mem_take (g.sub p hp)
  · exact g.all p (by rw [List.take_length]; exact hp)
def rSetX (X : Cx) : List V → Hp → VK → Prop := fun xs H Q => rSetN X.K X.w xs H Q ∨ (rSetOfT X.K X.prog X.w xs H Q ∨ (rSetL X.K X.w xs H Q ∨ rSetTT X.K X.prog X.w xs H Q))
def rSortX (X : Cx) : List V → Hp → VK → Prop := fun xs H Q => rSortedSet X.w xs H Q ∨ rSortD X.K X.prog X.w xs H Q
theorem s_srtSet {k : Nat} {cf : CF} {fn : List (Nat × Str)} {S : SC} {e : Expr} {ea : Mn.Ev} {w : WS} {x y : Str} {p p2 pos pos2 : Pos} (G : Gd X k cf fn S) (hx : x = "sorted") (hy : y = "set") (hg : glB S.sc x = true) (hg2 : glB S.sc y = true) (hst : notStar e = true) (ha : PE X e (tE X.K w ea)) :
    PE X (.Call (.Name x p) [.Call (.Name y p2) [e] [] pos2] [] pos) (tE X.K w (fun σ M => ((ea σ M).bind fun v M1 => (Res.ok [] M1).bind fun vs M2 => .ok (v :: vs) M2).bind fun vs M1 => bcallM .srtSet vs M1)) := by
  subst hx hy
  have hs := notStar_of (env := X.env) (es := []) hst
  have hs2 := notStar_of (env := X.env) (e := .Call (.Name "set" p2) [e] [] pos2) (es := []) rfl
  have hu := G.hu
  have c1 : CallR X (.type "set") (rSetX X) := fun pins s σ H xs us Q I r h => h.elim (cr_setN G.calm pins s σ H xs us Q I r) fun h => h.elim (cr_setOfT G.calm (by omega) pins s σ H xs us Q I r) fun h => h.elim (cr_setL G.calm pins s σ H xs us Q I r) (cr_setTT G.calm (by omega) pins s σ H xs us Q I r)
  have c2 : CallR X (.builtin "sorted") (rSortX X) := fun pins s σ H xs us Q I r h => h.elim (cr_sortedSet G.calm pins s σ H xs us Q I r) (cr_sortD G.calm (by omega) pins s σ H xs us Q I r)
  have inner := pe_callTy (p := p2) (pos := pos2) c1 (G.gl hg2) (G.blt _ (by decide +kernel)) (by decide +kernel) (pa_cons ha pa_nil hs) (by decide +kernel) (by decide +kernel) hs rfl
  refine PE.imp (pe_callB (p := p) (pos := pos) c2 (G.gl hg) (G.blt _ (by decide +kernel)) (by decide +kernel) (pa_cons inner pa_nil hs2) (by decide +kernel) (by decide +kernel) hs2 rfl) fun σ H Q h => ?_
  obtain ⟨mσ, β, M, R, Sl, o⟩ := h
  simp only [assoc3] at o
  refine one R Sl o fun v x β1 M1 H1 s1 r1 S1 o1 => ?_
  have o1 : Out X.K β1 M1 H1 (bcallM .srtSet [v] M1) (kQ X.K Q) (w σ) := o1
  cases v with
  | tup zs =>
    simp only [bcallM] at o1
    split at o1
    · rename_i is ei
      split at o1
      · rename_i hc
        obtain ⟨a, ys, rfl, ht, hr⟩ := rep_tup.mp r1
        rw [ints_rep' ei hr] at ht
        refine .inl ⟨a, is, rfl, ht.sq, hc.1, fun b hb => .inl ⟨b, _, _, rfl, upd_same, hc.2, fun ns q h1 h2 h3 hq => ?_⟩⟩
        have en : ns = isort (dd is) := isort_eq (nodup_len (h1.imp fun h => Int.ne_of_lt h) (dd_nodup is) fun x => by rw [h2, dd_mem]; simp) (h1.imp fun h => Int.le_of_lt h)
        rw [en]
        exact (o1.new s1.rel hb).lst (stp_new s1.rel hb).rel (reps_ints_ _) hq
      · exact o1.elim
    · split at o1
      · rename_i ks e2
        split at o1
        · rename_i hc
          obtain ⟨a, ys, rfl, hl, rr⟩ := rep_tup.mp r1
          obtain ⟨L, rfl, hL, hT⟩ := rows_rep e2 rr
          have ne : ∀ q ∈ L, q.2 ≠ [] := fun q hq z => by
            have := List.all_eq_true.mp hc.2 q.2 (by rw [← hL]; exact List.mem_map.mpr ⟨q, hq, rfl⟩)
            rw [z] at this; cases this
          refine .inr (.inr (.inr ⟨a, L, rfl, hl.sq, fun q hq => (hT q hq).sq, by have := congrArg List.length hL; rw [List.length_map] at this; omega, fun b L1 hb1 sub sup => .inr ⟨b, L1, rfl, upd_same, fun q hq => ⟨(tup_upd_new hb1 (hT q (sub q hq))).sq, ne q (sub q hq)⟩, fun L2 c nd h1 h2 hc2 => ?_⟩⟩))
          have pm : (L1.map (·.2)).Perm (dd ks) := nodup_len nd (dd_nodup ks) fun z => by
            rw [dd_mem, ← hL]
            constructor
            · intro hz
              obtain ⟨q, hq, rfl⟩ := List.mem_map.mp hz
              exact List.mem_map.mpr ⟨q, sub q hq, rfl⟩
            · intro hz
              obtain ⟨q, hq, rfl⟩ := List.mem_map.mp hz
              exact sup q hq
          have em : (dd ks).mergeSort leZ = L2.map (·.2) := by rw [h1]; exact (sort_unique pm).symm
          rw [em] at o1
          exact (o1.new s1.rel hb1).lst (stp_new s1.rel hb1).rel (reps_rows L2 fun q hq => tup_upd_new hb1 (hT q (sub q (h2 q hq)))) hc2
        · exact o1.elim
      · exact o1.elim
  | ref n =>
    simp only [bcallM] at o1
    split at o1
    · rename_i ks ek
      split at o1
      · rename_i hc
        rw [Option.bind_eq_some_iff] at ek
        obtain ⟨ps, e1, e2⟩ := ek
        obtain ⟨a, ys, hb, hl, rr⟩ := s1.rel.list e1
        obtain ⟨L, rfl, hL, hT⟩ := rows_rep e2 rr
        rw [r1.ref_of hb]
        have ne : ∀ q ∈ L, q.2 ≠ [] := fun q hq z => by
          have := List.all_eq_true.mp hc.2 q.2 (by rw [← hL]; exact List.mem_map.mpr ⟨q, hq, rfl⟩)
          rw [z] at this; cases this
        refine .inr (.inl ⟨a, L, rfl, hl, fun q hq => (hT q hq).sq, by have := congrArg List.length hL; rw [List.length_map] at this; omega, fun b L1 hb1 sub sup => .inr ⟨b, L1, rfl, upd_same, fun q hq => ⟨(tup_upd_new hb1 (hT q (sub q hq))).sq, ne q (sub q hq)⟩, fun L2 c nd h1 h2 hc2 => ?_⟩⟩)
        have pm : (L1.map (·.2)).Perm (dd ks) := nodup_len nd (dd_nodup ks) fun z => by
          rw [dd_mem, ← hL]
          constructor
          · intro hz
            obtain ⟨q, hq, rfl⟩ := List.mem_map.mp hz
            exact List.mem_map.mpr ⟨q, sub q hq, rfl⟩
          · intro hz
            obtain ⟨q, hq, rfl⟩ := List.mem_map.mp hz
            exact sup q hq
        have em : (dd ks).mergeSort leZ = L2.map (·.2) := by rw [h1]; exact (sort_unique pm).symm
        rw [em] at o1
        exact (o1.new s1.rel hb1).lst (stp_new s1.rel hb1).rel (reps_rows L2 fun q hq => tup_upd_new hb1 (hT q (sub q (h2 q hq)))) hc2
      · exact o1.elim
    · split at o1
      · rename_i is ei
        rw [Option.bind_eq_some_iff] at ei
        obtain ⟨ps, e1, e2⟩ := ei
        split at o1
        · rename_i hc
          obtain ⟨a, ys, hb, hl, rr⟩ := s1.rel.list e1
          rw [ints_rep' e2 rr] at hl
          rw [r1.ref_of hb]
          refine .inr (.inr (.inl ⟨a, is, rfl, hl, hc.1, fun b hb => .inl ⟨b, _, _, rfl, upd_same, hc.2, fun ns q h1 h2 h3 hq => ?_⟩⟩))
          have en : ns = isort (dd is) := isort_eq (nodup_len (h1.imp fun h => Int.ne_of_lt h) (dd_nodup is) fun x => by rw [h2, dd_mem]; simp) (h1.imp fun h => Int.le_of_lt h)
          rw [en]
          exact (o1.new s1.rel hb).lst (stp_new s1.rel hb).rel (reps_ints_ _) hq
        · exact o1.elim
      · exact o1.elim
  | _ => exact o1.elim
/-- D[e], D a dict of the top -/
theorem s_cix {k : Nat} {cf : CF} {fn : List (Nat × Str)} {S : SC} {e : Expr} {ea : Mn.Ev} {w : WS} {y : Str} {p pos : Pos} {i : Nat} {c : Str × List (Str × PV)} (G : Gd X k cf fn S) (hc : CST[i]? = some c) (hy : c.1 = y) (hg : glB S.sc y = true) (hn : nmB y = true) (hi : i ∈ S.cs) (hs : PlainIx e) (ha : PE X e (tE X.K w ea)) :
    PE X (.Subscript (.Name y p) e pos) (tE X.K w (eCix i ea)) := by
  obtain ⟨a, hm, hd⟩ := G.cst i hi c hc
  rw [hy] at hm
  have hnm : PE X (.Name y p) (tC (.ref a)) := ⟨fun pins s σ H Q I h => ld_glob I (G.gl hg) hm ⟨.ref a, H, I, rfl, h⟩ (nmB_of hn).1⟩
  refine PE.imp (pe_ix ix_kdict hnm ha hs) fun σ H Q h => ?_
  obtain ⟨mσ, β, M, R, Sl, o⟩ := h
  refine one (f := fun v M1 => cixM i v M1) R Sl o fun v x β1 M1 H1 s1 r1 S1 o1 => ?_
  cases v with
  | str z =>
    unfold cixM cixO at o1
    rw [hc] at o1
    simp only [Option.bind_some] at o1
    split at o1
    · rename_i pv e1
      obtain ⟨u, k1, k2⟩ := hd z pv e1
      exact ⟨a, z, u, rfl, rep_str.mp r1, k1, o1.flat s1.rel (k2 _ _)⟩
    · exact o1.elim
  | _ => exact o1.elim
end
section
variable {X : Cx}
/-- the addresses of the defs named -/
theorem pa_fns {k : Nat} {cf : CF} {fn : List (Nat × Str)} {S : SC} (G : Gd X k cf fn S) : ∀ {fs : List Nat} {ns : List Expr}, fnsB fn S.sc fs ns = true →
    ∃ as : List Addr, as.length = fs.length ∧ (∃ t : TA, PA X ns t ∧ ∀ σ H Q, Q (as.map V.ref) H → t σ H Q) ∧ ∀ (n f : Nat), fs[n]? = some f → ∃ fa fd ps, as[n]? = some fa ∧ PySem.W.keepIn X.K (.ref fa) = true ∧ Binds X.K fd ps [] ∧ FnG X.prog X.w X.K X.mg X.base k fa fd ps (spM X.K cf f)
  | [], ns, h => by
    unfold fnsB at h
    rw [List.isEmpty_iff] at h
    subst h
    exact ⟨[], rfl, ⟨tNil, pa_nil, fun σ H Q q => q⟩, fun n f e => by cases e⟩
  | f :: fs, ns, h => by
    unfold fnsB at h
    split at h
    · rename_i x p ns
      simp only [Bool.and_eq_true, beq_iff_eq] at h
      obtain ⟨⟨⟨h1, h2⟩, h3⟩, h4⟩ := h
      obtain ⟨as, l, ⟨t, ht, hq⟩, hf⟩ := pa_fns G h4
      obtain ⟨fa, fd, ps, hm, hk, hb, F⟩ := G.fns f x h1
      have he : PE X (.Name x p) (tC (.ref fa)) := ⟨fun pins s σ H Q I h => ld_glob I (G.gl h2) hm ⟨.ref fa, H, I, rfl, h⟩ (nmB_of h3).1⟩
      refine ⟨fa :: as, by rw [List.length_cons, l, List.length_cons], ⟨_, pa_cons he ht, fun σ H Q q => hq σ H _ q⟩, fun n g e => ?_⟩
      cases n with
      | zero =>
        cases e
        exact ⟨fa, fd, ps, rfl, hk, hb, F⟩
      | succ n => exact hf n g e
    · cases h
theorem s_callL {k : Nat} {cf : CF} {fn : List (Nat × Str)} {S : SC} {fs : List Nat} {ns es : List Expr} {z e : Expr} {ea : Mn.Ev} {eA : Mn.St → Mem → Res (List PV)} {pl ps' pos : Pos} (G : Gd X k cf fn S) (hf : fnsB fn S.sc fs ns = true) (hs : PlainIx z) (ha : PE X z (tE X.K w0 ea)) (hl : fs.length ≤ 1000)
    (hst : (e :: es).all notStar = true) (hA : PA X (e :: es) (tAs X.K w0 eA)) :
    PE X (.Call (.Subscript (.List ns pl) z ps') (e :: es) [] pos) (tE X.K w0 (fun σ M => (ea σ M).bind fun v M1 => match fnAtM fs v with | some f => (eA σ M1).bind fun vs M2 => callM cf f vs M2 | none => .stuck)) := by
  obtain ⟨as, l, ⟨t, ht, hq⟩, hfs⟩ := pa_fns G hf
  have h2 := List.all_cons.symm.trans hst
  rw [Bool.and_eq_true] at h2
  refine ⟨fun pins s σ H Q I h => ?_⟩
  obtain ⟨mσ, β, M, R, Sl, o⟩ := h
  have callee : PE X (.Subscript (.List ns pl) z ps') (tOp (rIxL X.K) (tLst t) (tE X.K w0 ea)) := pe_ix ix_list (pe_lst ht) ha hs
  refine Call_ (thn (callee.run pins s σ H (fun x H1 => ∃ f fa fd ps, x = .ref fa ∧ PySem.W.keepIn X.K (.ref fa) = true ∧ Binds X.K fd ps [] ∧ FnG X.prog X.w X.K X.mg X.base k fa fd ps (spM X.K cf f) ∧ tAs X.K w0 eA σ H1 fun xs H2 => spM X.K cf f xs H2 Q E0) I ?_) fun u s1 ⟨x, H1, I1, rx, f, fa, fd, ps, ex, hk, hb, F, hh⟩ => ?_)
  · refine hq σ H _ ⟨?_, fun p hp => ?_⟩
    · rw [List.length_map, l, sizeLine_eq]; omega
    · have st := stp_new (o := .lst (as.map V.ref)) R hp
      refine one (w := w0) st.rel (Sl.stp R st) (o.new R hp) fun v y β1 M1 H1 s1 r1 S1 o1 => ?_
      have keep : H1 p = some (.lst (as.map V.ref)) := s1.frame p _ upd_same fun n xs hn hb => by
        obtain ⟨a, e1, ys, e2, e3⟩ := R.obj n _ hn
        rw [hb] at e1; cases e1
        rw [hp] at e2; cases e2
      cases v with
      | int j =>
        rw [rep_int] at r1
        subst r1
        have o1 : Out X.K β1 M1 H1 (match fnAtM fs (.int j) with | some f => (eA mσ M1).bind fun vs M2 => callM cf f vs M2 | none => .stuck) (kQ X.K Q) (w0 σ) := o1
        cases q : fnAtM fs (.int j) with
        | none => rw [q] at o1; exact o1.elim
        | some f =>
          rw [q] at o1
          have q : (ixOf fs.length j).bind (fun n => fs[n]?) = some f := q
          obtain ⟨n, q1, q2⟩ := Option.bind_eq_some_iff.mp q
          obtain ⟨fa, fd, ps, g1, g2, g3, g4⟩ := hfs n f q2
          refine ⟨p, as.map V.ref, j, .ref fa, rfl, rfl, SqL.of keep, ?_, f, fa, fd, ps, rfl, g2, g3, g4, ?_⟩
          · unfold atI
            rw [List.length_map, l, ← ixOf_eq, q1]
            show (as.map V.ref)[n]? = _
            rw [List.getElem?_map, g1]; rfl
          · exact oneA s1.rel S1 o1 fun vs xs β2 M2 H2 s2 r2 S2 o2 => callM_sp (σ := σ) s2.rel r2 o2
      | _ => exact o1.elim
  · subst ex
    cases rx
    exact PySem.W.callWith_K (h₀ := X.base) I1.ok.mod.kin hk (thn (hA.run pos pins s1 σ H1 _ I1 hh) fun us s2 ⟨xs, H2, I2, r, q⟩ => ⟨I2.kIn, runG F G hb I2 r q⟩) (notStar_of h2.1) (star_any pos h2.2)
end
end Mn
end
section
set_option Elab.async false
set_option linter.all false
set_option maxRecDepth 100000
set_option maxHeartbeats 4000000
namespace Mn
open PySem PySem.Spec PyProof.Rows L2

/-! ### what is walked -/
def inB (s : Src) (i : Nat) : Prop := match s with | .items xs => i ≤ xs.length | _ => True
/-- what was at hand is so still -/
structure Per (K : PySem.W.Frag) (β1 : List Addr) (H1 : Hp) (β : List Addr) (M : Mem) (H : Hp) : Prop where
  rel : RelH K β M H
  pre : ∀ n a : Nat, β1[n]? = some a → β[n]? = some a
  tup : ∀ {a : Addr} {xs : List V}, Tup K H1 a xs → Tup K H a xs
theorem Per.reps {K : PySem.W.Frag} {β1 β : List Addr} {M : Mem} {H1 H : Hp} (p : Per K β1 H1 β M H) {ps : List PV} {xs : List V} (h : Reps K H1 β1 ps xs) : Reps K H β ps xs := h.mono (fun _ _ => p.tup) p.pre
theorem Stp.per {K : PySem.W.Frag} {β1 β : List Addr} {M1 M : Mem} {H1 H : Hp} (s : Stp K β1 M1 H1 β M H) (R : RelH K β1 M1 H1) : Per K β1 H1 β M H := ⟨s.rel, s.pre, fun h => s.tup R h⟩
structure SrcOk (K : PySem.W.Frag) (β1 : List Addr) (M1 : Mem) (H1 : Hp) (g : MG) (J : It) (s : Src) : Prop where
  stop : ∀ i β M H, Per K β1 H1 β M H → inB s i → srcAt s i M = some none → J.stop i H
  go : ∀ i β M H v, Per K β1 H1 β M H → srcAt s i M = some (some v) → J.go i H ∧ ∀ x H', J.yld i H x H' → Stp K β M H β M H' ∧ ∀ mσ mσ', assignG g v mσ = some mσ' → RepG K H' β g v x
def tI (K : PySem.W.Frag) (w : WS) (ev : Mn.St → Mem → Res Src) (g : MG) : TI := fun σ H R => ∃ mσ β M, RelH K β M H ∧ RelS K H β mσ σ ∧ Out K β M H (ev mσ M) (fun s β' M' H' => ∀ J, SrcOk K β' M' H' g J s → R J H') (w σ)
theorem PI.imp {X : Cx} {tg e : Expr} {t t' : TI} (h : PI X tg e t') (i : ∀ σ H R, t σ H R → t' σ H R) : PI X tg e t := ⟨fun pins s σ H R I q => h.run pins s σ H R I (i σ H R q)⟩
section
variable {K : PySem.W.Frag} {β : List Addr} {M : Mem} {H : Hp} {g : MG}
theorem src_items {xs : List PV} (i : Nat) (M : Mem) : srcAt (.items xs) i M = some xs[i]? := rfl
theorem srcOk_tup (R : RelH K β M H) {ps : List PV} {a : Addr} {xs : List V} (ht : Tup K H a xs) (rs : Reps K H β ps xs) : SrcOk K β M H g (Itt K a) (.items ps) where
  stop := fun i β' M' H' s hb e => by
    have e : ps[i]? = none := Option.some.inj e
    refine ⟨xs, (s.tup ht).sq, ?_⟩
    rw [← rs.length]
    exact List.getElem?_eq_none_iff.mp e
  go := fun i β' M' H' v s e => by
    have e : ps[i]? = some v := Option.some.inj e
    obtain ⟨x, ex, rx⟩ := (s.reps rs).get e
    refine ⟨⟨xs, x, (s.tup ht).sq, ex⟩, fun y H2 hy => ?_⟩
    obtain ⟨rfl, hy⟩ := hy
    have : y = x := by
      have := hy xs (s.tup ht).sq
      rw [ex] at this
      exact (Option.some.inj this).symm
    subst this
    exact ⟨.refl s.rel, fun mσ mσ' ha => rx.g (assign_tup ha)⟩
theorem srcOk_list (R : RelH K β M H) {n : Nat} {a : Addr} (hb : β[n]? = some a) : SrcOk K β M H g (Itl K a) (.at1 n false) where
  stop := fun i β' M' H' s _ e => by
    simp only [srcAt, Option.map_eq_some_iff] at e
    obtain ⟨ps, e1, e2⟩ := e
    obtain ⟨a', ys, b1, b2, b3⟩ := s.rel.list e1
    rw [s.pre n a hb] at b1; cases b1
    refine ⟨ys, b2, ?_⟩
    rw [← b3.length]
    rw [Option.map_eq_none_iff] at e2
    exact List.getElem?_eq_none_iff.mp e2
  go := fun i β' M' H' v s e => by
    simp only [srcAt, Option.map_eq_some_iff] at e
    obtain ⟨ps, e1, e2⟩ := e
    obtain ⟨a', ys, b1, b2, b3⟩ := s.rel.list e1
    rw [s.pre n a hb] at b1; cases b1
    obtain ⟨p, e2, e3⟩ := e2
    simp only [Bool.false_eq_true, if_false] at e3
    subst e3
    obtain ⟨x, ex, rx⟩ := b3.get e2
    refine ⟨⟨ys, x, b2, ex⟩, fun y H2 hy => ?_⟩
    obtain ⟨rfl, hy⟩ := hy
    have : y = x := by
      have := hy ys b2
      rw [ex] at this
      exact (Option.some.inj this).symm
    subst this
    exact ⟨.refl s.rel, fun mσ mσ' ha => rx.g (assign_tup ha)⟩
theorem rangeL_get (lo hi : Int) (i : Nat) : (rangeL lo hi)[i]? = if i < (hi - lo).toNat then some (.int (lo + (i : Nat))) else none := by
  unfold rangeL
  rw [List.getElem?_map]
  by_cases h : i < (hi - lo).toNat
  · simp [h]
  · simp [h]
theorem srcOk_range (R : RelH K β M H) (lo hi : Int) : SrcOk K β M H g (Itr lo (hi - lo).toNat) (.items (rangeL lo hi)) where
  stop := fun i β' M' H' s _ e => by
    have e : (rangeL lo hi)[i]? = none := Option.some.inj e
    rw [rangeL_get] at e
    split at e
    · cases e
    · show (hi - lo).toNat ≤ i; omega
  go := fun i β' M' H' v s e => by
    have e : (rangeL lo hi)[i]? = some v := Option.some.inj e
    rw [rangeL_get] at e
    split at e
    · rename_i hi'
      cases e
      refine ⟨hi', fun y H2 hy => ?_⟩
      obtain ⟨rfl, rfl⟩ := hy
      exact ⟨.refl s.rel, fun mσ mσ' ha => Rep.g (rep_int.mpr rfl) (assign_tup ha)⟩
    · cases e
theorem srcOk_str (R : RelH K β M H) (z : Str) : SrcOk K β M H g (Its z) (.items (z.cps.toList.map fun c => .str ⟨#[c]⟩)) where
  stop := fun i β' M' H' s _ e => by
    have e : (z.cps.toList.map fun c => PV.str ⟨#[c]⟩)[i]? = none := Option.some.inj e
    have := List.getElem?_eq_none_iff.mp e
    rw [List.length_map, Array.length_toList] at this
    exact this
  go := fun i β' M' H' v s e => by
    have e : (z.cps.toList.map fun c => PV.str ⟨#[c]⟩)[i]? = some v := Option.some.inj e
    rw [List.getElem?_map, Option.map_eq_some_iff] at e
    obtain ⟨c, e1, rfl⟩ := e
    rw [Array.getElem?_toList] at e1
    refine ⟨(Array.getElem?_eq_some_iff.mp e1).1, fun y H2 hy => ?_⟩
    obtain ⟨rfl, c', hc, rfl⟩ := hy
    rw [e1] at hc; cases hc
    exact ⟨.refl s.rel, fun mσ mσ' ha => Rep.g (rep_str.mpr rfl) (assign_tup ha)⟩
/-- a new pair -/
theorem pair_g (R : RelH K β M H) {T : Addr} {p q : PV} {x y : V} (hT : H T = none) (rp : Rep K H β p x) (rq : Rep K H β q y) (hg : ∃ gs, g = .tup gs) :
    Stp K β M H β M (upd H T (.tup [x, y])) ∧ ∀ mσ mσ', assignG g (.tup [p, q]) mσ = some mσ' → RepG K (upd H T (.tup [x, y])) β g (.tup [p, q]) (.ref T) := by
  have s := stp_new (o := HO.tup [x, y]) R hT
  refine ⟨s, fun _ _ _ => ?_⟩
  obtain ⟨gs, rfl⟩ := hg
  exact ⟨[p, q], T, [x, y], rfl, rfl, .inl (.inl upd_same), reps_cons.mpr ⟨x, [y], rfl, s.rep R rp, .one (s.rep R rq)⟩⟩
theorem enumL_get : ∀ (xs : List PV) (k i : Nat), (enumL k xs)[i]? = xs[i]?.map fun x => PV.tup [.int ((k + i : Nat) : Int), x]
  | [], k, i => by unfold enumL; simp
  | x :: xs, k, 0 => by unfold enumL; simp
  | x :: xs, k, i + 1 => by
    unfold enumL
    rw [List.getElem?_cons_succ, List.getElem?_cons_succ, enumL_get xs (k + 1) i, show k + 1 + i = k + (i + 1) by omega]
theorem enumL_len (k : Nat) (xs : List PV) : (enumL k xs).length = xs.length := by
  induction xs generalizing k with
  | nil => rfl
  | cons x xs ih => unfold enumL; rw [List.length_cons, List.length_cons, ih]
theorem srcOk_enumT (R : RelH K β M H) {ps : List PV} {a : Addr} {xs : List V} (hg : ∃ gs, g = .tup gs) (ht : Tup K H a xs) (rs : Reps K H β ps xs) : SrcOk K β M H g (IteT K a) (.items (enumL 0 ps)) where
  stop := fun i β' M' H' s hb e => by
    have e : (enumL 0 ps)[i]? = none := Option.some.inj e
    have hb : i ≤ (enumL 0 ps).length := hb
    refine ⟨xs, (s.tup ht).sq, ?_⟩
    have := List.getElem?_eq_none_iff.mp e
    rw [enumL_len] at this hb
    rw [← rs.length]
    omega
  go := fun i β' M' H' v s e => by
    have e : (enumL 0 ps)[i]? = some v := Option.some.inj e
    rw [enumL_get, Option.map_eq_some_iff] at e
    obtain ⟨p, e1, rfl⟩ := e
    obtain ⟨x, ex, rx⟩ := (s.reps rs).get e1
    refine ⟨⟨xs, x, (s.tup ht).sq, ex⟩, fun y H2 hy => ?_⟩
    obtain ⟨T, z, rfl, hT, rfl, hz⟩ := hy
    have : z = x := by
      have := hz xs (s.tup ht).sq
      rw [ex] at this
      exact (Option.some.inj this).symm
    subst this
    rw [Nat.zero_add]
    exact pair_g s.rel hT (rep_int.mpr rfl) rx hg
theorem srcOk_enumL (R : RelH K β M H) {n : Nat} {a : Addr} (hg : ∃ gs, g = .tup gs) (hb : β[n]? = some a) : SrcOk K β M H g (Ite K a) (.at1 n true) where
  stop := fun i β' M' H' s _ e => by
    simp only [srcAt, Option.map_eq_some_iff] at e
    obtain ⟨ps, e1, e2⟩ := e
    obtain ⟨a', ys, b1, b2, b3⟩ := s.rel.list e1
    rw [s.pre n a hb] at b1; cases b1
    refine ⟨ys, b2, ?_⟩
    rw [← b3.length]
    rw [Option.map_eq_none_iff] at e2
    exact List.getElem?_eq_none_iff.mp e2
  go := fun i β' M' H' v s e => by
    simp only [srcAt, Option.map_eq_some_iff] at e
    obtain ⟨ps, e1, e2⟩ := e
    obtain ⟨a', ys, b1, b2, b3⟩ := s.rel.list e1
    rw [s.pre n a hb] at b1; cases b1
    obtain ⟨p, e2, e3⟩ := e2
    simp only [if_true] at e3
    subst e3
    obtain ⟨x, ex, rx⟩ := b3.get e2
    refine ⟨⟨ys, x, b2, ex⟩, fun y H2 hy => ?_⟩
    obtain ⟨T, z, rfl, hT, rfl, hz⟩ := hy
    have : z = x := by
      have := hz ys b2
      rw [ex] at this
      exact (Option.some.inj this).symm
    subst this
    exact pair_g s.rel hT (rep_int.mpr rfl) rx hg
theorem zipL_get : ∀ (xs ys : List PV) (i : Nat), (zipL xs ys)[i]? = xs[i]?.bind fun x => ys[i]?.map fun y => PV.tup [x, y]
  | [], ys, i => by unfold zipL; simp
  | x :: xs, [], i => by unfold zipL; simp
  | x :: xs, y :: ys, 0 => by unfold zipL; simp
  | x :: xs, y :: ys, i + 1 => by
    unfold zipL
    rw [List.getElem?_cons_succ, List.getElem?_cons_succ, List.getElem?_cons_succ, zipL_get xs ys i]
theorem pair_none {xs ys : List PV} {i : Nat} (e : (xs[i]?.bind fun x => ys[i]?.map fun y => PV.tup [x, y]) = none) : xs.length ≤ i ∨ ys.length ≤ i := by
  cases h1 : xs[i]? with
  | none => exact .inl (List.getElem?_eq_none_iff.mp h1)
  | some x =>
    rw [h1] at e
    cases h2 : ys[i]? with
    | none => exact .inr (List.getElem?_eq_none_iff.mp h2)
    | some y => rw [h2] at e; cases e
theorem pair_some {xs ys : List PV} {i : Nat} {v : PV} (e : (xs[i]?.bind fun x => ys[i]?.map fun y => PV.tup [x, y]) = some v) : ∃ x y, xs[i]? = some x ∧ ys[i]? = some y ∧ v = .tup [x, y] := by
  obtain ⟨x, e1, e2⟩ := Option.bind_eq_some_iff.mp e
  obtain ⟨y, e3, e4⟩ := Option.map_eq_some_iff.mp e2
  exact ⟨x, y, e1, e3, e4.symm⟩
theorem srcOk_zipT (R : RelH K β M H) {ps qs : List PV} {a b : Addr} {xs ys : List V} (hg : ∃ gs, g = .tup gs) (ht : Tup K H a xs) (rs : Reps K H β ps xs) (ht2 : Tup K H b ys) (rs2 : Reps K H β qs ys) : SrcOk K β M H g (RZ.ItzT K a b) (.items (zipL ps qs)) where
  stop := fun i β' M' H' s _ e => by
    have e : (zipL ps qs)[i]? = none := Option.some.inj e
    rw [zipL_get] at e
    refine ⟨xs, ys, (s.tup ht).sq, (s.tup ht2).sq, ?_⟩
    rw [← rs.length, ← rs2.length]
    exact pair_none e
  go := fun i β' M' H' v s e => by
    have e : (zipL ps qs)[i]? = some v := Option.some.inj e
    rw [zipL_get] at e
    obtain ⟨p, q, e1, e2, rfl⟩ := pair_some e
    obtain ⟨x, ex, rx⟩ := (s.reps rs).get e1
    obtain ⟨y, ey, ry⟩ := (s.reps rs2).get e2
    refine ⟨⟨xs, ys, x, y, (s.tup ht).sq, (s.tup ht2).sq, ex, ey⟩, fun z H2 hz => ?_⟩
    obtain ⟨T, x', y', rfl, hT, rfl, h1, h2⟩ := hz
    have e3 : x' = x := by
      have := h1 xs (s.tup ht).sq
      rw [ex] at this
      exact (Option.some.inj this).symm
    have e4 : y' = y := by
      have := h2 ys (s.tup ht2).sq
      rw [ey] at this
      exact (Option.some.inj this).symm
    subst e3 e4
    exact pair_g s.rel hT rx ry hg
theorem srcOk_zipL (R : RelH K β M H) {n m : Nat} {a b : Addr} (hg : ∃ gs, g = .tup gs) (hb : β[n]? = some a) (hb2 : β[m]? = some b) : SrcOk K β M H g (Itz K a b) (.at2 n m) where
  stop := fun i β' M' H' s _ e => by
    simp only [srcAt, Option.bind_eq_some_iff, Option.map_eq_some_iff] at e
    obtain ⟨ps, e1, qs, e2, e3⟩ := e
    obtain ⟨a', ys, b1, b2, b3⟩ := s.rel.list e1
    rw [s.pre n a hb] at b1; cases b1
    obtain ⟨a', zs, c1, c2, c3⟩ := s.rel.list e2
    rw [s.pre m b hb2] at c1; cases c1
    refine ⟨ys, zs, b2, c2, ?_⟩
    rw [← b3.length, ← c3.length]
    exact pair_none e3
  go := fun i β' M' H' v s e => by
    simp only [srcAt, Option.bind_eq_some_iff, Option.map_eq_some_iff] at e
    obtain ⟨ps, e1, qs, e2, e3⟩ := e
    obtain ⟨a', ys, b1, b2, b3⟩ := s.rel.list e1
    rw [s.pre n a hb] at b1; cases b1
    obtain ⟨a', zs, c1, c2, c3⟩ := s.rel.list e2
    rw [s.pre m b hb2] at c1; cases c1
    have e3 : (ps[i]?.bind fun x => qs[i]?.map fun y => PV.tup [x, y]) = some v := by
      rw [Option.bind_eq_some_iff]
      obtain ⟨p, e4, q, e5, e6⟩ := e3
      exact ⟨p, e4, by rw [e5, ← e6]; rfl⟩
    obtain ⟨p, q, e1, e2, rfl⟩ := pair_some e3
    obtain ⟨x, ex, rx⟩ := b3.get e1
    obtain ⟨y, ey, ry⟩ := c3.get e2
    refine ⟨⟨ys, zs, x, y, b2, c2, ex, ey⟩, fun z H2 hz => ?_⟩
    obtain ⟨T, x', y', rfl, hT, rfl, h1, h2⟩ := hz
    have e3 : x' = x := by
      have := h1 ys b2
      rw [ex] at this
      exact (Option.some.inj this).symm
    have e4 : y' = y := by
      have := h2 zs c2
      rw [ey] at this
      exact (Option.some.inj this).symm
    subst e3 e4
    exact pair_g s.rel hT rx ry hg
theorem srcOk_zipM (R : RelH K β M H) {n : Nat} {qs : List PV} {a b : Addr} {ys : List V} (hg : ∃ gs, g = .tup gs) (hb : β[n]? = some a) (ht2 : Tup K H b ys) (rs2 : Reps K H β qs ys) : SrcOk K β M H g (ItzM K a b) (.atT n qs) where
  stop := fun i β' M' H' s _ e => by
    simp only [srcAt, Option.bind_eq_some_iff] at e
    obtain ⟨ps, e1, e3⟩ := e
    split at e3
    · rename_i c
      have e3 := Option.some.inj e3
      obtain ⟨a', zs, b1, b2, b3⟩ := s.rel.list e1
      rw [s.pre n a hb] at b1; cases b1
      refine ⟨zs, ys, b2, (s.tup ht2).sq, ?_⟩
      rw [← b3.length, ← rs2.length]
      refine ⟨c.1, c.2, ?_⟩
      rcases pair_none e3 with q | q
      · exact .inl (by omega)
      · exact .inr (by omega)
    · cases e3
  go := fun i β' M' H' v s e => by
    simp only [srcAt, Option.bind_eq_some_iff] at e
    obtain ⟨ps, e1, e3⟩ := e
    split at e3
    · have e3 := Option.some.inj e3
      obtain ⟨a', zs, b1, b2, b3⟩ := s.rel.list e1
      rw [s.pre n a hb] at b1; cases b1
      obtain ⟨p, q, e4, e5, rfl⟩ := pair_some e3
      obtain ⟨x, ex, rx⟩ := b3.get e4
      obtain ⟨y, ey, ry⟩ := (s.reps rs2).get e5
      refine ⟨⟨zs, ys, x, y, b2, (s.tup ht2).sq, ex, ey⟩, fun z H2 hz => ?_⟩
      obtain ⟨T, x', y', rfl, hT, rfl, h1, h2⟩ := hz
      have e6 : x' = x := by
        have := h1 zs b2
        rw [ex] at this
        exact (Option.some.inj this).symm
      have e7 : y' = y := by
        have := h2 ys (s.tup ht2).sq
        rw [ey] at this
        exact (Option.some.inj this).symm
      subst e6 e7
      exact pair_g s.rel hT rx ry hg
    · cases e3
end
end Mn
end
section
set_option Elab.async false
set_option linter.all false
set_option maxRecDepth 100000
set_option maxHeartbeats 4000000
namespace Mn
open PySem PySem.Spec PyProof.Rows L2

section
variable {X : Cx} {k : Nat} {cf : CF} {fn : List (Nat × Str)} {S : SC} {e e2 tg : Expr} {es : List Expr} {pos p : Pos} {x : Str} {ea eb : Mn.Ev} {w : WS} {g : MG}

theorem i_seq (ha : PE X e (tE X.K w ea)) : PI X tg e (tI X.K w (fun σ M => (ea σ M).bind fun v M1 => optR (srcSeq v M1) M1) g) := by
  refine ⟨fun pins s σ H R I h => ?_⟩
  obtain ⟨mσ, β, M, Rh, Sl, o⟩ := h
  have key : tE X.K w ea σ H fun y H1 => (∃ a xs, y = .ref a ∧ SqL X.K H1 a xs ∧ R (Itl X.K a) H1) ∨ (∃ a xs, y = .ref a ∧ SqT X.K H1 a xs ∧ R (Itt X.K a) H1) ∨ ∃ z, y = .str z ∧ R (Its z) H1 :=
    one Rh Sl o fun v y β1 M1 H1 s1 r1 S1 o1 => by
      cases v with
      | tup ps =>
        obtain ⟨a, xs, rfl, ht, rs⟩ := rep_tup.mp r1
        exact .inr (.inl ⟨a, xs, rfl, ht.sq, o1.ok s1.rel _ (srcOk_tup s1.rel ht rs)⟩)
      | ref n =>
        simp only [srcSeq] at o1
        cases hl : M1.lst? n with
        | none => rw [hl] at o1; exact o1.elim
        | some ps =>
          rw [hl] at o1
          obtain ⟨a, ys, b1, b2, b3⟩ := s1.rel.list hl
          rw [r1.ref_of b1]
          exact .inl ⟨a, ys, rfl, b2, o1.ok s1.rel _ (srcOk_list s1.rel b1)⟩
      | str z =>
        simp only [srcSeq] at o1
        rw [rep_str.mp r1]
        by_cases hz : z.length ≤ LIM
        · rw [if_pos hz] at o1
          exact .inr (.inr ⟨z, rfl, o1.ok s1.rel _ (srcOk_str s1.rel z)⟩)
        · rw [if_neg hz] at o1; exact o1.elim
      | _ => exact o1.elim
  refine thn (ha.run pins s σ H _ I key) fun v s1 ⟨y, H1, I1, r1, q1⟩ => ?_
  rcases q1 with ⟨a, xs, rfl, hq, q⟩ | ⟨a, xs, rfl, hq, q⟩ | ⟨z, rfl, q⟩
  · cases r1
    obtain ⟨its, rv, pl, hz⟩ := I1.list hq
    exact wpAny_pyIter_list pl.isList (pi_one (tk := s1.toks) I1 _ (turn_list a _) ⟨_, Heap.get?_push_size _ rfl, rfl, rfl⟩ q)
  · cases r1
    obtain ⟨its, rv, pl, hz⟩ := I1.tuple hq
    exact wpAny_pyIter_tuple (show s1.heap.IsTuple a its.toArray from pl) (pi_one (tk := s1.toks) I1 _ (turn_tuple a _) ⟨_, Heap.get?_push_size _ rfl, rfl, rfl⟩ q)
  · obtain ⟨t, rfl⟩ := r1
    cases ha : z.cps.all (· < 128)
    · exact wpAny_pyIter_wide ha (pi_one (tk := s1.toks) I1 _ (turn_str _ z t "str_iterator" (.inr rfl)) ⟨_, Heap.get?_push_size _ rfl, rfl, rfl⟩ q)
    · exact wpAny_pyIter_ascii ha (pi_one (tk := s1.toks) I1 _ (turn_str _ z t "str_ascii_iterator" (.inl rfl)) ⟨_, Heap.get?_push_size _ rfl, rfl, rfl⟩ q)
theorem i_range1 (G : Gd X k cf fn S) (hx : x = "range") (hg : glB S.sc x = true) (hs : notStar e = true) (ha : PE X e (tE X.K w ea)) :
    PI X tg (.Call (.Name x p) [e] [] pos) (tI X.K w (fun σ M => (ea σ M).bind fun v M1 => (intR v M1).bind fun j M2 => if inRange j then .ok (.items (rangeL 0 j)) M2 else .stuck) g) := by
  subst hx
  refine PI.imp (pi_range1 (G.gl hg) (G.blt _ (by decide +kernel)) (pa_cons ha pa_nil (notStar_of hs)) (notStar_of hs)) fun σ H R h => ?_
  obtain ⟨mσ, β, M, Rh, Sl, o⟩ := h
  refine one Rh Sl o fun v y β1 M1 H1 s1 r1 S1 o1 => ?_
  cases v with
  | int j =>
    have o1 : Out X.K β1 M1 H1 (if inRange j then .ok (Src.items (rangeL 0 j)) M1 else .stuck) _ (w σ) := o1
    by_cases hj : inRange j = true
    · rw [if_pos hj] at o1
      obtain ⟨b1, b2⟩ := inRange_of hj
      rw [rep_int.mp r1]
      have := o1.ok s1.rel _ (srcOk_range s1.rel 0 j)
      rw [Int.sub_zero] at this
      exact ⟨j, rfl, b1, b2, this⟩
    · rw [if_neg hj] at o1; exact o1.elim
  | _ => exact o1.elim
theorem i_range2 (G : Gd X k cf fn S) (hx : x = "range") (hg : glB S.sc x = true) (hs : notStar e = true) (hs2 : notStar e2 = true) (ha : PE X e (tE X.K w ea)) (hb : PE X e2 (tE X.K w eb)) :
    PI X tg (.Call (.Name x p) [e, e2] [] pos) (tI X.K w (fun σ M => (ea σ M).bind fun v M1 => (eb σ M1).bind fun u M2 => (intR v M2).bind fun i M3 => (intR u M3).bind fun j M4 =>
      if inRange i && inRange j then .ok (.items (rangeL i j)) M4 else .stuck) g) := by
  subst hx
  refine PI.imp (pi_range2 (G.gl hg) (G.blt _ (by decide +kernel)) (pa_cons ha (pa_cons hb pa_nil (notStar_of hs2)) (notStar_of hs)) (by rw [notStar_of hs, notStar_of hs2]; rfl) (by rw [notStar_of hs2]; rfl)) fun σ H R h => ?_
  obtain ⟨mσ, β, M, Rh, Sl, o⟩ := h
  refine one Rh Sl o fun v y β1 M1 H1 s1 r1 S1 o1 => ?_
  refine one s1.rel S1 o1 fun u z β2 M2 H2 s2 r2 S2 o2 => ?_
  cases v with
  | int i =>
    cases u with
    | int j =>
      have o2 : Out X.K β2 M2 H2 (if inRange i && inRange j then .ok (Src.items (rangeL i j)) M2 else .stuck) _ (w σ) := o2
      by_cases hj : (inRange i && inRange j) = true
      · rw [if_pos hj] at o2
        rw [Bool.and_eq_true] at hj
        obtain ⟨b1, b2⟩ := inRange_of hj.1
        obtain ⟨b3, b4⟩ := inRange_of hj.2
        rw [rep_int.mp r1, rep_int.mp r2]
        exact ⟨i, j, rfl, ⟨b1, b2, b3, b4⟩, o2.ok s2.rel _ (srcOk_range s2.rel i j)⟩
      · rw [if_neg hj] at o2; exact o2.elim
    | _ => exact o2.elim
  | _ => exact o2.elim
theorem isTup_of {N : List Str} {gg : MG} {e : Expr} (h : chkG N S gg e = true) (ht : isTup e = true) : (∃ gs, gg = .tup gs) ∧ ∃ xs kk pp, e = .Tuple xs kk pp := by
  cases e with
  | Tuple xs kk pp =>
    refine ⟨?_, xs, kk, pp, rfl⟩
    cases gg with
    | name i => unfold chkG at h; cases h
    | tup gs => exact ⟨gs, rfl⟩
  | _ => cases ht
theorem i_enum (G : Gd X k cf fn S) (hx : x = "enumerate") (hg : glB S.sc x = true) (hs : notStar e = true) (hgt : ∃ gs, g = .tup gs) (ht : ∃ xs kk pp, tg = .Tuple xs kk pp) (ha : PE X e (tE X.K w ea)) :
    PI X tg (.Call (.Name x p) [e] [] pos) (tI X.K w (fun σ M => (ea σ M).bind fun v M1 => optR (srcEnum v M1) M1) g) := by
  subst hx
  obtain ⟨xs, kk, pp, rfl⟩ := ht
  refine PI.imp (pi_enumA (G.gl hg) (G.blt _ (by decide +kernel)) (pa_cons ha pa_nil (notStar_of hs)) (notStar_of hs)) fun σ H R h => ?_
  obtain ⟨mσ, β, M, Rh, Sl, o⟩ := h
  refine one Rh Sl o fun v y β1 M1 H1 s1 r1 S1 o1 => ?_
  cases v with
  | tup ps =>
    obtain ⟨a, xs, rfl, ht, rs⟩ := rep_tup.mp r1
    exact ⟨a, xs, rfl, .inr ⟨ht.sq, o1.ok s1.rel _ (srcOk_enumT s1.rel hgt ht rs)⟩⟩
  | ref n =>
    simp only [srcEnum] at o1
    cases hl : M1.lst? n with
    | none => rw [hl] at o1; exact o1.elim
    | some ps =>
      rw [hl] at o1
      obtain ⟨a, ys, b1, b2, b3⟩ := s1.rel.list hl
      rw [r1.ref_of b1]
      exact ⟨a, ys, rfl, .inl ⟨b2, o1.ok s1.rel _ (srcOk_enumL s1.rel hgt b1)⟩⟩
  | _ => exact o1.elim
theorem i_zip (G : Gd X k cf fn S) (hx : x = "zip") (hg : glB S.sc x = true) (hs : notStar e = true) (hs2 : notStar e2 = true) (hgt : ∃ gs, g = .tup gs) (ht : ∃ xs kk pp, tg = .Tuple xs kk pp) (ha : PE X e (tE X.K w ea)) (hb : PE X e2 (tE X.K w eb)) :
    PI X tg (.Call (.Name x p) [e, e2] [] pos) (tI X.K w (fun σ M => (ea σ M).bind fun v M1 => (eb σ M1).bind fun u M2 => optR (srcZip v u M2) M2) g) := by
  subst hx
  obtain ⟨xs, kk, pp, rfl⟩ := ht
  refine PI.imp (pi_zipB (pos := pos) (p := p) (G.gl hg) (G.blt _ (by decide +kernel)) (pa_cons ha (pa_cons hb pa_nil (notStar_of hs2)) (notStar_of hs)) (notStar_of hs) (star_any pos (by rw [List.all_cons, hs2]; rfl))) fun σ H R h => ?_
  obtain ⟨mσ, β, M, Rh, Sl, o⟩ := h
  refine one Rh Sl o fun v y β1 M1 H1 s1 r1 S1 o1 => ?_
  refine one s1.rel S1 o1 fun u z β2 M2 H2 s2 r2 S2 o2 => ?_
  have r1 := s2.rep s1.rel r1
  cases v with
  | tup ps =>
    cases u with
    | tup qs =>
      obtain ⟨a, xs, rfl, ht, rs⟩ := rep_tup.mp r1
      obtain ⟨b, ys, rfl, ht2, rs2⟩ := rep_tup.mp r2
      exact ⟨a, b, xs, ys, rfl, .inr (.inl ⟨ht.sq, ht2.sq, o2.ok s2.rel _ (srcOk_zipT s2.rel hgt ht rs ht2 rs2)⟩)⟩
    | _ => exact o2.elim
  | ref n =>
    cases u with
    | ref m =>
      simp only [srcZip] at o2
      cases hl : M2.lst? n with
      | none => rw [hl] at o2; exact o2.elim
      | some ps =>
        rw [hl] at o2
        cases hl2 : M2.lst? m with
        | none => rw [hl2] at o2; exact o2.elim
        | some qs =>
          rw [hl2] at o2
          obtain ⟨a, ys, b1, b2, b3⟩ := s2.rel.list hl
          obtain ⟨b, zs, c1, c2, c3⟩ := s2.rel.list hl2
          rw [r1.ref_of b1, r2.ref_of c1]
          exact ⟨a, b, ys, zs, rfl, .inl ⟨b2, c2, o2.ok s2.rel _ (srcOk_zipL s2.rel hgt b1 c1)⟩⟩
    | tup qs =>
      simp only [srcZip] at o2
      cases hl : M2.lst? n with
      | none => rw [hl] at o2; exact o2.elim
      | some ps =>
        rw [hl] at o2
        obtain ⟨a, ys, b1, b2, b3⟩ := s2.rel.list hl
        obtain ⟨b, zs, rfl, ht2, rs2⟩ := rep_tup.mp r2
        rw [r1.ref_of b1]
        exact ⟨a, b, ys, zs, rfl, .inr (.inr ⟨b2, ht2.sq, o2.ok s2.rel _ (srcOk_zipM s2.rel hgt b1 ht2 rs2)⟩)⟩
    | _ => exact o2.elim
  | _ => exact o2.elim
end

/-! ### loops over what is there are loops over places -/
theorem forItems_src (g : MG) (body : Sv) (xs : List PV) : ∀ (n i : Nat) (σ : Mn.St) (M : Mem), i + n = xs.length → forItems g body (xs.drop i) σ M = forSrc g body (.items xs) (n + 1) i σ M
  | 0, i, σ, M, h => by
    rw [List.drop_of_length_le (by omega)]
    unfold forItems forSrc
    simp only [srcAt]
    rw [List.getElem?_eq_none (by omega)]
  | n + 1, i, σ, M, h => by
    have hi : i < xs.length := by omega
    rw [List.drop_eq_getElem_cons hi]
    unfold forItems forSrc
    simp only [srcAt]
    rw [List.getElem?_eq_getElem hi]
    simp only
    cases assignG g xs[i] σ with
    | none => rfl
    | some σ' =>
      simp only
      congr 1
      funext fl M'
      congr 1
      funext σ2 M2
      exact forItems_src g body xs n (i + 1) σ2 M2 (by omega)
theorem forRun_src (g : MG) (body : Sv) (s : Src) (σ : Mn.St) (M : Mem) : forRun g body s σ M = forSrc g body s (srcLen s M + 1) 0 σ M := by
  cases s with
  | items xs => exact forItems_src g body xs xs.length 0 σ M (by omega)
  | at1 n e => rfl
  | at2 n m => rfl
  | atT n m => rfl
theorem lcItems_src (own : List Nat) (g : MG) (cnd : Option Mn.Ev) (elt : Mn.Ev) (σ : Mn.St) (xs : List PV) : ∀ (n i : Nat) (acc : List PV) (M : Mem), i + n = xs.length → lcItems own g cnd elt σ (xs.drop i) acc M = lcSrc own g cnd elt σ (.items xs) (n + 1) i acc M
  | 0, i, acc, M, h => by
    rw [List.drop_of_length_le (by omega)]
    unfold lcItems lcSrc
    simp only [srcAt]
    rw [List.getElem?_eq_none (by omega)]
  | n + 1, i, acc, M, h => by
    have hi : i < xs.length := by omega
    rw [List.drop_eq_getElem_cons hi]
    unfold lcItems lcSrc
    simp only [srcAt]
    rw [List.getElem?_eq_getElem hi]
    simp only
    congr 1
    funext acc' M'
    exact lcItems_src own g cnd elt σ xs n (i + 1) acc' M' (by omega)
theorem lcRun_src (own : List Nat) (g : MG) (cnd : Option Mn.Ev) (elt : Mn.Ev) (σ : Mn.St) (s : Src) (M : Mem) :
    lcRun own g cnd elt σ s M = (lcSrc own g cnd elt σ s (srcLen s M + 1) 0 [] M).bind fun acc M' => .ok (.ref M'.sz) (M'.push (.lst acc)) := by
  cases s with
  | items xs =>
    unfold lcRun
    simp only
    rw [show lcItems own g cnd elt σ xs [] M = lcItems own g cnd elt σ (xs.drop 0) [] M from rfl, lcItems_src own g cnd elt σ xs xs.length 0 [] M (by omega)]
    rfl
  | at1 n e => rfl
  | at2 n m => rfl
  | atT n m => rfl
theorem inB_succ {s : Src} {i : Nat} {M : Mem} {v : PV} (h : srcAt s i M = some (some v)) : inB s (i + 1) := by
  cases s with
  | items xs =>
    have h : xs[i]? = some v := Option.some.inj h
    exact (List.getElem?_eq_some_iff.mp h).1
  | _ => trivial
end Mn
end
section
set_option Elab.async false
set_option linter.all false
set_option maxRecDepth 100000
set_option maxHeartbeats 4000000
namespace Mn
open PySem PySem.Spec PyProof.Rows L2

/-! ### a comprehension -/
section
variable {X : Cx} {w : WS} {own : List Nat} {g : MG}
/-- one turn: the target, the test, the element -/
theorem turn_lc {K : PySem.W.Frag} {cnd : Option Mn.Ev} {tt : TT} {elt : Mn.Ev} {mσ : Mn.St} {σ : L2.St} {β : List Addr} {M : Mem} {H : Hp} {v : PV} {x : V} {acc : List PV} {k : List PV → List Addr → Mem → Hp → Prop} {Nx : Hp → Prop} {te : TE} {D : Addr}
    (hc : ∀ mσ' σ' β' M' H' (Q : Bool → Hp → Prop), RelH K β' M' H' → RelS K H' β' mσ' σ' → Out K β' M' H' (match cnd with | none => Res.ok true M' | some c => (c mσ' M').bind truth) (kB Q) (fun _ _ _ _ => False) → tt σ' H' Q)
    (he : ∀ σ' H' Q, tE K (fun _ _ _ _ _ => False) elt σ' H' Q → te σ' H' Q)
    (hg : g.slots.all (fun i => own.contains i) = true) (R : RelH K β M H) (Sl : RelS K H β mσ σ) (hr : ∀ mσ', assignG g v (wipe mσ own) = some mσ' → RepG K H β g v x)
    (o : Out K β M H (lcTurn own g cnd elt mσ v acc M) k (fun _ _ _ _ => False))
    (hD : ∀ β' M' H', Stp K β M H β' M' H' → ∃ ys, H' D = some (.lst ys) ∧ (∀ n zs, M'.get n = some (.lst zs) → β'[n]? ≠ some D) ∧ Reps K H' β' acc ys ∧ acc.length = ys.length)
    (hn : ∀ β' M' H', Stp K β M H β' M' H' → k acc β' M' H' → Nx H')
    (hy : ∀ β' M' H' u y ys, Stp K β M H β' M' H' → H' D = some (.lst ys) → Rep K H' β' u y → k (acc ++ [u]) β' M' H' → Nx (upd H' D (.lst (ys ++ [y])))) :
    gT K g x (L2.wipe σ own) H fun σ2 H2 => L2.wipe σ2 own = L2.wipe σ own ∧ tt σ2 H2 fun b H3 => if b = true then te σ2 H3 fun y H4 => ∃ ac, H4 D = some (.lst ac) ∧ ac.length < sizeLine ∧ Nx (upd H4 D (.lst (ac ++ [y]))) else Nx H3 := by
  unfold lcTurn at o
  cases ha : assignG g v (wipe mσ own) with
  | none => rw [ha] at o; exact o.elim
  | some mσ' =>
    rw [ha] at o
    simp only at o
    refine assign_ok ha (hr mσ' ha) (Sl.wipe own) fun σ2 S2 w2 => ?_
    have hslots : ∀ i ∈ g.slots, i ∈ own := fun i hi => by
      have := List.all_eq_true.mp hg i hi
      simpa using this
    refine ⟨?_, ?_⟩
    · rw [w2 own hslots]
      -- forgetting twice is forgetting
      have key : ∀ vs : List Nat, (∀ i ∈ vs, i ∈ own) → L2.wipe (L2.wipe σ vs) own = L2.wipe σ own := by
        intro vs
        induction vs with
        | nil => intro _; rfl
        | cons u vs ih =>
          intro hv
          show L2.wipe ((L2.wipe σ vs).set u none) own = _
          rw [wipe_set (hv u List.mem_cons_self), ih fun i hi => hv i (List.mem_cons_of_mem _ hi)]
      exact key own fun _ h => h
    · refine hc mσ' σ2 β M H _ R S2 ((o.bind R).imp (fun b β1 M1 H1 s1 q => ?_) fun _ _ _ _ _ q => q)
      cases b with
      | true =>
        show if (true : Bool) = true then te σ2 H1 (fun y H4 => ∃ ac, H4 D = some (.lst ac) ∧ ac.length < sizeLine ∧ Nx (upd H4 D (.lst (ac ++ [y])))) else Nx H1
        rw [if_pos rfl]
        rw [if_pos rfl] at q
        refine he σ2 H1 _ ?_
        obtain ⟨mσ3, β3, M3, R3, S3, o3⟩ := tE_stepT (w := fun _ _ _ _ _ => False) (σ := σ2) s1.rel (S2.stp R s1) q
        refine ⟨mσ3, β3, M3, R3, S3, o3.imp (fun u β4 M4 H4 s4 q4 y ry => ?_) fun _ _ _ _ _ q => q⟩
        obtain ⟨u', β5, M5, s5, r5, o5⟩ := q4 y ry
        by_cases hz : acc.length < LIM
        · rw [if_pos hz] at o5
          have s15 := s1.trans s5 R
          obtain ⟨ys, d1, d2, d3, d4⟩ := hD _ _ _ s15
          exact ⟨ys, d1, by rw [← d4, ← LIM_eq]; exact hz, hy _ _ _ u' y ys s15 d1 r5 (o5.ok s5.rel)⟩
        · rw [if_neg hz] at o5; exact o5.elim
      | false =>
        show if (false : Bool) = true then te σ2 H1 (fun y H4 => ∃ ac, H4 D = some (.lst ac) ∧ ac.length < sizeLine ∧ Nx (upd H4 D (.lst (ac ++ [y])))) else Nx H1
        rw [if_neg Bool.false_ne_true]
        rw [if_neg Bool.false_ne_true] at q
        exact hn _ _ _ s1 (q.ok s1.rel)
end

/-! ### a list in the making, out of sight -/
def er (D : Addr) (H : Hp) : Hp := fun a => if a = D then none else H a
theorem er_same {D : Addr} {H : Hp} : er D H D = none := by unfold er; rw [if_pos rfl]
theorem er_ne {D a : Addr} {H : Hp} (h : a ≠ D) : er D H a = H a := by unfold er; rw [if_neg h]
theorem er_some {D a : Addr} {H : Hp} {o : HO} (h : er D H a = some o) : a ≠ D ∧ H a = some o := by
  by_cases e : a = D
  · rw [e, er_same] at h; cases h
  · rw [er_ne e] at h; exact ⟨e, h⟩
theorem er_upd {D : Addr} {H : Hp} {o : HO} (h : H D = some o) : upd (er D H) D o = H := by
  funext a
  by_cases e : a = D
  · rw [e, upd_same, h]
  · rw [upd_ne e, er_ne e]
theorem er_upd2 {D : Addr} {H : Hp} {o : HO} : er D (upd H D o) = er D H := by
  funext a
  by_cases e : a = D
  · rw [e, er_same, er_same]
  · rw [er_ne e, er_ne e, upd_ne e]
theorem er_new {D : Addr} {H : Hp} (h : H D = none) : er D H = H := by
  funext a
  by_cases e : a = D
  · rw [e, er_same, h]
  · rw [er_ne e]
def unD (β : List Addr) (M : Mem) (D : Addr) : Prop := ∀ n zs, M.get n = some (.lst zs) → β[n]? ≠ some D
section
variable {K : PySem.W.Frag} {β β' : List Addr} {M M' : Mem} {H H' : Hp} {D : Addr} {ys : List V}
theorem er_tup {a : Addr} {xs : List V} (hD : H D = some (.lst ys)) (h : Tup K H a xs) : Tup K (er D H) a xs := by
  rcases h with ⟨o, h, d⟩ | h
  · exact .inl ⟨o, by rw [er_ne (ne_of h hD (by intro e; cases e))]; exact h, d⟩
  · exact .inr h
theorem un_tup {a : Addr} {xs : List V} (h : Tup K (er D H) a xs) : Tup K H a xs := by
  rcases h with ⟨o, h, d⟩ | h
  · exact .inl ⟨o, (er_some h).2, d⟩
  · exact .inr h
theorem er_rol {a : Addr} {xs : List V} (hD : H D = some (.lst ys)) (h : Rol K H a xs) : Rol K (er D H) a xs := by
  rcases h with ⟨o, h⟩ | h
  · exact .inl ⟨o, by rw [er_ne (ne_of h hD (by intro e; cases e))]; exact h⟩
  · exact .inr h
theorem un_rol {a : Addr} {xs : List V} (h : Rol K (er D H) a xs) : Rol K H a xs := by
  rcases h with ⟨o, h⟩ | h
  · exact .inl ⟨o, (er_some h).2⟩
  · exact .inr h
theorem er_reps {ps : List PV} {xs : List V} (hD : H D = some (.lst ys)) (h : Reps K H β ps xs) : Reps K (er D H) β ps xs := h.mono (fun _ _ => er_tup hD) fun _ _ h => h
theorem un_reps {ps : List PV} {xs : List V} (h : Reps K (er D H) β ps xs) : Reps K H β ps xs := h.mono (fun _ _ => un_tup) fun _ _ h => h
theorem er_rel (hD : H D = some (.lst ys)) (hn : unD β M D) (R : RelH K β M H) : RelH K β M (er D H) :=
  ⟨R.len, R.olen, R.inj, fun n ob e => by
    obtain ⟨a, e1, e2⟩ := R.obj n ob e
    refine ⟨a, e1, ?_⟩
    cases ob with
    | lst xs =>
      obtain ⟨zs, e3, e4⟩ := e2
      have hne : a ≠ D := fun z => hn n xs e (z ▸ e1)
      exact ⟨zs, by rw [er_ne hne]; exact e3, er_reps hD e4⟩
    | rol xs =>
      obtain ⟨zs, e3, e4⟩ := e2
      exact ⟨zs, er_rol hD e3, er_reps hD e4⟩⟩
theorem un_rel (R : RelH K β M (er D H)) : RelH K β M H ∧ unD β M D :=
  ⟨⟨R.len, R.olen, R.inj, fun n ob e => by
    obtain ⟨a, e1, e2⟩ := R.obj n ob e
    refine ⟨a, e1, ?_⟩
    cases ob with
    | lst xs =>
      obtain ⟨zs, e3, e4⟩ := e2
      exact ⟨zs, (er_some e3).2, un_reps e4⟩
    | rol xs =>
      obtain ⟨zs, e3, e4⟩ := e2
      exact ⟨zs, un_rol e3, un_reps e4⟩⟩, fun n zs e z => by
    obtain ⟨a, e1, ws, e2, _⟩ := R.obj n _ e
    rw [z] at e1; cases e1
    rw [er_same] at e2; cases e2⟩
/-- a step leaves D as it is, and is a step without it -/
theorem er_stp (hD : H D = some (.lst ys)) (hn : unD β M D) (R : RelH K β M H) (s : Stp K β M H β' M' H') : Stp K β M (er D H) β' M' (er D H') ∧ H' D = some (.lst ys) ∧ unD β' M' D := by
  have hD' := s.frame D _ hD hn
  have hn' : unD β' M' D := fun n zs e z => by
    by_cases hl : n < M.sz
    · obtain ⟨ws, e2⟩ := s.kind n zs hl e
      obtain ⟨b, e3, _⟩ := R.obj n _ e2
      have := s.pre n b e3
      rw [z] at this; cases this
      exact hn n ws e2 e3
    · have := s.fresh n zs D (by omega) e z
      rw [hD] at this; cases this
  refine ⟨⟨er_rel hD' hn' s.rel, s.pre, s.szle, fun a o h hl => ?_, s.kind, s.kind2, fun n xs a h1 h2 h3 => ?_, s.esc, s.clo⟩, hD', hn'⟩
  · obtain ⟨h1, h2⟩ := er_some h
    rw [er_ne h1]
    exact s.frame a o h2 hl
  · have := s.fresh n xs a h1 h2 h3
    by_cases e : a = D
    · rw [e]; exact er_same
    · rw [er_ne e]; exact this
theorem Out.er {α : Type} {r : Res α} {k : α → List Addr → Mem → Hp → Prop} (hD : H D = some (.lst ys)) (hn : unD β M D) (R : RelH K β M H) (o : Out K β M (Mn.er D H) r k (fun _ _ _ _ => False)) :
    Out K β M H r (fun a β' M' H' => k a β' M' (Mn.er D H')) (fun _ _ _ _ => False) := by
  cases r with
  | ok a M1 => exact fun β' H' s => o β' _ (er_stp hD hn R s).1
  | exc a M1 => exact fun β' H' s => o β' _ (er_stp hD hn R s).1
  | stuck => exact o
end
section
variable {X : Cx} {own : List Nat} {g : MG} {elt tg iter : Expr} {ifs : List Expr} {scope : Scope} {pos : Pos} {evI : Mn.St → Mem → Res Src} {cnd : Option Mn.Ev} {tt : TT} {ee : Mn.Ev}
theorem lc_read {σ : L2.St} {H : Hp} {Q : VK}
    (hc : ∀ mσ' σ' β' M' H' (Q : Bool → Hp → Prop), RelH X.K β' M' H' → RelS X.K H' β' mσ' σ' → Out X.K β' M' H' (match cnd with | none => Res.ok true M' | some c => (c mσ' M').bind truth) (kB Q) (fun _ _ _ _ => False) → tt σ' H' Q)
    (hg : g.slots.all (fun i => own.contains i) = true)
    (h : tE X.K w0 (fun σ M => (evI σ M).bind fun s M1 => lcRun own g cnd ee σ s M1) σ H Q) : tLc (tI X.K w0 evI g) (gT X.K g) tt (tE X.K w0 ee) own σ H Q := by
  obtain ⟨mσ, β, M, R, Sl, o⟩ := h
  refine ⟨mσ, β, M, R, Sl, (o.bind R).imp (fun s β1 M1 H1 s1 q J hJ D hDn => ?_) fun _ _ _ _ _ q => q⟩
  rw [lcRun_src] at q
  have S1 := Sl.stp R s1
  refine ⟨fun i m Hc => ∃ β2 M2 acc ys, m = m ∧ inB s i ∧ Hc D = some (.lst ys) ∧ Stp X.K β1 M1 H1 β2 M2 (er D Hc) ∧ Reps X.K (er D Hc) β2 acc ys ∧
    Out X.K β2 M2 (er D Hc) ((lcSrc own g cnd ee mσ s m i acc M2).bind fun acc M' => .ok (.ref M'.sz) (M'.push (.lst acc))) (kQ X.K Q) (w0 σ), ⟨srcLen s M1 + 1, β1, M1, [], [], rfl, by cases s <;> simp [inB], upd_same, ?_, ?_, ?_⟩, ?_⟩
  · rw [er_upd2, er_new hDn]; exact .refl s1.rel
  · exact reps_nil.mpr rfl
  · rw [er_upd2, er_new hDn]; exact q
  · rintro i m Hc ⟨β2, M2, acc, ys, _, hb, hD, s2, ra, o2⟩
    obtain ⟨R2, hn2⟩ := un_rel s2.rel
    have hper : Per X.K β1 H1 β2 M2 Hc := ⟨R2, s2.pre, fun h => un_tup (s2.tup s1.rel h)⟩
    cases m with
    | zero => unfold lcSrc at o2; exact o2.elim
    | succ m =>
      unfold lcSrc at o2
      cases hs : srcAt s i M2 with
      | none => rw [hs] at o2; exact o2.elim
      | some ov =>
        rw [hs] at o2
        cases ov with
        | none =>
          simp only at o2
          have o2 : Out X.K β2 M2 (er D Hc) (.ok (.ref M2.sz) (M2.push (.lst acc))) (kQ X.K Q) (w0 σ) := o2
          refine .inl ⟨hJ.stop i β2 M2 Hc hper hb hs, ?_⟩
          have := o2.lst s2.rel ra er_same
          rw [er_upd hD] at this
          exact this
        | some v =>
          simp only [assoc3] at o2
          have o3 := (o2.bind s2.rel).er hD hn2 R2
          obtain ⟨hgo, hyl⟩ := hJ.go i β2 M2 Hc v hper hs
          have Sc : RelS X.K Hc β2 mσ σ := ⟨S1.1, fun j u e => by
            obtain ⟨x, e1, r⟩ := S1.2 j u e
            exact ⟨x, e1, r.mono (fun _ _ => hper.tup) hper.pre⟩⟩
          refine .inr ⟨hgo, fun H' => ∃ m', m' < m + 1 ∧ ∃ β3 M3 acc' ys', m' = m' ∧ inB s (i + 1) ∧ H' D = some (.lst ys') ∧ Stp X.K β1 M1 H1 β3 M3 (er D H') ∧ Reps X.K (er D H') β3 acc' ys' ∧
            Out X.K β3 M3 (er D H') ((lcSrc own g cnd ee mσ s m' (i + 1) acc' M3).bind fun acc M' => .ok (.ref M'.sz) (M'.push (.lst acc))) (kQ X.K Q) (w0 σ), fun H' h => h, fun x H' hy => ?_⟩
          obtain ⟨sy, hrg⟩ := hyl x H' hy
          obtain ⟨sE, hD', hn'⟩ := er_stp hD hn2 R2 sy
          -- at the pair's heap
          have o4 : Out X.K β2 M2 H' (lcTurn own g cnd ee mσ v acc M2) (fun a β' M' H'' => Out X.K β' M' (er D H'') ((lcSrc own g cnd ee mσ s m (i + 1) a M').bind fun acc M' => .ok (.ref M'.sz) (M'.push (.lst acc))) (kQ X.K Q) (w0 σ)) (fun _ _ _ _ => False) := by
            revert o3
            cases lcTurn own g cnd ee mσ v acc M2 with
            | ok b M3 => exact fun o β3 H3 u => o β3 H3 (sy.trans u R2)
            | exc b M3 => exact fun o β3 H3 u => o β3 H3 (sy.trans u R2)
            | stuck => exact fun o => o
          refine turn_lc hc (fun _ _ _ h => h) hg sy.rel (Sc.stp R2 sy) (fun mσ' ha => hrg _ _ ha) o4 (fun β' M' H'' s' => ?_) (fun β' M' H'' s' q => ?_) (fun β' M' H'' u y ys2 s' hd2 ru q => ?_)
          · obtain ⟨_, h1, h2⟩ := er_stp hD' hn' sy.rel s'
            have ra2 : Reps X.K H'' β' acc ys := (s'.reps sy.rel (sy.reps R2 (un_reps ra)))
            exact ⟨ys, h1, h2, ra2, ra2.length⟩
          · obtain ⟨e1, h1, h2⟩ := er_stp hD' hn' sy.rel s'
            have ra2 : Reps X.K H'' β' acc ys := (s'.reps sy.rel (sy.reps R2 (un_reps ra)))
            exact ⟨m, Nat.lt_succ_self _, β', M', acc, ys, rfl, inB_succ hs, h1, (s2.trans sE s1.rel).trans e1 s1.rel, er_reps h1 ra2, q⟩
          · obtain ⟨e1, h1, h2⟩ := er_stp hD' hn' sy.rel s'
            have ra2 : Reps X.K H'' β' acc ys := (s'.reps sy.rel (sy.reps R2 (un_reps ra)))
            rw [h1] at hd2; cases hd2
            refine ⟨m, Nat.lt_succ_self _, β', M', acc ++ [u], ys ++ [y], rfl, inB_succ hs, upd_same, ?_, ?_, ?_⟩
            · rw [er_upd2]; exact (s2.trans sE s1.rel).trans e1 s1.rel
            · rw [er_upd2]; exact er_reps h1 (ra2.append (.one ru))
            · rw [er_upd2]; exact q
theorem s_lc (hc0 : X.calm = true) (hN : X.N.Nodup) (hI : PI X tg iter (tI X.K w0 evI g)) (ok : BlkOk X.N X.env.scope scope (ownP X.N own))
    (hG : ∀ (s : Shared) (H : Hp) (C : Addr) (cl : List (Str × Addr)) (fp : List Addr), PG (X.blk s H scope (compEnvC scope cl C X.env) fp) tg (gT X.K g))
    (hT : ∀ (s : Shared) (H : Hp) (C : Addr) (cl : List (Str × Addr)) (fp : List Addr), PTs (X.blk s H scope (compEnvC scope cl C X.env) fp) ifs tt)
    (hE : ∀ (s : Shared) (H : Hp) (C : Addr) (cl : List (Str × Addr)) (fp : List Addr), PE (X.blk s H scope (compEnvC scope cl C X.env) fp) elt (tE X.K w0 ee))
    (hc : ∀ mσ' σ' β' M' H' (Q : Bool → Hp → Prop), RelH X.K β' M' H' → RelS X.K H' β' mσ' σ' → Out X.K β' M' H' (match cnd with | none => Res.ok true M' | some c => (c mσ' M').bind truth) (kB Q) (fun _ _ _ _ => False) → tt σ' H' Q)
    (hg : g.slots.all (fun i => own.contains i) = true) (hs : ∀ x, foldedSetIterable iter X.env x = pure x) :
    PE X (.ListComp elt [⟨tg, iter, ifs, 0⟩] scope pos) (tE X.K w0 (fun σ M => (evI σ M).bind fun s M1 => lcRun own g cnd ee σ s M1)) := by
  refine PE.imp (pe_lc hc0 hN hI ok hG hT hE hs) fun σ H Q h => ?_
  have e : (ownP X.N own).map (·.2) = own := by
    unfold ownP
    rw [List.map_map]
    exact List.map_id' own
  rw [e]
  exact lc_read hc hg h
end
end Mn
end
section
set_option Elab.async false
set_option linter.all false
set_option maxRecDepth 100000
set_option maxHeartbeats 4000000
namespace Mn
open PySem PySem.Spec PyProof.Rows L2

/-! ### statements -/
def kS (K : PySem.W.Frag) (D : Ends) : Flow → List Addr → Mem → Hp → Prop := fun fl β' _ H' =>
  match fl with
  | .next mσ => ∀ σ, RelS K H' β' mσ σ → D.nx σ H'
  | .ret v => ∀ x, Rep K H' β' v x → D.rt x H'
  | .brk mσ => ∀ σ, RelS K H' β' mσ σ → D.bk σ H'
  | .cont mσ => ∀ σ, RelS K H' β' mσ σ → D.ct σ H'
def tSt (K : PySem.W.Frag) (ev : Sv) : TS := fun D σ H => ∃ mσ β M, RelH K β M H ∧ RelS K H β mσ σ ∧ Out K β M H (ev mσ M) (kS K D) (fun _ _ _ _ => False)
section
variable {X : Cx} {e e2 tg iter c : Expr} {es : List Expr} {body b1 b2 : List Stmt} {pos : Pos} {x : Str} {ea eb ec : Mn.Ev} {sv sv1 sv2 : Sv} {g : MG} {evI : Mn.St → Mem → Res Src}

theorem st_raise {st : Stmt} : PS X st (tSt X.K sRaise) := ⟨fun pins s σ H D I h => by
  obtain ⟨mσ, β, M, R, Sl, o⟩ := h
  exact o.elim⟩
theorem st_nil : PSs X [] (tSt X.K (fun σ M => .ok (.next σ) M)) := by
  refine PSs.imp pss_nil fun D σ H h => ?_
  obtain ⟨mσ, β, M, R, Sl, o⟩ := h
  exact o.ok R σ Sl
theorem st_cons {st : Stmt} {rest : List Stmt} (h1 : PS X st (tSt X.K sv1)) (h2 : PSs X rest (tSt X.K sv2)) : PSs X (st :: rest) (tSt X.K (fun σ M => (sv1 σ M).bind fun f M1 => match f with | .next σ' => sv2 σ' M1 | f => .ok f M1)) := by
  refine PSs.imp (pss_cons h1 h2) fun D σ H h => ?_
  obtain ⟨mσ, β, M, R, Sl, o⟩ := h
  refine ⟨mσ, β, M, R, Sl, (o.bind R).imp (fun fl β1 M1 H1 s1 q => ?_) fun _ _ _ _ _ q => q⟩
  cases fl with
  | next mσ1 => exact fun σ1 S1 => ⟨mσ1, β1, M1, s1.rel, S1, q⟩
  | ret v => exact (show kS X.K D (.ret v) β1 M1 H1 from Out.ok (w := fun _ _ _ _ => False) s1.rel q)
  | brk mσ1 => exact (show kS X.K D (.brk mσ1) β1 M1 H1 from Out.ok (w := fun _ _ _ _ => False) s1.rel q)
  | cont mσ1 => exact (show kS X.K D (.cont mσ1) β1 M1 H1 from Out.ok (w := fun _ _ _ _ => False) s1.rel q)
theorem st_pass : PS X (.Pass pos) (tSt X.K (fun σ M => .ok (.next σ) M)) := by
  refine PS.imp ps_pass fun D σ H h => ?_
  obtain ⟨mσ, β, M, R, Sl, o⟩ := h
  exact o.ok R σ Sl
theorem st_brk : PS X (.Break pos) (tSt X.K (fun σ M => .ok (.brk σ) M)) := by
  refine PS.imp ps_break fun D σ H h => ?_
  obtain ⟨mσ, β, M, R, Sl, o⟩ := h
  exact o.ok R σ Sl
theorem st_cont : PS X (.Continue pos) (tSt X.K (fun σ M => .ok (.cont σ) M)) := by
  refine PS.imp ps_continue fun D σ H h => ?_
  obtain ⟨mσ, β, M, R, Sl, o⟩ := h
  exact o.ok R σ Sl
theorem st_asg {i : Nat} {px : Pos} (hN : X.N.Nodup) (hi : X.N[i]? = some x) (hl : Loc X.env.scope x ∧ (X.fn x = true ∨ X.env.scope.names.lookup x = some .local)) (hs : swapsWith e (some (.Name x px)) pos.line X.env = pure false) (he : PE X e (tE X.K w0 ea)) :
    PS X (.Assign [.Name x px] e pos) (tSt X.K (fun σ M => (trim M (ea σ M)).bind fun v M1 => .ok (.next (σ.set i (some v))) M1)) := by
  refine PS.imp (ps_set hN hi hl.1 he hs hl.2) fun D σ H h => ?_
  obtain ⟨mσ, β, M, R, Sl, o⟩ := h
  refine oneT (w := w0) R Sl o fun v y β1 M1 H1 s1 r1 S1 o1 => ?_
  exact o1.ok s1.rel _ (S1.set r1)
theorem st_ret (he : PE X e (tE X.K w0 ea)) : PS X (.Return (some e) pos) (tSt X.K (fun σ M => (trim M (ea σ M)).bind fun v M1 => .ok (.ret v) M1)) := by
  refine PS.imp (ps_ret he) fun D σ H h => ?_
  obtain ⟨mσ, β, M, R, Sl, o⟩ := h
  refine oneT (w := w0) R Sl o fun v y β1 M1 H1 s1 r1 S1 o1 => ?_
  exact o1.ok s1.rel y r1
theorem st_expr (hs : swapsWith e none pos.line X.env = pure false) (he : PE X e (tE X.K w0 ea)) : PS X (.Expr e pos) (tSt X.K (fun σ M => (trim M (ea σ M)).bind fun _ M1 => .ok (.next σ) M1)) := by
  refine PS.imp (ps_expr he hs) fun D σ H h => ?_
  obtain ⟨mσ, β, M, R, Sl, o⟩ := h
  refine oneT (w := w0) R Sl o fun v y β1 M1 H1 s1 r1 S1 o1 => ?_
  exact o1.ok s1.rel σ S1
theorem st_asgT {ts : List Expr} {kk : Nat} {pt : Pos} (hg : PG X (.Tuple ts kk pt) (gT X.K g)) (hs : swapsWithSole [.Tuple ts kk pt] e pos.line X.env = pure false) (hw : swappedStores [.Tuple ts kk pt] e X.env = pure none) (he : PE X e (tE X.K w0 ea)) :
    PS X (.Assign [.Tuple ts kk pt] e pos) (tSt X.K (fun σ M => (trim M (ea σ M)).bind fun v M1 => (optR (assignG g v σ) M1).bind fun σ' M2 => .ok (.next σ') M2)) := by
  refine PS.imp (ps_asg he hg hs hw) fun D σ H h => ?_
  obtain ⟨mσ, β, M, R, Sl, o⟩ := h
  refine oneT (w := w0) R Sl o fun v y β1 M1 H1 s1 r1 S1 o1 => ?_
  cases ha : assignG g v mσ with
  | none => rw [ha] at o1; exact o1.elim
  | some mσ' =>
    rw [ha] at o1
    exact assign_ok ha (r1.g (assign_tup ha)) S1 fun σ' S' _ => o1.ok s1.rel σ' S'
theorem st_par {i j : Nat} {y : Str} {a b : Expr} {eA : EvL} {px py pt pt2 : Pos} {kt k2} (hc : X.calm = true) (hN : X.N.Nodup) (hi : X.N[i]? = some x) (hj : X.N[j]? = some y) (hij : i ≠ j)
    (hx : X.env.scope.names.lookup x = some .local) (hy : X.env.scope.names.lookup y = some .local) (hw : swappedStores [.Tuple [.Name x px, .Name y py] kt pt] (.Tuple [a, b] k2 pt2) X.env = pure (some [x, y])) (ha : PA X [a, b] (tAs X.K w0 eA)) :
    PS X (.Assign [.Tuple [.Name x px, .Name y py] kt pt] (.Tuple [a, b] k2 pt2) pos) (tSt X.K (sPar i j eA)) := by
  refine PS.imp (ps_par hc hN hi hj hij hx hy ha hw) fun D σ H h => ?_
  obtain ⟨mσ, β, M, R, Sl, o⟩ := h
  refine oneA (w := w0) R Sl o fun vs xs β1 M1 H1 s1 r1 S1 o1 => ?_
  match vs, r1, o1 with
  | [], _, o1 => exact o1.elim
  | [_], _, o1 => exact o1.elim
  | _ :: _ :: _ :: _, _, o1 => exact o1.elim
  | [v, u], r1, o1 =>
    obtain ⟨x1, x2, rfl, q1, q2⟩ := reps2 r1
    exact ⟨x1, x2, rfl, o1.ok s1.rel _ ((S1.set q1).set q2)⟩
theorem st_par3 {i j l : Nat} {y z : Str} {a b c : Expr} {eA : EvL} {px py pz pt pt2 : Pos} {kt k2} (hc : X.calm = true) (hN : X.N.Nodup) (hi : X.N[i]? = some x) (hj : X.N[j]? = some y) (hl : X.N[l]? = some z) (hij : i ≠ j) (hil : i ≠ l) (hjl : j ≠ l)
    (hx : X.env.scope.names.lookup x = some .local) (hy : X.env.scope.names.lookup y = some .local) (hz : X.env.scope.names.lookup z = some .local)
    (hw : swappedStores [.Tuple [.Name x px, .Name y py, .Name z pz] kt pt] (.Tuple [a, b, c] k2 pt2) X.env = pure (some [x, y, z])) (ha : PA X [a, b, c] (tAs X.K w0 eA)) :
    PS X (.Assign [.Tuple [.Name x px, .Name y py, .Name z pz] kt pt] (.Tuple [a, b, c] k2 pt2) pos) (tSt X.K (sPar3 i j l eA)) := by
  refine PS.imp (ps_par3 hc hN hi hj hl hij hil hjl hx hy hz ha hw) fun D σ H h => ?_
  obtain ⟨mσ, β, M, R, Sl, o⟩ := h
  refine oneA (w := w0) R Sl o fun vs xs β1 M1 H1 s1 r1 S1 o1 => ?_
  match vs, r1, o1 with
  | [], _, o1 => exact o1.elim
  | [_], _, o1 => exact o1.elim
  | [_, _], _, o1 => exact o1.elim
  | _ :: _ :: _ :: _ :: _, _, o1 => exact o1.elim
  | [v, u, t], r1, o1 =>
    obtain ⟨x1, r2, rfl, q1, r2'⟩ := reps_cons.mp r1
    obtain ⟨x2, x3, rfl, q2, q3⟩ := reps2 r2'
    exact ⟨x1, x2, x3, rfl, o1.ok s1.rel _ (((S1.set q1).set q2).set q3)⟩
theorem st_setix {o i : Expr} {eo ei : Mn.Ev} {p2 : Pos} (hs : swapsWithSole [.Subscript o i p2] e pos.line X.env = pure false) (hw : swappedStores [.Subscript o i p2] e X.env = pure none) (hg : PG X (.Subscript o i p2) (gSub (tE X.K w0 eo) (tE X.K w0 ei) (rSetM X.K))) (he : PE X e (tE X.K w0 ea)) :
    PS X (.Assign [.Subscript o i p2] e pos) (tSt X.K (fun σ M => (trim M (ea σ M)).bind fun v M1 => (eo σ M1).bind fun ov M2 => (ei σ M2).bind fun iv M3 => (setM ov iv v M3).bind fun _ M4 => .ok (.next σ) M4)) := by
  refine PS.imp (ps_asg he hg hs hw) fun D σ H h => ?_
  obtain ⟨mσ, β, M, R, Sl, o⟩ := h
  refine oneT (w := w0) R Sl o fun v y β1 M1 H1 s1 r1 S1 o1 => ?_
  refine one (w := w0) s1.rel S1 o1 fun ov z β2 M2 H2 s2 r2 S2 o2 => ?_
  refine one (w := w0) s2.rel S2 o2 fun iv u β3 M3 H3 s3 r3 S3 o3 => ?_
  refine ⟨ov, iv, v, β3, M3, _, s3.rel, s3.rep s2.rel r2, r3, s3.rep s2.rel (s2.rep s1.rel r1), (o3.bind s3.rel).imp (fun _ β4 M4 H4 s4 q => ?_) fun _ _ _ _ _ q => q⟩
  exact q.ok s4.rel σ (S3.stp s3.rel s4)
/-- one store, and what comes behind it -/
theorem sub_ok {eo ei : Mn.Ev} {v : PV} {y : V} {mσ : Mn.St} {σ : L2.St} {β : List Addr} {M : Mem} {H : Hp} {γ : Type} {f : Flow → Mem → Res γ} {kk : γ → List Addr → Mem → Hp → Prop} {Q : L2.St → Hp → Prop} (R : RelH X.K β M H) (Sl : RelS X.K H β mσ σ) (r : Rep X.K H β v y)
    (o' : Out X.K β M H ((sSet eo ei v mσ M).bind f) kk (w0 σ)) (hq : ∀ β1 M1 H1, Stp X.K β M H β1 M1 H1 → RelS X.K H1 β1 mσ σ → Out X.K β1 M1 H1 (f (.next mσ) M1) kk (w0 σ) → Q σ H1) :
    gSub (tE X.K w0 eo) (tE X.K w0 ei) (rSetM X.K) y σ H Q := by
  have e : (sSet eo ei v mσ M).bind f = (eo mσ M).bind fun ov M2 => (ei mσ M2).bind fun iv M3 => (setM ov iv v M3).bind fun _ M4 => f (.next mσ) M4 := by
    unfold sSet
    cases eo mσ M with
    | ok ov M2 =>
      show (Res.bind (Res.bind (ei mσ M2) _) f) = Res.bind (ei mσ M2) _
      cases ei mσ M2 with
      | ok iv M3 =>
        show (Res.bind (Res.bind (setM ov iv v M3) _) f) = Res.bind (setM ov iv v M3) _
        cases setM ov iv v M3 <;> rfl
      | exc _ _ => rfl
      | stuck => rfl
    | exc _ _ => rfl
    | stuck => rfl
  rw [e] at o'
  refine one (w := w0) R Sl o' fun ov z β2 M2 H2 s2 r2 S2 o2 => ?_
  refine one (w := w0) s2.rel S2 o2 fun iv u β3 M3 H3 s3 r3 S3 o3 => ?_
  refine ⟨ov, iv, v, β3, M3, _, s3.rel, s3.rep s2.rel r2, r3, s3.rep s2.rel (s2.rep R r), (o3.bind s3.rel).imp (fun _ β4 M4 H4 s4 q => ?_) fun _ _ _ _ _ q => q⟩
  exact hq β4 M4 H4 ((s2.trans s3 R).trans s4 R) (S3.stp s3.rel s4) q
theorem st_swp {o i o2 i2 : Expr} {eo ei eo2 ei2 : Mn.Ev} {p1 p2 pt : Pos} {kt} (hc : X.calm = true) (hs : swapsWithSole [.Tuple [.Subscript o i p1, .Subscript o2 i2 p2] kt pt] e pos.line X.env = pure false) (hw : swappedStores [.Tuple [.Subscript o i p1, .Subscript o2 i2 p2] kt pt] e X.env = pure none)
    (h1 : PG X (.Subscript o i p1) (gSub (tE X.K w0 eo) (tE X.K w0 ei) (rSetM X.K))) (h2 : PG X (.Subscript o2 i2 p2) (gSub (tE X.K w0 eo2) (tE X.K w0 ei2) (rSetM X.K))) (he : PE X e (tE X.K w0 ea)) :
    PS X (.Assign [.Tuple [.Subscript o i p1, .Subscript o2 i2 p2] kt pt] e pos) (tSt X.K (sSwp eo ei eo2 ei2 ea)) := by
  refine PS.imp (ps_asg he (pg_tup hc (pgs_cons h1 (pgs_cons h2 pgs_nil))) hs hw) fun D σ H h => ?_
  obtain ⟨mσ, β, M, R, Sl, o⟩ := h
  refine one (w := w0) R Sl o fun v y β1 M1 H1 s1 r1 S1 o1 => ?_
  cases v with
  | tup ps =>
    obtain ⟨a, xs, rfl, ht, rs⟩ := rep_tup.mp r1
    match ps, rs, o1 with
    | [v, u], rs, o1 =>
      obtain ⟨x1, x2, rfl, q1, q2⟩ := reps2 rs
      refine ⟨a, _, rfl, ht.sq, rfl, x1, [x2], rfl, ?_⟩
      refine sub_ok s1.rel S1 q1 o1 fun β2 M2 H2 s2 S2 o2 => ?_
      refine ⟨x2, [], rfl, ?_⟩
      have o2' : Out X.K β2 M2 H2 ((sSet eo2 ei2 u mσ M2).bind fun f M3 => .ok f M3) (kS X.K D) (w0 σ) := by
        have e0 : (sSet eo2 ei2 u mσ M2).bind (fun f M3 => .ok f M3) = sSet eo2 ei2 u mσ M2 := by cases sSet eo2 ei2 u mσ M2 <;> rfl
        rw [e0]; exact o2
      exact sub_ok s2.rel S2 (s2.rep s1.rel q2) o2' fun β3 M3 H3 s3 S3 o3 => ⟨rfl, o3.ok s3.rel σ S3⟩
    | [], rs, o1 => exact o1.elim
    | [_], rs, o1 => exact o1.elim
    | _ :: _ :: _ :: _, rs, o1 => exact o1.elim
  | _ => exact o1.elim
theorem st_if (hc : PT X c (tTs X.K w0 (fun σ M => (ec σ M).bind truth))) (ha : PSs X b1 (tSt X.K sv1)) (hb : PSs X b2 (tSt X.K sv2)) :
    PS X (.If c b1 b2 pos) (tSt X.K (fun σ M => ((ec σ M).bind truth).bind fun t M2 => if t then sv1 σ M2 else sv2 σ M2)) := by
  refine PS.imp (ps_if hc ha hb) fun D σ H h => ?_
  obtain ⟨mσ, β, M, R, Sl, o⟩ := h
  refine oneB (ev := fun σ M => (ec σ M).bind truth) (w := w0) R Sl o fun t β1 M1 H1 s1 S1 o1 => ?_
  cases t with
  | true => rw [if_pos rfl] at o1 ⊢; exact ⟨mσ, β1, M1, s1.rel, S1, o1⟩
  | false => rw [if_neg Bool.false_ne_true] at o1 ⊢; exact ⟨mσ, β1, M1, s1.rel, S1, o1⟩
theorem st_for (hp : PassesOwn (model X.prog X.w) X.A X.env X.xe) (hc : X.calm = true) (hI : PI X tg iter (tI X.K w0 evI g)) (hg : PG X tg (gT X.K g)) (hb : PSs X body (tSt X.K sv)) (hs : ∀ x, foldedSetIterable iter X.env x = pure x) :
    PS X (.For tg iter body [] pos) (tSt X.K (fun σ M => (evI σ M).bind fun s M1 => forRun g sv s σ M1)) := by
  refine PS.imp (ps_for hp hc hI hg hb hs) fun D σ H h => ?_
  obtain ⟨mσ, β, M, R, Sl, o⟩ := h
  refine ⟨mσ, β, M, R, Sl, (o.bind R).imp (fun s β1 M1 H1 s1 q J hJ => ?_) fun _ _ _ _ _ q => q⟩
  rw [forRun_src] at q
  refine ⟨fun i m σc Hc => ∃ mσ2 β2 M2, inB s i ∧ Stp X.K β1 M1 H1 β2 M2 Hc ∧ RelS X.K Hc β2 mσ2 σc ∧ Out X.K β2 M2 Hc (forSrc g sv s m i mσ2 M2) (kS X.K D) (fun _ _ _ _ => False),
    ⟨srcLen s M1 + 1, mσ, β1, M1, by cases s <;> simp [inB], .refl s1.rel, Sl.stp R s1, q⟩, ?_⟩
  rintro i m σc Hc ⟨mσ2, β2, M2, hb, s2, S2, o2⟩
  cases m with
  | zero => unfold forSrc at o2; exact o2.elim
  | succ m =>
    unfold forSrc at o2
    cases hs : srcAt s i M2 with
    | none => rw [hs] at o2; exact o2.elim
    | some ov =>
      rw [hs] at o2
      have hper := s2.per s1.rel
      cases ov with
      | none => exact .inl ⟨hJ.stop i β2 M2 Hc hper hb hs, o2.ok s2.rel σc S2⟩
      | some v =>
        simp only at o2
        obtain ⟨hgo, hyl⟩ := hJ.go i β2 M2 Hc v hper hs
        refine .inr ⟨hgo, fun σ' H' => ∃ m', m' < m + 1 ∧ ∃ mσ3 β3 M3, inB s (i + 1) ∧ Stp X.K β1 M1 H1 β3 M3 H' ∧ RelS X.K H' β3 mσ3 σ' ∧ Out X.K β3 M3 H' (forSrc g sv s m' (i + 1) mσ3 M3) (kS X.K D) (fun _ _ _ _ => False), fun σ' H' h => h, fun x H' hy => ?_⟩
        obtain ⟨sy, hrg⟩ := hyl x H' hy
        cases ha : assignG g v mσ2 with
        | none => rw [ha] at o2; exact o2.elim
        | some mσ3 =>
          rw [ha] at o2
          simp only at o2
          refine assign_ok ha (hrg _ _ ha) (S2.stp s2.rel sy) fun σ3 S3 _ => ?_
          have o3 : Out X.K β2 M2 H' ((sv mσ3 M2).bind fun fl M' => afterTurn fl M' (forSrc g sv s m (i + 1))) (kS X.K D) (fun _ _ _ _ => False) := by
            revert o2
            cases (sv mσ3 M2).bind fun fl M' => afterTurn fl M' (forSrc g sv s m (i + 1)) with
            | ok b M3 => exact fun o β3 H3 u => o β3 H3 (sy.trans u s2.rel)
            | exc b M3 => exact fun o β3 H3 u => o β3 H3 (sy.trans u s2.rel)
            | stuck => exact fun o => o
          refine ⟨mσ3, β2, M2, sy.rel, S3, (o3.bind sy.rel).imp (fun fl β4 M4 H4 s4 q4 => ?_) fun _ _ _ _ _ q => q⟩
          have s14 := (s2.trans sy s1.rel).trans s4 s1.rel
          cases fl with
          | next mσ4 => exact fun σ4 S4 => ⟨m, Nat.lt_succ_self _, mσ4, β4, M4, inB_succ hs, s14, S4, q4⟩
          | cont mσ4 => exact fun σ4 S4 => ⟨m, Nat.lt_succ_self _, mσ4, β4, M4, inB_succ hs, s14, S4, q4⟩
          | brk mσ4 => exact (show kS X.K D (.next mσ4) β4 M4 H4 from Out.ok (w := fun _ _ _ _ => False) s4.rel q4)
          | ret v => exact (show kS X.K D (.ret v) β4 M4 H4 from Out.ok (w := fun _ _ _ _ => False) s4.rel q4)
theorem st_while (hp : PassesOwn (model X.prog X.w) X.A X.env X.xe) (hc : PT X c (tTs X.K w0 (fun σ M => (ec σ M).bind truth))) (hb : PSs X body (tSt X.K sv)) : PS X (.While c body [] pos) (tSt X.K (fun σ M => whileRun ec sv WF σ M)) := by
  refine PS.imp (ps_while hp hc hb) fun D σ H h => ?_
  obtain ⟨mσ, β, M, R, Sl, o⟩ := h
  refine ⟨fun m σc Hc => ∃ mσ2 β2 M2, RelH X.K β2 M2 Hc ∧ RelS X.K Hc β2 mσ2 σc ∧ Out X.K β2 M2 Hc (whileRun ec sv m mσ2 M2) (kS X.K D) (fun _ _ _ _ => False), ⟨WF, mσ, β, M, R, Sl, o⟩, ?_⟩
  rintro m σc Hc ⟨mσ2, β2, M2, R2, S2, o2⟩
  cases m with
  | zero => unfold whileRun at o2; exact o2.elim
  | succ m =>
    unfold whileRun at o2
    refine oneB (ev := fun σ M => (ec σ M).bind truth) (w := w0) R2 S2 o2 fun t β3 M3 H3 s3 S3 o3 => ?_
    cases t with
    | true =>
      rw [if_pos rfl] at o3 ⊢
      refine ⟨fun σ' H' => ∃ m', m' < m + 1 ∧ ∃ mσ3 β3 M3, RelH X.K β3 M3 H' ∧ RelS X.K H' β3 mσ3 σ' ∧ Out X.K β3 M3 H' (whileRun ec sv m' mσ3 M3) (kS X.K D) (fun _ _ _ _ => False), fun σ' H' h => h, ?_⟩
      refine ⟨mσ2, β3, M3, s3.rel, S3, (o3.bind s3.rel).imp (fun fl β4 M4 H4 s4 q4 => ?_) fun _ _ _ _ _ q => q⟩
      cases fl with
      | next mσ4 => exact fun σ4 S4 => ⟨m, Nat.lt_succ_self _, mσ4, β4, M4, s4.rel, S4, q4⟩
      | cont mσ4 => exact fun σ4 S4 => ⟨m, Nat.lt_succ_self _, mσ4, β4, M4, s4.rel, S4, q4⟩
      | brk mσ4 => exact (show kS X.K D (.next mσ4) β4 M4 H4 from Out.ok (w := fun _ _ _ _ => False) s4.rel q4)
      | ret v => exact (show kS X.K D (.ret v) β4 M4 H4 from Out.ok (w := fun _ _ _ _ => False) s4.rel q4)
    | false =>
      rw [if_neg Bool.false_ne_true] at o3 ⊢
      exact o3.ok s3.rel σc S3
end
end Mn
end
section
set_option Elab.async false
set_option linter.all false
set_option maxRecDepth 100000
set_option maxHeartbeats 4000000
namespace Mn
open PySem PySem.Spec PyProof.Rows L2

def notComp : Expr → Bool
  | .ListComp _ _ _ _ => false
  | .SetComp _ _ _ _ => false
  | .DictComp _ _ _ _ _ => false
  | _ => true
def notTupE : Expr → Bool
  | .Tuple _ _ _ => false
  | _ => true
/-- name = [..], the name stored within the comprehension's frame -/
def swB (S : SC) (x : Str) (px : Pos) : Expr → Bool
  | .ListComp _ _ scope pos => (S.sc.names.lookup x == some .local) && (px.line == pos.line) && !(scope.names.any fun (n, k) => n == x && (k == .local || k == .cell))
  | _ => false
def parB (sc : Scope) (xs : List (Str × Pos)) (vs : List Expr) : Bool :=
  (sc.kind == .function) && xs.all (fun p => sc.names.lookup p.1 == some .local) && (match xs with | [] => true | p :: ps => ps.all fun q => q.2.line == p.2.line) && !(vs.all (foldedForSure 8)) && !(vs.all (constantsAlone 8))
/-- a target that the compiler does not store by a swap -/
def capT (sc : Scope) : Expr → Bool
  | .Name x _ => !(sc.names.lookup x == some .local)
  | _ => true
def capB (sc : Scope) (ts : List Expr) : Bool := ts.any (capT sc)
mutual
def chkS (N : List Str) (fn : List (Nat × Str)) (S : SC) : MS → Stmt → Bool
  | .asg i e, st => (match st with | .Assign [.Name x px] v _ => (N[i]? == some x) && locB S x && chkE N fn S e v && (notComp v || (match v with | .ListComp _ _ _ _ => true | _ => false)) | _ => false)
  | .asgT g e, st => (match st with | .Assign [.Tuple ts kk pt] v _ => chkG N S g (.Tuple ts kk pt) && chkE N fn S e v && notComp v && (notTupE v || capB S.sc ts) | _ => false)
  | .par i j es, st => (match st with | .Assign [.Tuple [.Name x px, .Name y py] _ _] (.Tuple [a, b] _ _) _ => (N[i]? == some x) && (N[j]? == some y) && decide (i ≠ j) && decide (x ≠ y) && parB S.sc [(x, px), (y, py)] [a, b] && chkEs N fn S es [a, b] | _ => false)
  | .par3 i j l es, st => (match st with | .Assign [.Tuple [.Name x px, .Name y py, .Name z pz] _ _] (.Tuple [a, b, c] _ _) _ => (N[i]? == some x) && (N[j]? == some y) && (N[l]? == some z) && decide (i ≠ j) && decide (i ≠ l) && decide (j ≠ l) && decide (x ≠ y) && decide (x ≠ z) && decide (y ≠ z) && parB S.sc [(x, px), (y, py), (z, pz)] [a, b, c] && chkEs N fn S es [a, b, c] | _ => false)
  | .setix o i e, st => (match st with | .Assign [.Subscript x y _] v _ => chkE N fn S o x && chkE N fn S i y && chkE N fn S e v && notSlice y && notComp v | _ => false)
  | .swp o i o2 i2 e, st => (match st with | .Assign [.Tuple [.Subscript x y _, .Subscript x2 y2 _] _ _] v _ => chkE N fn S o x && chkE N fn S i y && chkE N fn S o2 x2 && chkE N fn S i2 y2 && chkE N fn S e v && notSlice y && notSlice y2 && notComp v | _ => false)
  | .expr e, st => (match st with | .Expr v _ => chkE N fn S e v && notComp v | _ => false)
  | .ret e, st => (match st with | .Return (some v) _ => chkE N fn S e v | _ => false)
  | .ife c a b, st => (match st with | .If x b1 b2 _ => chkE N fn S c x && notIf x && chkSs N fn S a b1 && chkSs N fn S b b2 | _ => false)
  | .for_ g it b, st => (match st with | .For tg iter body [] _ => chkG N S g tg && chkI N fn S it (isTup tg) iter && chkSs N fn S b body && notSet iter | _ => false)
  | .while_ c b, st => (match st with | .While x body [] _ => chkE N fn S c x && notIf x && chkSs N fn S b body | _ => false)
  | .raise_, st => (match st with | .Raise _ _ _ => true | _ => false)
  | .pass, st => (match st with | .Pass _ => true | _ => false)
  | .brk, st => (match st with | .Break _ => true | _ => false)
  | .cont, st => (match st with | .Continue _ => true | _ => false)
def chkSs (N : List Str) (fn : List (Nat × Str)) (S : SC) : MSs → List Stmt → Bool
  | .nil, ss => ss.isEmpty
  | .cons m ms, ss => (match ss with | s :: ss => chkS N fn S m s && chkSs N fn S ms ss | [] => false)
end

theorem len_filterMap {α β : Type} {f : α → Option β} : ∀ {l : List α}, (∃ x ∈ l, f x = none) → (l.filterMap f).length ≠ l.length
  | [], h => by obtain ⟨x, hx, _⟩ := h; cases hx
  | a :: l, h => by
    have le : (l.filterMap f).length ≤ l.length := List.length_filterMap_le f l
    rw [List.filterMap_cons]
    cases e : f a with
    | none => simp only [List.length_cons]; omega
    | some b =>
      obtain ⟨x, hx, ex⟩ := h
      rcases List.mem_cons.mp hx with rfl | hx
      · rw [e] at ex; cases ex
      · have := len_filterMap ⟨x, hx, ex⟩
        simp only [List.length_cons]; omega
theorem sw_cap {env : Env} {ts vs : List Expr} {kt k2} {pt pt2 : Pos} (h : capB env.scope ts = true) :
    swappedStores [.Tuple ts kt pt] (.Tuple vs k2 pt2) env = pure none := by
  unfold swappedStores
  by_cases c1 : (!(ts.length == 2 || ts.length == 3) || vs.length != ts.length || env.blockKind != .function) = true
  · exact if_pos c1
  · refine (if_neg c1).trans ?_
    by_cases c2 : (vs.any fun | .Starred .. => true | _ => false) = true
    · exact if_pos c2
    · refine (if_neg c2).trans ?_
      refine if_pos ?_
      obtain ⟨x, hx, cx⟩ := List.any_eq_true.mp h
      rw [Bool.or_eq_true]
      left
      rw [bne_iff_ne]
      refine len_filterMap ⟨x, hx, ?_⟩
      cases x with
      | Name i p =>
        unfold capT at cx
        have : (env.kindOf i == some .local) = false := by
          show (env.scope.names.lookup i == some .local) = false
          cases hq : (env.scope.names.lookup i == some .local) with
          | false => rfl
          | true =>
            have cx' : (!(env.scope.names.lookup i == some .local)) = true := cx
            rw [hq] at cx'
            cases cx'
        simp only [this, Bool.false_and]
        rfl
      | _ => rfl
theorem notStar_false {e : Expr} (h : notStar e = true) : ∀ v p, e = .Starred v p → False := by
  intro v p he
  subst he
  cases h
theorem sw_two {env : Env} {x y : Str} {px py pt pt2 : Pos} {kt k2} {a b : Expr} (hp : parB env.scope [(x, px), (y, py)] [a, b] = true) (hxy : x ≠ y) (ha : notStar a = true) (hb : notStar b = true) :
    env.scope.names.lookup x = some .local ∧ env.scope.names.lookup y = some .local ∧ swappedStores [.Tuple [.Name x px, .Name y py] kt pt] (.Tuple [a, b] k2 pt2) env = pure (some [x, y]) := by
  simp only [parB, Bool.and_eq_true, List.all_cons, List.all_nil, beq_iff_eq, Bool.not_eq_true', and_true] at hp
  obtain ⟨⟨⟨⟨h1, h2, h3⟩, h4⟩, h5⟩, h6⟩ := hp
  refine ⟨h2, h3, ?_⟩
  have k1 : env.kindOf x = some .local := h2
  have k2 : env.kindOf y = some .local := h3
  have bk : env.blockKind = .function := by unfold Env.blockKind; rw [h1]; rfl
  have ed : [x, y].eraseDups.length = 2 := by
    have : (y == x) = false := by simpa using fun e => hxy e.symm
    simp [List.eraseDups_cons, this]
  have f5 : ([a, b].all (foldedForSure 8)) = false := by simpa using h5
  have f6 : ([a, b].all (constantsAlone 8)) = false := by simpa using h6
  have p0 : (Expr.Name x px).pos.line = px.line := rfl
  unfold swappedStores
  refine (if_neg (by rw [bk]; simp)).trans ((if_neg fun h => ?_).trans ?_)
  · simp only [List.any_cons, List.any_nil, Bool.or_false, Bool.or_eq_true] at h
    rcases h with h | h
    · split at h
      · exact notStar_false ha _ _ rfl
      · cases h
    · split at h
      · exact notStar_false hb _ _ rfl
      · cases h
  · have e1 : (Expr.Name x px).pos = px := rfl
    simp only [List.filterMap_cons, List.filterMap_nil, List.head?_cons, Option.map_some, Option.getD_some, e1, k1, k2, h4, beq_self_eq_true, Bool.and_self, if_true]
    refine (if_neg (by rw [ed]; simp)).trans ((if_neg (by rw [f5]; simp)).trans ((if_neg (by rw [f6]; simp)).trans rfl))
theorem sw_three {env : Env} {x y z : Str} {px py pz pt pt2 : Pos} {kt k2} {a b c : Expr} (hp : parB env.scope [(x, px), (y, py), (z, pz)] [a, b, c] = true) (hxy : x ≠ y) (hxz : x ≠ z) (hyz : y ≠ z) (ha : notStar a = true) (hb : notStar b = true) (hc : notStar c = true) :
    env.scope.names.lookup x = some .local ∧ env.scope.names.lookup y = some .local ∧ env.scope.names.lookup z = some .local ∧ swappedStores [.Tuple [.Name x px, .Name y py, .Name z pz] kt pt] (.Tuple [a, b, c] k2 pt2) env = pure (some [x, y, z]) := by
  simp only [parB, Bool.and_eq_true, List.all_cons, List.all_nil, beq_iff_eq, Bool.not_eq_true', and_true] at hp
  obtain ⟨⟨⟨⟨h1, h2, h3, h3'⟩, h4, h4'⟩, h5⟩, h6⟩ := hp
  refine ⟨h2, h3, h3', ?_⟩
  have k1 : env.kindOf x = some .local := h2
  have k2 : env.kindOf y = some .local := h3
  have k3 : env.kindOf z = some .local := h3'
  have bk : env.blockKind = .function := by unfold Env.blockKind; rw [h1]; rfl
  have ed : [x, y, z].eraseDups.length = 3 := by
    have e1 : (y == x) = false := by simpa using fun e => hxy e.symm
    have e2 : (z == x) = false := by simpa using fun e => hxz e.symm
    have e3 : (z == y) = false := by simpa using fun e => hyz e.symm
    simp [List.eraseDups_cons, e1, e2, e3]
  have f5 : ([a, b, c].all (foldedForSure 8)) = false := by simpa using h5
  have f6 : ([a, b, c].all (constantsAlone 8)) = false := by simpa using h6
  have p0 : (Expr.Name x px).pos.line = px.line := rfl
  unfold swappedStores
  refine (if_neg (by rw [bk]; simp)).trans ((if_neg fun h => ?_).trans ?_)
  · simp only [List.any_cons, List.any_nil, Bool.or_false, Bool.or_eq_true] at h
    rcases h with h | h | h
    · split at h
      · exact notStar_false ha _ _ rfl
      · cases h
    · split at h
      · exact notStar_false hb _ _ rfl
      · cases h
    · split at h
      · exact notStar_false hc _ _ rfl
      · cases h
  · have e1 : (Expr.Name x px).pos = px := rfl
    simp only [List.filterMap_cons, List.filterMap_nil, List.head?_cons, Option.map_some, Option.getD_some, e1, k1, k2, k3, h4, h4', beq_self_eq_true, Bool.and_self, if_true]
    refine (if_neg (by rw [ed]; simp)).trans ((if_neg (by rw [f5]; simp)).trans ((if_neg (by rw [f6]; simp)).trans rfl))
section
variable {X : Cx} {k : Nat} {cf : CF} {fn : List (Nat × Str)} {S : SC}
theorem notSlice_ix {e : Expr} (h : notSlice e = true) : PlainIx e := by
  intro o i
  cases e <;> first | rfl | cases h
theorem notSet_mark {e : Expr} {op : CmpOp} (h : notSet e = true) : behindInMarks op e = false := by cases e <;> first | rfl | cases h
theorem notSet_last {b c : Expr} {op op' : CmpOp} (h : notSet c = true) : lastMarks [op, op'] [b, c] = false := by
  show behindInMarks op' c = false
  exact notSet_mark h
theorem notSet_fold {e : Expr} {env : Env} (h : notSet e = true) : ∀ x, foldedSetIterable e env x = pure x := by
  intro x
  cases e <;> first | rfl | cases h
/-- the block of a comprehension is good, too -/
theorem Gd.blk (G : Gd X k cf fn S) (scope : Scope) (hu : ∀ y ∈ scope.names, scope.names.lookup y.1 = some y.2) (s : Shared) (H : Hp) (C : Addr) (cl : List (Str × Addr)) (fp : List Addr) :
    Gd (X.blk s H scope (compEnvC scope cl C X.env) fp) k cf fn ⟨relS scope S.sc, some (scope.names.filterMap fun p => if p.2 == .cell then some p.1 else none), S.cs⟩ where
  calm := G.calm
  nd := G.nd
  room := G.room
  gd := G.gd
  sc := by
    show relabel scope X.env = relS scope S.sc
    rw [← G.sc]
    rfl
  fnk := fun x h => by
    show (scope.names.lookup x == some .cell) = true
    have h : (scope.names.filterMap fun p => if p.2 == .cell then some p.1 else none).contains x = true := h
    rw [List.contains_iff_mem, List.mem_filterMap] at h
    obtain ⟨⟨y, kd⟩, h1, h2⟩ := h
    split at h2
    · rename_i h3
      cases h2
      have := hu _ h1
      have h3 : kd = .cell := by simpa using h3
      rw [this, h3]
      rfl
    · cases h2
  po := PassesOwn.never
  blt := G.blt
  fns := G.fns
  cst := G.cst

theorem chkEs_len {N : List Str} : ∀ {ms : MEs} {es : List Expr}, chkEs N fn S ms es = true → (ms = .nil ↔ es = [])
  | .nil, es, h => by
    unfold chkEs at h
    cases es with
    | nil => exact ⟨fun _ => rfl, fun _ => rfl⟩
    | cons _ _ => cases h
  | .cons m ms, es, h => by
    unfold chkEs at h
    cases es with
    | nil => cases h
    | cons e es => exact ⟨fun e => (by cases e), fun e => (by cases e)⟩
/-- a plain expression's test is its value's truth -/
def plainB : ME → Bool
  | .not _ => false
  | .and _ => false
  | .or _ => false
  | .cmp _ _ _ => false
  | .chain _ _ _ _ _ => false
  | _ => true
theorem plain_test {N : List Str} {m : ME} {e : Expr} (h : chkE N fn S m e = true) (hp : plainB m = true) (hi : notIf e = true) (env : Env) : ∀ whole, isTrue e env whole = (do let v ← whole; standAt e.pos; holding [v] (truthy v)) := by
  intro whole
  cases e with
  | IfExp _ _ _ _ => cases hi
  | UnaryOp op x p =>
    cases op with
    | Not => cases m <;> first | (unfold chkE at h; cases h; done) | (cases hp; done) | (unfold chkE at h; split at h <;> first | (cases h; done) | contradiction)
    | _ => rfl
  | BoolOp op xs p => cases m <;> first | (unfold chkE at h; cases h; done) | (cases hp; done) | (unfold chkE at h; split at h <;> first | (cases h; done) | contradiction)
  | Compare a ops cs p => cases m <;> first | (unfold chkE at h; cases h; done) | (cases hp; done) | (unfold chkE at h; split at h <;> first | (cases h; done) | contradiction)
  | _ => rfl
/-- a test from a value's rule, where it is plain -/
theorem t_plain {m : ME} {e : Expr} (h : chkE X.N fn S m e = true) (hp : plainB m = true) (hi : notIf e = true) (he : PE X e (tE X.K w0 (evE cf m))) : PT X e (tTs X.K w0 (fun σ M => (evE cf m σ M).bind truth)) := plain_of (plain_test h hp hi X.env) he
mutual
theorem sndE : ∀ (m : ME) {X : Cx} {S : SC} {e : Expr}, Gd X k cf fn S → chkE X.N fn S m e = true → PE X e (tE X.K w0 (evE cf m))
  | .var i, X, S, e, G, h => by
    unfold chkE at h
    split at h
    · simp only [Bool.and_eq_true, beq_iff_eq] at h
      obtain ⟨⟨h1, h2⟩, h3⟩ := h
      obtain ⟨d1, d2⟩ := nmB_of h3
      unfold evE
      exact s_var h1 (G.vis h2) d1 d2
    · cases h
  | .int i, X, S, e, G, h => by
    unfold chkE at h
    split at h
    · rw [decide_eq_true_eq] at h
      subst h
      unfold evE
      exact s_const pe_int fun _ _ => rep_int.mpr rfl
    · cases h
  | .bl b, X, S, e, G, h => by
    unfold chkE at h
    split at h
    · have h := beq_iff_eq.mp h
      subst h
      unfold evE
      exact s_const pe_bl fun _ _ => rep_bl.mpr rfl
    · cases h
  | .non, X, S, e, G, h => by
    unfold chkE at h
    split at h
    · unfold evE
      exact s_const pe_non fun _ _ => rep_non.mpr rfl
    · cases h
  | .str x, X, S, e, G, h => by
    unfold chkE at h
    split at h
    · rw [decide_eq_true_eq] at h
      subst h
      unfold evE
      exact s_const pe_str fun _ _ => rep_str.mpr rfl
    · cases h
  | .tup es, X, S, e, G, h => by
    unfold chkE at h
    split at h
    · unfold evE
      exact s_tup (sndEs es G h)
    · cases h
  | .lst es, X, S, e, G, h => by
    unfold chkE at h
    split at h
    · unfold evE
      exact s_lst (sndEs es G h)
    · cases h
  | .bin op a b, X, S, e, G, h => by
    unfold chkE at h
    split at h
    · simp only [Bool.and_eq_true, beq_iff_eq] at h
      obtain ⟨⟨rfl, h2⟩, h3⟩ := h
      unfold evE
      exact s_trim (s_bin (sndE a G h2) (sndE b G h3))
    · cases h
  | .neg a, X, S, e, G, h => by
    unfold chkE at h
    split at h
    · unfold evE
      exact s_neg (sndE a G h)
    · cases h
  | .not a, X, S, e, G, h => by
    unfold chkE at h
    split at h
    · simp only [Bool.and_eq_true] at h
      unfold evE
      exact s_trim (s_not (sndE a G h.1))
    · cases h
  | .cmp op a b, X, S, e, G, h => by
    unfold chkE at h
    split at h
    · simp only [Bool.and_eq_true, beq_iff_eq] at h
      obtain ⟨⟨⟨rfl, h2⟩, h3⟩, h4⟩ := h
      unfold evE
      exact s_trim (s_cmp G.hu (notSet_mark h4) (sndE a G h2) (sndE b G h3))
    · cases h
  | .chain op1 op2 a b c, X, S, e, G, h => by
    unfold chkE at h
    split at h
    · simp only [Bool.and_eq_true, beq_iff_eq] at h
      obtain ⟨⟨⟨⟨⟨⟨rfl, rfl⟩, h2⟩, h3⟩, h4⟩, h5⟩, h6⟩ := h
      unfold evE
      exact s_trim (s_chain G.hu (notSet_last h6) (sndE a G h2) (sndE b G h3) (sndE c G h4))
    · cases h
  | .and es, X, S, e, G, h => by
    unfold chkE at h
    split at h
    · simp only [Bool.and_eq_true] at h
      unfold evE
      exact sndAnd es G h.1
    · cases h
  | .or es, X, S, e, G, h => by
    unfold chkE at h
    split at h
    · simp only [Bool.and_eq_true] at h
      unfold evE
      exact sndOr es G h.1
    · cases h
  | .ife c a b, X, S, e, G, h => by
    unfold chkE at h
    split at h
    · simp only [Bool.and_eq_true] at h
      obtain ⟨⟨⟨h1, h2⟩, h3⟩, h4⟩ := h
      unfold evE
      exact s_ife (sndT c G h1 h4) (sndE a G h2) (sndE b G h3)
    · cases h
  | .ix a i, X, S, e, G, h => by
    unfold chkE at h
    split at h
    · simp only [Bool.and_eq_true] at h
      obtain ⟨⟨h1, h2⟩, h3⟩ := h
      unfold evE
      exact s_trim (s_ix (notSlice_ix h3) (sndE a G h1) (sndE i G h2))
    · cases h
  | .sl a lo hi, X, S, e, G, h => by
    unfold chkE at h
    split at h
    · simp only [Bool.and_eq_true] at h
      obtain ⟨⟨h1, h2⟩, h3⟩ := h
      unfold evE
      exact s_trim (s_sl (sndE a G h1) (sndO lo G h2) (sndO hi G h3))
    · cases h
  | .stp a st, X, S, e, G, h => by
    unfold chkE at h
    split at h
    · simp only [Bool.and_eq_true] at h
      unfold evE
      exact s_trim (s_stp (sndE a G h.1) (sndE st G h.2))
    · cases h
  | .call f args, X, S, e, G, h => by
    unfold chkE at h
    split at h
    · rename_i x p es pos
      simp only [Bool.and_eq_true, beq_iff_eq] at h
      obtain ⟨⟨⟨h1, h2⟩, h3⟩, h4⟩ := h
      have ha := sndEs args G h4
      have hst := chkEs_star h4
      unfold evE
      refine s_trim ?_
      cases es with
      | nil =>
        have e0 := (chkEs_len h4).mpr rfl
        subst e0
        unfold evEs
        exact s_call0 G h1 h2 h3
      | cons y ys => exact s_call G h1 h2 h3 hst ha
    · cases h
  | .bcall f args, X, S, e, G, h => by
    unfold chkE at h
    split at h
    · rename_i a x p1 y p2 z pos2 pos
      simp only [Bool.and_eq_true, beq_iff_eq] at h
      obtain ⟨⟨⟨⟨⟨h1, h2⟩, h3⟩, h4⟩, h5⟩, h6⟩ := h
      have := s_trim (s_listR1 (pos := pos) (p := p1) (p2 := p2) (pos2 := pos2) G h1 h2 h3 h4 h6 (sndE a G h5))
      unfold evE
      simp only [evEs]
      exact this
    · rename_i a x p1 y p2 z pos2 pos
      simp only [Bool.and_eq_true, beq_iff_eq] at h
      obtain ⟨⟨⟨⟨⟨h1, h2⟩, h3⟩, h4⟩, h5⟩, h6⟩ := h
      have := s_trim (s_tupR1 (pos := pos) (p := p1) (p2 := p2) (pos2 := pos2) G h1 h2 h3 h4 h6 (sndE a G h5))
      unfold evE
      simp only [evEs]
      exact this
    · rename_i a x p1 y p2 z pos2 pos
      simp only [Bool.and_eq_true, beq_iff_eq] at h
      obtain ⟨⟨⟨⟨⟨h1, h2⟩, h3⟩, h4⟩, h5⟩, h6⟩ := h
      have := s_trim (s_tupRev (pos := pos) (p := p1) (p2 := p2) (pos2 := pos2) G h1 h2 h3 h4 h6 (sndE a G h5))
      unfold evE
      simp only [evEs]
      exact this
    · rename_i a x p1 y p2 z pos2 pos
      simp only [Bool.and_eq_true, beq_iff_eq] at h
      obtain ⟨⟨⟨⟨⟨h1, h2⟩, h3⟩, h4⟩, h5⟩, h6⟩ := h
      have := s_trim (s_srtSet (pos := pos) (p := p1) (p2 := p2) (pos2 := pos2) G h1 h2 h3 h4 h6 (sndE a G h5))
      unfold evE
      simp only [evEs]
      exact this
    · rename_i a b x p1 y ky z kp pos
      simp only [Bool.and_eq_true, beq_iff_eq] at h
      obtain ⟨⟨⟨⟨⟨h1, h2⟩, h3⟩, h4⟩, h5⟩, h6⟩ := h
      have := s_trim (s_maxD (pos := pos) (p := p1) (kp := kp) G h1 h2 h3 h6 (sndE a G h4) (sndE b G h5))
      unfold evE
      simp only [evEs]
      exact this
    · rename_i f' args' x p es pos _ _ _ _
      simp only [Bool.and_eq_true, beq_iff_eq, decide_eq_true_eq] at h
      obtain ⟨⟨⟨h1, h2⟩, h3⟩, h4⟩ := h
      have ha := sndEs args G h3
      have hst := chkEs_star h3
      unfold evE
      cases es with
      | nil => exact absurd h4 (by simp)
      | cons y ys => exact s_trim (s_bcall G h1 h2 hst ha)
    · cases h
  | .callL fs a args, X, S, e, G, h => by
    unfold chkE at h
    split at h
    · simp only [Bool.and_eq_true] at h
      obtain ⟨⟨⟨⟨h1, hn⟩, h2⟩, h3⟩, h4⟩ := h
      unfold evE
      exact s_callL G h1 (notSlice_ix h3) (sndE a G h2) (of_decide_eq_true hn) (chkEs_star h4) (sndEs args G h4)
    · cases h
  | .cix i a, X, S, e, G, h => by
    unfold chkE at h
    split at h
    · rename_i y p1 z pos
      split at h
      · rename_i c ec
        simp only [Bool.and_eq_true, beq_iff_eq] at h
        obtain ⟨⟨⟨⟨⟨h1, h2⟩, h3⟩, h4⟩, h5⟩, h6⟩ := h
        unfold evE
        exact s_cix G ec h1 h2 h3 (by simpa using h4) (notSlice_ix h6) (sndE a G h5)
      · cases h
    · cases h
  | .meth m o args, X, S, e, G, h => by
    unfold chkE at h
    split at h
    · rename_i x name apos es cpos
      simp only [Bool.and_eq_true, beq_iff_eq, decide_eq_true_eq] at h
      obtain ⟨⟨⟨⟨⟨h1, h2⟩, h3⟩, h4⟩, h5⟩, h6⟩ := h
      have ha := sndEs args G h3
      have hst := chkEs_star h3
      have ho := sndE o G h2
      unfold evE
      refine s_trim ?_
      cases es with
      | nil =>
        have e0 := (chkEs_len h3).mpr rfl
        subst e0
        unfold evEs
        exact s_meth0 G.hu h1 h4 (beq_iff_eq.mpr h5) ho
      | cons y ys => exact s_meth G.hu h1 h4 (beq_iff_eq.mpr h5) h6 hst ho ha
    · cases h
  | .isi a ts tup, X, S, e, G, h => by
    unfold chkE at h
    split at h
    · simp only [Bool.and_eq_true, beq_iff_eq] at h
      obtain ⟨⟨⟨⟨⟨h0, h1⟩, h2⟩, h3⟩, h4⟩, h5⟩ := h
      subst h0
      unfold evE
      exact s_trim (s_isiT G h1 h2 h4 h5 (sndE a G h3))
    · simp only [Bool.and_eq_true, beq_iff_eq] at h
      obtain ⟨⟨⟨⟨⟨h0, h1⟩, h2⟩, h3⟩, h4⟩, h5⟩ := h
      have h0 : tup = false := by simpa using h0
      subst h0
      split at h5
      · simp only [Bool.and_eq_true, beq_iff_eq] at h5
        unfold evE
        exact s_trim (s_isi1 G h1 h2 h4 h5.1 h5.2 (sndE a G h3))
      · cases h5
    · cases h
  | .lc own g it cnd elt, X, S, e, G, h => by
    unfold chkE at h
    split at h
    · rename_i el tg iter ifs ia scope pos
      simp only [Bool.and_eq_true, decide_eq_true_eq] at h
      obtain ⟨⟨⟨⟨⟨⟨⟨h1, h2⟩, h3⟩, h4⟩, h5⟩, h6⟩, h7⟩, h8⟩ := h
      subst h1
      have ok := blkOk_by h2
      rw [← G.sc] at ok
      have GB := fun s H C cl fp => G.blk scope ok.uniq s H C cl fp
      have hG := fun s H C cl fp => pg_of (GB s H C cl fp) h6
      have hE := fun s H C cl fp => sndE elt (GB s H C cl fp) h8
      have hI := sndI it (g := g) G h4 fun ht => isTup_of h6 ht
      unfold evE
      cases cnd with
      | none =>
        cases ifs with
        | nil =>
          unfold evC
          exact s_lc (tt := tYes) G.calm G.nd hI ok hG (fun s H C cl fp => pts_nil) hE (fun mσ' σ' β' M' H' Q R Sl o => o.ok R) h3 (notSet_fold h5)
        | cons _ _ => cases h7
      | some c =>
        cases ifs with
        | nil => cases h7
        | cons x xs =>
          cases xs with
          | nil =>
            simp only [Bool.and_eq_true] at h7
            have hT := fun s H C cl fp => sndT c (GB s H C cl fp) h7.1 h7.2
            unfold evC
            exact s_lc (tt := tTs X.K w0 (fun σ M => (evE cf c σ M).bind truth)) G.calm G.nd hI ok hG (fun s H C cl fp => pts_one (hT s H C cl fp)) hE (fun mσ' σ' β' M' H' Q R Sl o => ⟨mσ', β', M', R, Sl, o⟩) h3 (notSet_fold h5)
          | cons _ _ => cases h7
    · cases h
theorem sndT : ∀ (m : ME) {X : Cx} {S : SC} {e : Expr}, Gd X k cf fn S → chkE X.N fn S m e = true → notIf e = true → PT X e (tTs X.K w0 (fun σ M => (evE cf m σ M).bind truth))
  | .not a, X, S, e, G, h, hi => by
    unfold chkE at h
    split at h
    · simp only [Bool.and_eq_true] at h
      unfold evE
      exact t_not (sndT a G h.1 h.2)
    · cases h
  | .cmp op a b, X, S, e, G, h, hi => by
    unfold chkE at h
    split at h
    · simp only [Bool.and_eq_true, beq_iff_eq] at h
      obtain ⟨⟨⟨rfl, h2⟩, h3⟩, h4⟩ := h
      unfold evE
      exact t_cmp G.hu (notSet_mark h4) (sndE a G h2) (sndE b G h3)
    · cases h
  | .chain op1 op2 a b c, X, S, e, G, h, hi => by
    unfold chkE at h
    split at h
    · simp only [Bool.and_eq_true, beq_iff_eq] at h
      obtain ⟨⟨⟨⟨⟨⟨rfl, rfl⟩, h2⟩, h3⟩, h4⟩, h5⟩, h6⟩ := h
      unfold evE
      exact t_chain G.hu (notSet_last h6) (sndE a G h2) (sndE b G h3) (sndE c G h4)
    · cases h
  | .and es, X, S, e, G, h, hi => by
    unfold chkE at h
    split at h
    · simp only [Bool.and_eq_true] at h
      unfold evE
      exact (sndAndT es G h.1 h.2).pt
    · cases h
  | .or es, X, S, e, G, h, hi => by
    unfold chkE at h
    split at h
    · simp only [Bool.and_eq_true] at h
      unfold evE
      exact (sndOrT es G h.1 h.2).pt
    · cases h
  | .var i, X, S, e, G, h, hi => t_plain h rfl hi (sndE _ G h)
  | .int i, X, S, e, G, h, hi => t_plain h rfl hi (sndE _ G h)
  | .bl i, X, S, e, G, h, hi => t_plain h rfl hi (sndE _ G h)
  | .non, X, S, e, G, h, hi => t_plain h rfl hi (sndE _ G h)
  | .str i, X, S, e, G, h, hi => t_plain h rfl hi (sndE _ G h)
  | .tup i, X, S, e, G, h, hi => t_plain h rfl hi (sndE _ G h)
  | .lst i, X, S, e, G, h, hi => t_plain h rfl hi (sndE _ G h)
  | .bin op a b, X, S, e, G, h, hi => t_plain h rfl hi (sndE _ G h)
  | .neg a, X, S, e, G, h, hi => t_plain h rfl hi (sndE _ G h)
  | .ife a b c, X, S, e, G, h, hi => t_plain h rfl hi (sndE _ G h)
  | .ix a b, X, S, e, G, h, hi => t_plain h rfl hi (sndE _ G h)
  | .cix i a, X, S, e, G, h, hi => t_plain h rfl hi (sndE _ G h)
  | .callL i a b, X, S, e, G, h, hi => t_plain h rfl hi (sndE _ G h)
  | .sl a b c, X, S, e, G, h, hi => t_plain h rfl hi (sndE _ G h)
  | .stp a st, X, S, e, G, h, hi => t_plain h rfl hi (sndE _ G h)
  | .call f a, X, S, e, G, h, hi => t_plain h rfl hi (sndE _ G h)
  | .bcall f a, X, S, e, G, h, hi => t_plain h rfl hi (sndE _ G h)
  | .meth f a b, X, S, e, G, h, hi => t_plain h rfl hi (sndE _ G h)
  | .isi f a b, X, S, e, G, h, hi => t_plain h rfl hi (sndE _ G h)
  | .lc a b c d f, X, S, e, G, h, hi => t_plain h rfl hi (sndE _ G h)
theorem sndEs : ∀ (ms : MEs) {X : Cx} {S : SC} {es : List Expr}, Gd X k cf fn S → chkEs X.N fn S ms es = true → PA X es (tAs X.K w0 (evEs cf ms))
  | .nil, X, S, es, G, h => by
    unfold chkEs at h
    cases es with
    | nil => unfold evEs; exact a_nil
    | cons _ _ => cases h
  | .cons m ms, X, S, es, G, h => by
    unfold chkEs at h
    cases es with
    | nil => cases h
    | cons e es =>
      simp only [Bool.and_eq_true] at h
      unfold evEs
      exact a_cons h.1.2 (sndE m G h.1.1) (sndEs ms G h.2)
theorem sndAnd : ∀ (ms : MEs) {X : Cx} {S : SC} {es : List Expr} {pos : Pos}, Gd X k cf fn S → chkEs X.N fn S ms es = true → PE X (.BoolOp .And es pos) (tE X.K w0 (evAnd cf ms))
  | .nil, X, S, es, pos, G, h => by
    unfold evAnd
    exact ⟨fun pins s σ H Q I q => by obtain ⟨_, _, _, _, _, o⟩ := q; exact o.elim⟩
  | .cons m .nil, X, S, es, pos, G, h => by
    unfold chkEs at h
    cases es with
    | nil => cases h
    | cons e es =>
      simp only [Bool.and_eq_true] at h
      have e0 := (chkEs_len h.2).mp rfl
      subst e0
      unfold evAnd
      exact pe_one (sndE m G h.1.1)
  | .cons m (.cons m' ms), X, S, es, pos, G, h => by
    unfold chkEs at h
    cases es with
    | nil => cases h
    | cons e es =>
      simp only [Bool.and_eq_true] at h
      cases es with
      | nil => exact absurd h.2 (by unfold chkEs; simp)
      | cons e' es =>
        unfold evAnd
        exact s_and (sndE m G h.1.1) (sndAnd (.cons m' ms) G h.2)
theorem sndOr : ∀ (ms : MEs) {X : Cx} {S : SC} {es : List Expr} {pos : Pos}, Gd X k cf fn S → chkEs X.N fn S ms es = true → PE X (.BoolOp .Or es pos) (tE X.K w0 (evOr cf ms))
  | .nil, X, S, es, pos, G, h => by
    unfold evOr
    exact ⟨fun pins s σ H Q I q => by obtain ⟨_, _, _, _, _, o⟩ := q; exact o.elim⟩
  | .cons m .nil, X, S, es, pos, G, h => by
    unfold chkEs at h
    cases es with
    | nil => cases h
    | cons e es =>
      simp only [Bool.and_eq_true] at h
      have e0 := (chkEs_len h.2).mp rfl
      subst e0
      unfold evOr
      exact pe_one (sndE m G h.1.1)
  | .cons m (.cons m' ms), X, S, es, pos, G, h => by
    unfold chkEs at h
    cases es with
    | nil => cases h
    | cons e es =>
      simp only [Bool.and_eq_true] at h
      cases es with
      | nil => exact absurd h.2 (by unfold chkEs; simp)
      | cons e' es =>
        unfold evOr
        exact s_or (sndE m G h.1.1) (sndOr (.cons m' ms) G h.2)
theorem sndAndT : ∀ (ms : MEs) {X : Cx} {S : SC} {es : List Expr} {pos : Pos}, Gd X k cf fn S → chkEs X.N fn S ms es = true → es.all notIf = true → PW X (.BoolOp .And es pos) (tTs X.K w0 (fun σ M => (evAnd cf ms σ M).bind truth))
  | .nil, X, S, es, pos, G, h, hi => by
    unfold evAnd
    exact ⟨fun wh pins s σ H Q I q => by obtain ⟨_, _, _, _, _, o⟩ := q; exact o.elim⟩
  | .cons m .nil, X, S, es, pos, G, h, hi => by
    unfold chkEs at h
    cases es with
    | nil => cases h
    | cons e es =>
      simp only [Bool.and_eq_true] at h
      have e0 := (chkEs_len h.2).mp rfl
      subst e0
      rw [List.all_cons, Bool.and_eq_true] at hi
      unfold evAnd
      exact pw_and1 (sndT m G h.1.1 hi.1)
  | .cons m (.cons m' ms), X, S, es, pos, G, h, hi => by
    unfold chkEs at h
    cases es with
    | nil => cases h
    | cons e es =>
      simp only [Bool.and_eq_true] at h
      rw [List.all_cons, Bool.and_eq_true] at hi
      cases es with
      | nil => exact absurd h.2 (by unfold chkEs; simp)
      | cons e' es =>
        unfold evAnd
        exact w_and (sndT m G h.1.1 hi.1) (sndAndT (.cons m' ms) G h.2 hi.2)
theorem sndOrT : ∀ (ms : MEs) {X : Cx} {S : SC} {es : List Expr} {pos : Pos}, Gd X k cf fn S → chkEs X.N fn S ms es = true → es.all notIf = true → PW X (.BoolOp .Or es pos) (tTs X.K w0 (fun σ M => (evOr cf ms σ M).bind truth))
  | .nil, X, S, es, pos, G, h, hi => by
    unfold evOr
    exact ⟨fun wh pins s σ H Q I q => by obtain ⟨_, _, _, _, _, o⟩ := q; exact o.elim⟩
  | .cons m .nil, X, S, es, pos, G, h, hi => by
    unfold chkEs at h
    cases es with
    | nil => cases h
    | cons e es =>
      simp only [Bool.and_eq_true] at h
      have e0 := (chkEs_len h.2).mp rfl
      subst e0
      rw [List.all_cons, Bool.and_eq_true] at hi
      unfold evOr
      exact pw_or1 (sndT m G h.1.1 hi.1)
  | .cons m (.cons m' ms), X, S, es, pos, G, h, hi => by
    unfold chkEs at h
    cases es with
    | nil => cases h
    | cons e es =>
      simp only [Bool.and_eq_true] at h
      rw [List.all_cons, Bool.and_eq_true] at hi
      cases es with
      | nil => exact absurd h.2 (by unfold chkEs; simp)
      | cons e' es =>
        unfold evOr
        exact w_or (sndT m G h.1.1 hi.1) (sndOrT (.cons m' ms) G h.2 hi.2)
theorem sndO : ∀ (m : MEo) {X : Cx} {S : SC} {e : Option Expr}, Gd X k cf fn S → chkO X.N fn S m e = true → PO X e (tOs X.K w0 (evO cf m))
  | .none, X, S, e, G, h => by
    unfold chkO at h
    cases e with
    | none => unfold evO; exact o_none
    | some _ => cases h
  | .some m, X, S, e, G, h => by
    unfold chkO at h
    split at h
    · unfold evO
      exact o_some (sndE m G h)
    · cases h
theorem sndI : ∀ (m : MI) {g : MG} {X : Cx} {S : SC} {tg e : Expr}, Gd X k cf fn S → chkI X.N fn S m (isTup tg) e = true → (isTup tg = true → (∃ gs, g = .tup gs) ∧ ∃ xs kk pp, tg = .Tuple xs kk pp) → PI X tg e (tI X.K w0 (evI cf m) g)
  | .seq m, g, X, S, tg, e, G, h, ht => by
    unfold chkI at h
    unfold evI
    exact i_seq (sndE m G h)
  | .range1 a, g, X, S, tg, e, G, h, ht => by
    unfold chkI at h
    split at h
    · simp only [Bool.and_eq_true, beq_iff_eq] at h
      obtain ⟨⟨⟨h1, h2⟩, h3⟩, h4⟩ := h
      unfold evI
      exact i_range1 G h1 h2 h4 (sndE a G h3)
    · cases h
  | .range2 a b, g, X, S, tg, e, G, h, ht => by
    unfold chkI at h
    split at h
    · simp only [Bool.and_eq_true, beq_iff_eq] at h
      obtain ⟨⟨⟨⟨⟨h1, h2⟩, h3⟩, h4⟩, h5⟩, h6⟩ := h
      unfold evI
      exact i_range2 G h1 h2 h5 h6 (sndE a G h3) (sndE b G h4)
    · cases h
  | .enum a, g, X, S, tg, e, G, h, ht => by
    unfold chkI at h
    split at h
    · simp only [Bool.and_eq_true, beq_iff_eq] at h
      obtain ⟨⟨⟨⟨h0, h1⟩, h2⟩, h3⟩, h4⟩ := h
      unfold evI
      exact i_enum G h1 h2 h4 (ht h0).1 (ht h0).2 (sndE a G h3)
    · cases h
  | .zip a b, g, X, S, tg, e, G, h, ht => by
    unfold chkI at h
    split at h
    · simp only [Bool.and_eq_true, beq_iff_eq] at h
      obtain ⟨⟨⟨⟨⟨⟨h0, h1⟩, h2⟩, h3⟩, h4⟩, h5⟩, h6⟩ := h
      unfold evI
      exact i_zip G h1 h2 h5 h6 (ht h0).1 (ht h0).2 (sndE a G h3) (sndE b G h4)
    · cases h
end
end
end Mn
end
section
set_option Elab.async false
set_option linter.all false
set_option maxRecDepth 100000
set_option maxHeartbeats 4000000
namespace Mn
open PySem PySem.Spec PyProof.Rows L2
section
variable {X : Cx} {k : Nat} {cf : CF} {fn : List (Nat × Str)} {S : SC}
theorem sw_notComp {v : Expr} {t : Option Expr} {l : Nat} {env : Env} (h : notComp v = true) : swapsWith v t l env = pure false := by
  cases v <;> first | rfl | cases h
theorem swS_notComp {t v : Expr} {l : Nat} {env : Env} (h : notComp v = true) : swapsWithSole [t] v l env = pure false := sw_notComp h
theorem sw_falseLc {el : Expr} {gs : List Comprehension} {scope : Scope} {pos px : Pos} {x : Str} {l : Nat} {env : Env} (h : (env.scope.names.lookup x == some .local && (px.line == pos.line) && !(scope.names.any fun (n, k) => n == x && (k == .local || k == .cell))) = false) :
    swapsWith (.ListComp el gs scope pos) (some (.Name x px)) l env = pure false := by
  have h2 : (env.blockKind == .function && env.kindOf x == some .local && px.line == pos.line && !(scope.names.any fun (n, k) => n == x && (k == .local || k == .cell))) = false := by
    have e : env.kindOf x = env.scope.names.lookup x := rfl
    rw [e]
    cases h1 : (env.blockKind == ScopeKind.function)
    · rfl
    · simpa [Bool.true_and] using h
  unfold swapsWith
  show (pure (env.blockKind == .function && env.kindOf x == some .local && px.line == pos.line && !(scope.names.any fun (n, k) => n == x && (k == .local || k == .cell))) : Sem Bool) = pure false
  rw [h2]
theorem st_asgLc {own : List Nat} {g : MG} {elt tg iter : Expr} {ifs : List Expr} {scope : Scope} {pos py spos : Pos} {i : Nat} {y : Str} {evI : Mn.St → Mem → Res Src} {cnd : Option Mn.Ev} {tt : TT} {ee : Mn.Ev}
    (hc0 : X.calm = true) (hN : X.N.Nodup) (hy : X.N[i]? = some y) (hyl : X.env.scope.names.lookup y = some .local)
    (hsw : swapsWith (.ListComp elt [⟨tg, iter, ifs, 0⟩] scope pos) (some (.Name y py)) spos.line X.env = pure true) (hI : PI X tg iter (tI X.K w0 evI g)) (ok : BlkOk X.N X.env.scope scope (ownP X.N own))
    (hG : ∀ (s : Shared) (H : Hp) (C : Addr) (cl : List (Str × Addr)) (fp : List Addr), PG (X.blk s H scope (compEnvC scope cl C X.env) fp) tg (gT X.K g))
    (hT : ∀ (s : Shared) (H : Hp) (C : Addr) (cl : List (Str × Addr)) (fp : List Addr), PTs (X.blk s H scope (compEnvC scope cl C X.env) fp) ifs tt)
    (hE : ∀ (s : Shared) (H : Hp) (C : Addr) (cl : List (Str × Addr)) (fp : List Addr), PE (X.blk s H scope (compEnvC scope cl C X.env) fp) elt (tE X.K w0 ee))
    (hc : ∀ mσ' σ' β' M' H' (Q : Bool → Hp → Prop), RelH X.K β' M' H' → RelS X.K H' β' mσ' σ' → Out X.K β' M' H' (match cnd with | none => Res.ok true M' | some c => (c mσ' M').bind truth) (kB Q) (fun _ _ _ _ => False) → tt σ' H' Q)
    (hg : g.slots.all (fun i => own.contains i) = true) (hs : ∀ x, foldedSetIterable iter X.env x = pure x) :
    PS X (.Assign [.Name y py] (.ListComp elt [⟨tg, iter, ifs, 0⟩] scope pos) spos) (tSt X.K (fun σ M => (trim M ((evI σ M).bind fun s M1 => lcRun own g cnd ee σ s M1)).bind fun v M1 => .ok (.next (σ.set i (some v))) M1)) := by
  refine PS.imp (ps_setLc hc0 hN hy hyl hsw hI ok hG hT hE hs) fun D σ H h => ?_
  have e : (ownP X.N own).map (·.2) = own := by
    unfold ownP
    rw [List.map_map]
    exact List.map_id' own
  rw [e]
  obtain ⟨mσ, β, M, R, Sl, o⟩ := h
  refine lc_read hc hg (oneT (w := w0) (ea := fun σ M => (evI σ M).bind fun s M1 => lcRun own g cnd ee σ s M1) R Sl o fun v y β1 M1 H1 s1 r1 S1 o1 => ?_)
  exact o1.ok s1.rel _ (S1.set r1)
theorem assign_sub {o i : Expr} {pos : Pos} {env : Env} (h : notSlice i = true) : ∀ v, assign (.Subscript o i pos) env v = (do
      let ov ← holding [v] (eval o env)
      let iv ← holding [v, ov] (eval i env)
      standAt pos
      holding [v, ov, iv] (setItem ov iv v)
      release [v, ov, iv] []) := by
  intro v
  cases i <;> first | rfl | cases h
mutual
theorem sndS : ∀ (m : MS) {X : Cx} {S : SC} {st : Stmt}, Gd X k cf fn S → X.env.scope.kind = .function → chkS X.N fn S m st = true → PS X st (tSt X.K (evS cf m))
  | .asg i e, X, S, st, G, hk, h => by
    unfold chkS at h
    split at h
    · rename_i x px v pos
      simp only [Bool.and_eq_true, beq_iff_eq] at h
      obtain ⟨⟨⟨h1, h2⟩, h3⟩, h4⟩ := h
      unfold evS
      cases hv : notComp v with
      | true => exact st_asg G.nd h1 (G.loc h2) (sw_notComp hv) (sndE e G h3)
      | false =>
        rw [hv, Bool.false_or] at h4
        cases v with
        | ListComp el gens scope pos2 =>
          cases hw : (X.env.scope.names.lookup x == some .local && (px.line == pos2.line) && !(scope.names.any fun (n, k) => n == x && (k == .local || k == .cell))) with
          | false => exact st_asg G.nd h1 (G.loc h2) (sw_falseLc hw) (sndE e G h3)
          | true =>
            simp only [Bool.and_eq_true, beq_iff_eq, Bool.not_eq_true'] at hw
            obtain ⟨⟨w1, w2⟩, w3⟩ := hw
            have hsw := fun l => sw_true (elt := el) (gs := gens) (l := l) hk w1 (beq_iff_eq.mpr w2) w3
            cases e with
            | lc own g it cnd elt =>
              unfold chkE at h3
              split at h3
              · rename_i el tg iter ifs ia scope pos e0
                cases e0
                simp only [Bool.and_eq_true, decide_eq_true_eq] at h3
                obtain ⟨⟨⟨⟨⟨⟨⟨q1, q2⟩, q3⟩, q4⟩, q5⟩, q6⟩, q7⟩, q8⟩ := h3
                subst q1
                have ok := blkOk_by q2
                rw [← G.sc] at ok
                have GB := fun s H C cl fp => G.blk scope ok.uniq s H C cl fp
                have hG := fun s H C cl fp => pg_of (GB s H C cl fp) q6
                have hE := fun s H C cl fp => sndE elt (GB s H C cl fp) q8
                have hI := sndI it (g := g) G q4 fun ht => isTup_of q6 ht
                unfold evE
                cases cnd with
                | none =>
                  cases ifs with
                  | nil =>
                    unfold evC
                    exact st_asgLc (tt := tYes) G.calm G.nd h1 w1 (hsw _) hI ok hG (fun s H C cl fp => pts_nil) hE (fun mσ' σ' β' M' H' Q R Sl o => o.ok R) q3 (notSet_fold q5)
                  | cons _ _ => cases q7
                | some c =>
                  cases ifs with
                  | nil => cases q7
                  | cons x xs =>
                    cases xs with
                    | nil =>
                      simp only [Bool.and_eq_true] at q7
                      have hT := fun s H C cl fp => sndT c (GB s H C cl fp) q7.1 q7.2
                      unfold evC
                      exact st_asgLc (tt := tTs X.K w0 (fun σ M => (evE cf c σ M).bind truth)) G.calm G.nd h1 w1 (hsw _) hI ok hG (fun s H C cl fp => pts_one (hT s H C cl fp)) hE (fun mσ' σ' β' M' H' Q R Sl o => ⟨mσ', β', M', R, Sl, o⟩) q3 (notSet_fold q5)
                    | cons _ _ => cases q7
              · cases h3
            | bcall f args => unfold chkE at h3; split at h3 <;> first | (cases h3; done) | contradiction
            | _ => unfold chkE at h3; cases h3
        | _ => cases h4
    · cases h
  | .asgT g e, X, S, st, G, hk, h => by
    unfold chkS at h
    split at h
    · rename_i ts kk pt v pos
      simp only [Bool.and_eq_true] at h
      obtain ⟨⟨⟨h1, h2⟩, h3⟩, h4⟩ := h
      unfold evS
      refine st_asgT (pg_of G h1) (swS_notComp h3) ?_ (sndE e G h2)
      rw [Bool.or_eq_true] at h4
      rcases h4 with h4 | h4
      · cases v <;> first | rfl | cases h4
      · rw [← G.sc] at h4
        cases v <;> first | exact sw_cap h4 | rfl
    · cases h
  | .par i j es, X, S, st, G, hk, h => by
    unfold chkS at h
    split at h
    · simp only [Bool.and_eq_true, beq_iff_eq, decide_eq_true_eq] at h
      obtain ⟨⟨⟨⟨⟨h1, h2⟩, h3⟩, h4⟩, h5⟩, h6⟩ := h
      unfold evS
      rw [← G.sc] at h5
      have hst := chkEs_star h6
      simp only [List.all_cons, List.all_nil, Bool.and_eq_true, and_true] at hst
      obtain ⟨l1, l2, l3⟩ := sw_two h5 h4 hst.1 hst.2
      exact st_par G.calm G.nd h1 h2 h3 l1 l2 l3 (sndEs es G h6)
    · cases h
  | .par3 i j l es, X, S, st, G, hk, h => by
    unfold chkS at h
    split at h
    · simp only [Bool.and_eq_true, beq_iff_eq, decide_eq_true_eq] at h
      obtain ⟨⟨⟨⟨⟨⟨⟨⟨⟨⟨h1, h2⟩, h2'⟩, h3⟩, h3'⟩, h3''⟩, h4⟩, h4'⟩, h4''⟩, h5⟩, h6⟩ := h
      unfold evS
      rw [← G.sc] at h5
      have hst := chkEs_star h6
      simp only [List.all_cons, List.all_nil, Bool.and_eq_true, and_true] at hst
      obtain ⟨l1, l2, l2', l3⟩ := sw_three h5 h4 h4' h4'' hst.1 hst.2.1 hst.2.2
      exact st_par3 G.calm G.nd h1 h2 h2' h3 h3' h3'' l1 l2 l2' l3 (sndEs es G h6)
    · cases h
  | .setix o i e, X, S, st, G, hk, h => by
    unfold chkS at h
    split at h
    · simp only [Bool.and_eq_true] at h
      obtain ⟨⟨⟨⟨h1, h2⟩, h3⟩, h4⟩, h5⟩ := h
      unfold evS
      exact st_setix (swS_notComp h5) rfl (pg_sub (sndE o G h1) (sndE i G h2) set_okM (assign_sub h4)) (sndE e G h3)
    · cases h
  | .swp o i o2 i2 e, X, S, st, G, hk, h => by
    unfold chkS at h
    split at h
    · simp only [Bool.and_eq_true] at h
      obtain ⟨⟨⟨⟨⟨⟨⟨h1, h2⟩, h3⟩, h4⟩, h5⟩, h6⟩, h7⟩, h8⟩ := h
      unfold evS
      refine st_swp G.calm (swS_notComp h8) ?_ (pg_sub (sndE o G h1) (sndE i G h2) set_okM (assign_sub h6)) (pg_sub (sndE o2 G h3) (sndE i2 G h4) set_okM (assign_sub h7)) (sndE e G h5)
      rename_i v _
      cases v <;> first | exact sw_cap rfl | rfl
    · cases h
  | .expr e, X, S, st, G, hk, h => by
    unfold chkS at h
    split at h
    · simp only [Bool.and_eq_true] at h
      unfold evS
      exact st_expr (sw_notComp h.2) (sndE e G h.1)
    · cases h
  | .ret e, X, S, st, G, hk, h => by
    unfold chkS at h
    split at h
    · unfold evS
      exact st_ret (sndE e G h)
    · cases h
  | .ife c a b, X, S, st, G, hk, h => by
    unfold chkS at h
    split at h
    · simp only [Bool.and_eq_true] at h
      obtain ⟨⟨⟨h1, h2⟩, h3⟩, h4⟩ := h
      unfold evS
      exact st_if (sndT c G h1 h2) (sndSs a G hk h3) (sndSs b G hk h4)
    · cases h
  | .for_ g it b, X, S, st, G, hk, h => by
    unfold chkS at h
    split at h
    · simp only [Bool.and_eq_true] at h
      obtain ⟨⟨⟨h1, h2⟩, h3⟩, h4⟩ := h
      unfold evS
      exact st_for G.po G.calm (sndI it G h2 fun ht => isTup_of h1 ht) (pg_of G h1) (sndSs b G hk h3) (notSet_fold h4)
    · cases h
  | .while_ c b, X, S, st, G, hk, h => by
    unfold chkS at h
    split at h
    · simp only [Bool.and_eq_true] at h
      obtain ⟨⟨h1, h2⟩, h3⟩ := h
      unfold evS
      exact st_while G.po (sndT c G h1 h2) (sndSs b G hk h3)
    · cases h
  | .raise_, X, S, st, G, hk, h => by
    unfold evS
    exact st_raise
  | .pass, X, S, st, G, hk, h => by
    unfold chkS at h
    split at h
    · unfold evS; exact st_pass
    · cases h
  | .brk, X, S, st, G, hk, h => by
    unfold chkS at h
    split at h
    · unfold evS; exact st_brk
    · cases h
  | .cont, X, S, st, G, hk, h => by
    unfold chkS at h
    split at h
    · unfold evS; exact st_cont
    · cases h
theorem sndSs : ∀ (ms : MSs) {X : Cx} {S : SC} {ss : List Stmt}, Gd X k cf fn S → X.env.scope.kind = .function → chkSs X.N fn S ms ss = true → PSs X ss (tSt X.K (evSs cf ms))
  | .nil, X, S, ss, G, hk, h => by
    unfold chkSs at h
    cases ss with
    | nil => unfold evSs; exact st_nil
    | cons _ _ => cases h
  | .cons m ms, X, S, ss, G, hk, h => by
    unfold chkSs at h
    cases ss with
    | nil => cases h
    | cons s ss =>
      simp only [Bool.and_eq_true] at h
      unfold evSs
      exact st_cons (sndS m G hk h.1) (sndSs ms G hk h.2)
end
end

/-! ### defs -/
/-- a def of the text, told small -/
structure FD where
  id : Nat
  name : Str
  st : Stmt
  N : List Str
  ps : List Str
  fn : Fn
  cs : List Nat := []
/-- the look at a def -/
def chkD (names : List (Nat × Str)) (d : FD) : Bool :=
  (match (defScope d.st).kind with | .function => true | _ => false) && !(defScope d.st).isCoroutine && !(defScope d.st).isGenerator && decide d.N.Nodup && (d.N.take d.ps.length == d.ps) &&
    d.ps.all (fun x => match (defScope d.st).names.lookup x with | some .local => true | some .cell => true | _ => false) && (defScope d.st).names.all (fun y => y.2 != .free) &&
    (d.fn.np == d.ps.length) && (d.fn.nn == d.N.length) && chkSs d.N names ⟨defScope d.st, none, d.cs⟩ d.fn.body (defBody d.st)
theorem chkD_scope {names : List (Nat × Str)} {d : FD} (h : chkD names d = true) : FnScope d.N d.ps (defScope d.st) ∧ d.fn.np = d.ps.length ∧ d.fn.nn = d.N.length ∧ chkSs d.N names ⟨defScope d.st, none, d.cs⟩ d.fn.body (defBody d.st) = true := by
  unfold chkD at h
  simp only [Bool.and_eq_true, beq_iff_eq, decide_eq_true_eq, Bool.not_eq_true'] at h
  obtain ⟨⟨⟨⟨⟨⟨⟨⟨⟨h1, h2⟩, h3⟩, h4⟩, h5⟩, h6⟩, h7⟩, h8⟩, h9⟩, h10⟩ := h
  refine ⟨⟨?_, h2, h3, h4, h5, fun x hx => ?_, fun y hy => ?_⟩, h8, h9, h10⟩
  · split at h1
    · assumption
    · cases h1
  · have := List.all_eq_true.mp h6 x hx
    split at this
    · rename_i e; exact .inl e
    · rename_i e; exact .inr e
    · cases this
  · have := List.all_eq_true.mp h7 y hy
    simpa using this
/-- where a def stands, and how it binds -/
structure DefAt (K : PySem.W.Frag) (mg : Str → Option Value) (d : FD) (fa : Addr) (fd : FuncData) : Prop where
  fu : Fun K d.name d.name d.st fa fd
  gl : mg d.name = some (.ref fa)
  bi : Binds K fd d.ps []
section
variable {P : Program} {w : World} {K : PySem.W.Frag} {mg : Str → Option Value} {base : Heap}
theorem start_rel {H : Hp} {β : List Addr} {N : List Str} {pvs : List PV} {vs : List V} (r : Reps K H β pvs vs) : RelS K H β (startσ N.length pvs) (L2.start N vs) := by
  have hl := r.length
  refine ⟨?_, fun i v e => ?_⟩
  · unfold startσ L2.start
    rw [List.length_append, List.length_append, List.length_map, List.length_map, List.length_replicate, List.length_replicate, hl]
  · unfold startσ at e
    by_cases hi : i < pvs.length
    · rw [List.getElem?_append_left (by rw [List.length_map]; exact hi), List.getElem?_map, Option.map_eq_some_iff] at e
      obtain ⟨p, e1, e2⟩ := e
      cases e2
      obtain ⟨x, e3, r3⟩ := r.get e1
      refine ⟨x, ?_, r3⟩
      unfold L2.start
      rw [List.getElem?_append_left (by rw [List.length_map, ← hl]; exact hi), List.getElem?_map, e3]
      rfl
    · rw [List.getElem?_append_right (by rw [List.length_map]; omega), List.getElem?_replicate] at e
      split at e <;> cases e
/-- the body's end from the def's -/
theorem end_out {β : List Addr} {M : Mem} {H : Hp} {r : Res Flow} {Q : VK} (R : RelH K β M H) (o : Out K β M H (endOf M r) (kQ K Q) (fun _ _ _ _ => False)) : Out K β M H r (kS K { nx := fun _ H' => Q .non H', rt := Q }) (fun _ _ _ _ => False) := by
  cases r with
  | ok fl M1 =>
    intro β1 H1 s
    have key : ∀ v x, Out K β M H (trimV M v M1) (kQ K Q) (fun _ _ _ _ => False) → Rep K H1 β1 v x → Q x H1 := fun v x o rx => by
      obtain ⟨v', β2, M2, e, t, hr⟩ := trim_ok R s v
      rw [e] at o
      exact o β2 H1 t x (hr x rx)
    cases fl with
    | next mσ => exact fun σ _ => key .non .non o (rep_non.mpr rfl)
    | ret v => exact fun x rx => key v x o rx
    | brk mσ => exact o.elim
    | cont mσ => exact o.elim
  | exc v M1 => exact o
  | stuck => exact o
/-- the names and the bodies of the defs -/
def nms (ds : List FD) : List (Nat × Str) := ds.map fun d => (d.id, d.name)
def fns (ds : List FD) : List (Nat × Fn) := ds.map fun d => (d.id, d.fn)
theorem lookup_at {α : Type} (h : FD → α) (f : Nat) : ∀ {ds : List FD} {x : α}, (ds.map fun d => (d.id, h d)).lookup f = some x → ∃ d, ds.find? (fun d => f == d.id) = some d ∧ h d = x
  | [], x, e => by cases e
  | d :: ds, x, e => by
    rw [List.map_cons, List.lookup_cons] at e
    rw [List.find?_cons]
    cases hf : f == d.id with
    | true => rw [hf] at e; cases e; exact ⟨d, rfl, rfl⟩
    | false => rw [hf] at e; exact lookup_at h f e
theorem lookup_of {α : Type} (h : FD → α) (f : Nat) : ∀ {ds : List FD} {d : FD}, ds.find? (fun d => f == d.id) = some d → (ds.map fun d => (d.id, h d)).lookup f = some (h d)
  | [], d, e => by cases e
  | c :: ds, d, e => by
    rw [List.map_cons, List.lookup_cons]
    rw [List.find?_cons] at e
    cases hf : f == c.id with
    | true => rw [hf] at e; cases e; rfl
    | false => rw [hf] at e; exact lookup_of h f e
/-- a def by its body, where nothing is being shown -/
theorem FnG.of_body {x qual : Str} {st : Stmt} {fa : Addr} {fd : FuncData} {N ps : List Str} {k : Nat} {sp : Sp} (F : Fun K x qual st fa fd) (S : FnScope N ps (defScope st)) (hlen : ∀ xs H Q E, sp xs H Q E → xs.length = ps.length)
    (hbody : ∀ (cdv : Value) (B : Around) (out : List Env) (s : Shared) (H : Hp) (xs : List V) (Q : VK) (E : XK), Room k (B.deeper (envOfC qual (defScope st) s.heap.objs.size fa cdv)) → B.guards = some [] → sp xs H Q E →
      ∃ t, PSs (cxOf CX0 P w K mg base N qual (defScope st) fa cdv B out s H E).nox (defBody st) t ∧ t { nx := fun _ H' => Q .non H', rt := Q } (L2.start N xs) H) : FnG P w K mg base (k + 1) fa fd ps sp := by
  obtain ⟨oc, od, kV, doc, pm, an, cdv, ct, osl, rfl, lk, hcd⟩ := F.ex
  refine ⟨hlen, fun B out s H as us xs Q E hr hg e0 hb r hsp => ?_⟩
  have hl := hlen _ _ _ _ hsp
  have kin : K.In s.heap := e0.mod.kin.keeps fun b o e => (e0.bs b o e).1
  have nol : s.heap.NoLimit := e0.mod.nolimit.keeps fun b o e => (e0.bs b o e).1
  have hk : ∀ y ∈ ps.zip us, (defScope st).names.lookup y.1 = some .local ∨ ((defScope st).names.lookup y.1 = some .cell ∧ ((cellsFrom (s.heap.objs.size + 1) (defScope st).names []).lookup y.1).isSome = true) := by
    rintro ⟨n, v⟩ hy
    exact (S.par n (List.of_mem_zip hy).1).imp id fun q => ⟨q, PySem.W.cellsFrom_some _ _ _ (.inl q)⟩
  refine codeAny_call_function hr.depth (kin _ _ lk) rfl S.co S.gen rfl (PySem.W.codeRec_of kin hcd) (hb _ _ _ _ (wpAny_newFunctionEnv_cells S.kind hk fun env he s1 y => ?_))
  subst he
  refine ⟨nol.keeps y.toInCall.keep, codeAny_func ?_⟩
  obtain ⟨t, ht, hq⟩ := hbody cdv B out s H xs Q E (hr.deeper _) hg hsp
  have J : Inv (cxOf CX0 P w K mg base N qual (defScope st) fa cdv B out s H E) [] (L2.start N xs) H s1 := inv_start S hr.hd e0 hl r y
  refine wpAny_mono (ht.nox.run [] s1 (L2.start N xs) H _ J hq) (fun fl s' hs => ?_) fun e s' hs => hs
  match fl, hs with
  | .ret u, ⟨v, σ', H', J', rv, q⟩ => exact ⟨v, H', J'.os, J'.bare, J'.base, J'.hok, rv, q⟩
  | .next, ⟨σ', H', J', q⟩ => exact ⟨V.non, H', J'.os, J'.bare, J'.base, J'.hok, rfl, q⟩
  | .brk, ⟨_, _, _, q⟩ => exact q.elim
  | .cont, ⟨_, _, _, q⟩ => exact q.elim
/-- THE THEOREM: each def keeps what the evaluator says of it, at every depth -/
theorem all_fn (ds : List FD) (hc : ∀ d ∈ ds, chkD (nms ds) d = true) (hd : ∀ d ∈ ds, ∃ fa fd, DefAt K mg d fa fd) (hb : ∀ x ∈ bltNames, mg x = none) (hcs : ∀ d ∈ ds, ∀ i ∈ d.cs, CstAt K w mg i) :
    ∀ (k : Nat) (f : Nat) (d : FD), ds.find? (fun d => f == d.id) = some d → ∀ fa fd, DefAt K mg d fa fd → FnG P w K mg base k fa fd d.ps (spM K (run (fns ds) k) f)
  | 0, f, d, hf, fa, fd, D => by
    refine ⟨fun vs H Q E h => ?_, fun A outer s H args us vs Q E hr hgd e0 hb r h => ?_⟩
    · obtain ⟨_, _, _, _, _, o⟩ := h
      exact o.elim
    · obtain ⟨_, _, _, _, _, o⟩ := h
      exact o.elim
  | k + 1, f, d, hf, fa, fd, D => by
    have ih := all_fn ds hc hd hb hcs k
    obtain ⟨sc, np, nn, ck⟩ := chkD_scope (hc d (List.mem_of_find?_eq_some hf))
    have hfn : (fns ds).lookup f = some d.fn := lookup_of (·.fn) f hf
    have runE : ∀ pvs M, run (fns ds) (k + 1) f pvs M = if pvs.length = d.fn.np then endOf M (evSs (run (fns ds) k) d.fn.body (startσ d.fn.nn pvs) M) else .stuck := fun pvs M => by
      rw [run]
      simp only [hfn]
    refine .of_body D.fu sc (fun vs H Q E h => ?_) (fun cdv A outer s H vs Q E hr hgd h => ?_)
    · obtain ⟨pvs, β, M, R, r, o⟩ := h
      rw [runE] at o
      by_cases hl : pvs.length = d.fn.np
      · rw [← r.length, hl, np]
      · rw [if_neg hl] at o; exact o.elim
    · obtain ⟨pvs, β, M, R, r, o⟩ := h
      rw [runE] at o
      by_cases hl : pvs.length = d.fn.np
      · rw [if_pos hl] at o
        let X := (cxOf CX0 P w K mg base d.N d.name (defScope d.st) fa cdv A outer s H E).nox
        have G : Gd X k (run (fns ds) k) (nms ds) ⟨defScope d.st, none, d.cs⟩ := {
          calm := rfl
          nd := sc.nd
          room := hr
          gd := hgd
          sc := rfl
          fnk := fun _ _ => rfl
          po := PassesOwn.never
          blt := hb
          fns := fun g x hx => by
            obtain ⟨d', e1, e2⟩ := lookup_at (·.name) g hx
            subst e2
            obtain ⟨fa', fd', D'⟩ := hd d' (List.mem_of_find?_eq_some e1)
            exact ⟨fa', fd', d'.ps, D'.gl, D'.fu.kp, D'.bi, ih g d' e1 fa' fd' D'⟩
          cst := fun i hi => hcs d (List.mem_of_find?_eq_some hf) i hi }
        refine ⟨_, sndSs d.fn.body G sc.kind ck, startσ d.fn.nn pvs, β, M, R, ?_, end_out R o⟩
        rw [nn]
        exact start_rel r
      · rw [if_neg hl] at o; exact o.elim
end
end Mn
end
section
set_option Elab.async false
set_option linter.all false
set_option maxRecDepth 100000
set_option maxHeartbeats 4000000
namespace Mn
open PySem PySem.Spec PyProof.Rows L2
section
variable {K : PySem.W.Frag} {mg : Str → Option Value} {h : Heap}
/-- how a def binds -/
def BindsAs (d : FD) : Prop := ∀ (kV doc pm : Value) (an : Option Addr) (cdv ct : Value) (us : List Value), us.length = d.ps.length → bindArgs (PySem.W.fnOf d.name d.name (defArgs d.st) (defBody d.st) (defScope d.st) .none kV doc pm an cdv ct) ⟨us, []⟩ = pure (d.ps.zip us)
/-- what the top left of a def -/
def Left (K : PySem.W.Frag) (d : FD) : Prop := ∃ (f : Addr) (oc : Value) (od : Option Addr) (kV dc pm : Value) (an : Option Addr) (cd ct : Value) (sl : Array (Option Value)),
  PySem.W.nsIn K mainGlobals d.name = some (some (.ref f)) ∧ K.lookup f = some ⟨oc, od, .func (PySem.W.fnOf d.name d.name (defArgs d.st) (defBody d.st) (defScope d.st) .none kV dc pm an cd ct), sl⟩ ∧
    PySem.W.codeIn K cd d.name = true ∧ PySem.W.keepIn K (.ref f) = true
theorem left_mk {d : FD} {f : Addr} {oc : Value} {od : Option Addr} {kV dc pm : Value} {an : Option Addr} {cd ct : Value} {sl : Array (Option Value)} (a : PySem.W.nsIn K mainGlobals d.name = some (some (.ref f)))
    (l : K.lookup f = some ⟨oc, od, .func (PySem.W.fnOf d.name d.name (defArgs d.st) (defBody d.st) (defScope d.st) .none kV dc pm an cd ct), sl⟩) (c : PySem.W.codeIn K cd d.name = true) (k : PySem.W.keepIn K (.ref f) = true) : Left K d :=
  ⟨f, oc, od, kV, dc, pm, an, cd, ct, sl, a, l, c, k⟩
theorem Left.at {d : FD} (x : Left K d) (X : K.In h) (G : h.Ns mainGlobals mg) (b : BindsAs d) : ∃ fa fd, DefAt K mg d fa fd := by
  obtain ⟨f, oc, od, kV, dc, pm, an, cd, ct, sl, a, l, c, k⟩ := x
  have F := fun_mk (st := d.st) l c k
  exact ⟨f, _, F, PySem.W.mg_of X G a, F.binds b⟩
/-- the law's def -/
theorem Left.law {lw : PySem.W.OpenLaw} {w : World} {ds : List FD} {f : Nat} {d : FD} {fa : Addr} {x : Str} {k : Nat} (X : K.In h) (G : h.Ns mainGlobals mg) (hfa : mg d.name = some (.ref fa)) (hx : d.ps = [x]) (hf : ds.find? (fun d => f == d.id) = some d)
    (hc : (ds.all fun d => chkD (nms ds) d) = true) (hl : ∀ d ∈ ds, Left K d ∧ BindsAs d) (hb : ∀ y ∈ bltNames, PySem.W.nsIn K mainGlobals y = some none) (hcs : ∀ d ∈ ds, ∀ i ∈ d.cs, CstAt K w mg i) :
    ∃ fd : FuncData, (∀ (s : Shared) (v : Value), BindsTo s fd ⟨[v], []⟩ [(x, v)]) ∧ ∀ base : Heap, K.In base → base.Ns mainGlobals mg → FnG lw.prog w K mg base k fa fd [x] (spM K (run (fns ds) k) f) := by
  obtain ⟨lf, bf⟩ := hl d (List.mem_of_find?_eq_some hf)
  obtain ⟨f', oc, od, kV, dc, pm, an, cd, ct, sl, a, l, c, kp⟩ := lf
  have e := hfa.symm.trans (PySem.W.mg_of X G a)
  cases e
  have F := fun_mk (st := d.st) l c kp
  have D : DefAt K mg d fa _ := ⟨F, PySem.W.mg_of X G a, F.binds bf⟩
  refine ⟨PySem.W.fnOf d.name d.name (defArgs d.st) (defBody d.st) (defScope d.st) .none kV dc pm an cd ct, fun s v => ?_, fun base _ _ => ?_⟩
  · have := bf kV dc pm an cd ct [v] (by rw [hx]; rfl)
    rw [hx] at this
    exact .of_eq this
  · have := all_fn (P := lw.prog) (w := w) (base := base) ds (fun d hd => List.all_eq_true.mp hc d hd) (fun d hd => (hl d hd).1.at X G (hl d hd).2) (fun y hy => PySem.W.mg_none_of X G (hb y hy)) hcs k f d hf fa _ D
    rw [hx] at this
    exact this
end
/-- the script, small -/
def scr (ns : List Int) : Mem := ⟨1, [.rol (ns.map PV.int)], 0⟩
theorem law_sp {K : PySem.W.Frag} {H : Hp} {a : Addr} {ns : List Int} {cf : CF} {f : Nat} {M' : Mem} (hO : Only H) (hS : SqL K H a (ns.map V.int)) (h : cf f [.ref 0] (scr ns) = .ok (.bl true) M') : spM K cf f [.ref a] H (fun v _ => v = .bl true) fun _ _ _ => False := by
  have rol : Rol K H a (ns.map V.int) := by
    rcases hS with (h1 | ⟨o, h1⟩) | h1
    · rcases hO a with z | ⟨o, xs, z⟩
      · rw [h1] at z; cases z
      · rw [h1] at z; cases z
    · exact .inl ⟨o, h1⟩
    · exact .inr h1
  have g0 : ∀ {n o}, (scr ns).get n = some o → n = 0 ∧ o = .rol (ns.map PV.int) := fun {n o} e => by
    have hn : n < 1 := get_lt e
    have hn : n = 0 := by omega
    subst hn
    cases e
    exact ⟨rfl, rfl⟩
  refine ⟨[.ref 0], [a], scr ns, ⟨rfl, rfl, fun n m b xs ys e1 => ?_, fun n o e => ?_⟩, .one (rep_ref.mpr ⟨a, rfl, rfl⟩), ?_⟩
  · obtain ⟨_, e2⟩ := g0 e1
    cases e2
  · obtain ⟨rfl, rfl⟩ := g0 e
    exact ⟨a, rfl, _, rol, reps_ints ns⟩
  · rw [h]
    exact fun β' H' s x rx => rep_bl.mp rx
/-- the law's call, from its promise -/
theorem law_callG {P : Program} {w : World} {K : PySem.W.Frag} {mg mb : Str → Option Value} {k : Nat} {fa a : Addr} {fd : FuncData} {x : Str} {sp : Sp} {z : Shared} {vs : List Value} {ns : List Int}
    (KX : K.In z.heap) (hns : z.heap.Ns mainGlobals mg) (hb : z.heap.Ns builtinsNs mb) (hbb : ∀ x : Str, x ≠ "__name__" → mb x = bootBuiltins x) (hlim : z.heap.NoLimit) (hg : z.gens = #[])
    (ha : z.heap.get? a = some { cls := .type "list", data := .seq vs.toArray }) (hi : IntsAre vs ns) (hl : ns.length ≤ sizeLine) (hr : Room k callerA)
    (F : ∀ base : Heap, K.In base → base.Ns mainGlobals mg → FnG P w K mg base k fa fd [x] sp) (hbind : ∀ (s : Shared) (u : Value), BindsTo s fd ⟨[u], []⟩ [(x, u)])
    (hsp : ∀ H : Hp, Only H → SqL K H a (ns.map V.int) → sp [.ref a] H (fun v _ => v = .bl true) E0) :
    codeAny (model P w) callerA (.call (.ref fa) ⟨[.ref a], []⟩) (fun r s' => r = .ok (.ret (.bool true)) ∧ OldK z.heap s'.heap ∧ s'.os = z.os ∧ AllBare s'.gens) z := by
  have rv := vals_ints hi
  have key : ∀ H : Hp, Only H → SqL K H a (ns.map V.int) → HOk P w H z.heap → (∀ b, H b ≠ none → b = a) → (H a ≠ none → K.lookup a = none) →
      codeAny (model P w) callerA (.call (.ref fa) ⟨[.ref a], []⟩) (fun r s' => r = .ok (.ret (.bool true)) ∧ OldK z.heap s'.heap ∧ s'.os = z.os ∧ AllBare s'.gens) z := by
    intro H hO hS ok only hK
    have low : ∀ {b : Addr} {m : Str → Option Value}, z.heap.Ns b m → (hidT z.heap H).Ns b m := by
      rintro b m ⟨o, es, ep, e, d, r⟩
      refine ⟨o, es, ep, hidT_get e ?_, d, r⟩
      cases q : H b with
      | none => rfl
      | some u =>
        have : b = a := only b (by rw [q]; simp)
        subst this
        rw [ha] at e; cases e
        have d' : Data.seq vs.toArray _ = Data.dict es ep := d
        cases d'
    have kb : K.In (hidT z.heap H) := by
      intro b o e
      refine hidT_get (KX b o e) ?_
      cases q : H b with
      | none => rfl
      | some u =>
        have : b = a := only b (by rw [q]; simp)
        subst this
        rw [hK (by rw [q]; simp)] at e; cases e
    have md : Mod K mg (hidT z.heap H) := ⟨kb, low hns, ⟨mb, low hb, hbb⟩, let ⟨mc, h1, h2⟩ := hlim; ⟨mc, low h1, h2⟩⟩
    have e0 : Env0 P w K mg (hidT z.heap H) callerA [] z H := ⟨rfl, md, fun b o e => of_hidT e, Nat.le_of_eq (hidT_size _ _), trivial, fun b hb => absurd (show b ∈ ([] : List Addr) from hb) (by simp), ok, .of_eq hg⟩
    refine codeAny_mono ((F _ kb (low hns)).goes callerA [] z H ⟨[.ref a], []⟩ [.ref a] [.ref a] _ _ hr rfl e0 (hbind z (.ref a)) (.cons rfl .nil) (hsp H hO hS)) fun r s' h => ?_
    match r, h with
    | .error e, h => exact h.elim
    | .ok .next, h => exact h.elim
    | .ok .brk, h => exact h.elim
    | .ok .cont, h => exact h.elim
    | .ok (.ret u), ⟨v, H', os, bare, un, ok', r', q⟩ =>
      have q' : v = .bl true := q
      subst q'
      obtain rfl : u = Value.bool true := r'
      refine ⟨rfl, OldK.of_keep fun b o e => ?_, os, bare⟩
      cases q : H b with
      | none => exact un.keep b o e q (by intro z; exact absurd (show b ∈ ([] : List Addr) from z) (by simp)) (by simp)
      | some u =>
        rcases hO b with n | ⟨ob, xs, n⟩
        · rw [q] at n; cases n
        · obtain ⟨e1, _⟩ := ok b _ n
          obtain ⟨e2, _⟩ := ok' b _ (un.frzs b ob _ n)
          rw [e] at e1; cases e1
          exact e2
  cases hk : K.lookup a with
  | some o =>
    have e := KX a o hk
    rw [ha] at e
    cases e
    exact key (fun _ => none) (fun _ => .inl rfl) (.inr ⟨_, vs.toArray, _, hk, rfl, rfl, rfl, by rw [List.size_toArray, hi.length]; exact hl, by simpa using rv⟩) (fun b u z => by have z' : (none : Option HO) = some u := z; cases z') (fun b z => absurd rfl z) fun z => absurd rfl z
  | none =>
    have at_a : ∀ b u, (if b = a then some (HO.frz { cls := .type "list", data := .seq vs.toArray } (.lst (ns.map V.int))) else none) = some u → b = a ∧ u = HO.frz { cls := .type "list", data := .seq vs.toArray } (.lst (ns.map V.int)) := by
      intro b u e
      split at e
      · rename_i hb
        exact ⟨hb, (Option.some.inj e).symm⟩
      · cases e
    refine key (fun b => if b = a then some (.frz { cls := .type "list", data := .seq vs.toArray } (.lst (ns.map V.int))) else none) (fun b => ?_) (.inl (.inr ⟨{ cls := .type "list", data := .seq vs.toArray }, if_pos rfl⟩)) (fun b u e => ?_) (fun b e => ?_) fun _ => hk
    · by_cases hb : b = a
      · exact .inr ⟨_, _, if_pos hb⟩
      · exact .inl (if_neg hb)
    · obtain ⟨rfl, rfl⟩ := at_a b u e
      exact ⟨ha, by rw [List.length_map]; exact hl, vs, _, rv, ha⟩
    · by_cases hb : b = a
      · exact hb
      · exact absurd (if_neg hb) e
/-- what k_head leaves, from the law's promise -/
theorem walkG {l : PySem.W.OpenLaw} {n k : Nat} {q : Program} {loose : List Str} {XP : (Str → Option Value) → Heap → Prop} {YP : World → Heap → Prop} {d : DefRec} {K : Params → PySem.W.Frag} {sp : PySem.W.Frag → Sp} {x : Str}
    (hn : l.most = some n) (hn2 : n ≤ sizeLine) (hdf : d.params.defaults = []) (hr : Room k callerA) (hY : ∀ (w : World) (h : Heap), YP w h → (K w.params).In h)
    (F : ∀ (w : World) (mg : Str → Option Value) (fa : Addr) (h : Heap), (K w.params).In h → h.Ns mainGlobals mg → mg d.name = some (.ref fa) →
      ∃ fd : FuncData, (∀ (s : Shared) (u : Value), BindsTo s fd ⟨[u], []⟩ [(x, u)]) ∧ ∀ base : Heap, (K w.params).In base → base.Ns mainGlobals mg → FnG l.prog w (K w.params) mg base k fa fd [x] (sp (K w.params)))
    (hsp : ∀ (K : PySem.W.Frag) (H : Hp) (a : Addr) (ns : List Int), ns.length ≤ n → Only H → SqL K H a (ns.map V.int) → sp K [.ref a] H (fun v _ => v = .bl true) E0) :
    PySem.W.WalkO q loose XP YP l.row.toRowW d [] (fun f vs => PySem.call f vs) := by
  refine Att.attach_call hn hdf fun w s₀ z mg mb fa o pm cd doc a vs ns G Y ho hd hcd hmg hobj hints hlen hg => ?_
  obtain ⟨fd, hb, hF⟩ := F w mg fa _ (hY w _ Y) G.T.g hmg
  exact law_callG (hY w _ Y) G.T.g G.T.b G.T.builtins G.T.nolimit hg hobj hints (Nat.le_trans hlen hn2) hr hF hb fun H hO hS => hsp _ H a ns hlen hO hS
end Mn
end
section
set_option Elab.async false
set_option linter.all false
set_option maxRecDepth 100000
set_option maxHeartbeats 4000000
namespace Mn
open PySem PySem.Spec PyProof.Rows L2
/-! ### a dict of the top, of tuples of whole numbers, as the top left it -/
def intQ : Value → Option Int
  | .int i _ => some i
  | _ => none
def absI : List Value → Option (List Int)
  | [] => some []
  | u :: r => (intQ u).bind fun i => (absI r).map (i :: ·)
theorem absI_ok {K : PySem.W.Frag} {H : Hp} {β : List Addr} : ∀ {us : List Value} {is : List Int}, absI us = some is → Vals (is.map V.int) us ∧ Reps K H β (is.map PV.int) (is.map V.int) ∧ us.length = is.length
  | [], is, h => by cases h; exact ⟨.nil, reps_nil.mpr rfl, rfl⟩
  | u :: us, is, h => by
    rw [absI] at h
    obtain ⟨i, e0, h⟩ := Option.bind_eq_some_iff.mp h
    obtain ⟨is', e, rfl⟩ := Option.map_eq_some_iff.mp h
    obtain ⟨h1, h2, h3⟩ := absI_ok (K := K) (H := H) (β := β) e
    unfold intQ at e0
    split at e0
    · cases e0
      exact ⟨.cons ⟨_, rfl⟩ h1, reps_cons.mpr ⟨_, _, rfl, rep_int.mpr rfl, h2⟩, by rw [List.length_cons, List.length_cons, h3]⟩
    · cases e0
def tupQ (K : PySem.W.Frag) (b : Addr) (is : List Int) : Bool := match K.lookup b with
  | some ⟨.type c, none, .seq its _, _⟩ => decide (c = "tuple") && decide (absI its.toList = some is)
  | _ => false
theorem tupQ_ok {K : PySem.W.Frag} {b : Addr} {is : List Int} (h : tupQ K b is = true) (hl : is.length ≤ 100) (H : Hp) (β : List Addr) : Rep K H β (pT is) (.ref b) := by
  unfold tupQ at h
  split at h
  · rename_i c its n sl q
    rw [Bool.and_eq_true, decide_eq_true_eq, decide_eq_true_eq] at h
    obtain ⟨rfl, h2⟩ := h
    obtain ⟨k1, k2, k3⟩ := absI_ok (K := K) (H := H) (β := β) h2
    refine rep_tup.mpr ⟨b, is.map V.int, rfl, .inr ⟨_, its, n, q, rfl, rfl, rfl, ?_, k1⟩, k2⟩
    rw [← Array.length_toList, k3]
    exact Nat.le_trans hl (by decide)
  · cases h
def refQ : Option (Option Value) → Option Addr
  | some (some (.ref b)) => some b
  | _ => none
def valsQ (K : PySem.W.Frag) (a : Addr) (tab : List (Str × List Int)) : Bool := tab.all fun q => match refQ (PySem.W.nsIn K a q.1) with
  | some b => tupQ K b q.2
  | none => false
def tab0 : List (Str × List Int) := [("thing", []), ("it", []), ("first", []), ("last", []), ("most", [2]), ("if", [1, 2, 3]), ("ahead", [2, 3]), ("more", [1, 2]), ("same", [1, 2]), ("less", [1, 2]), ("not", [1]), ("both", [1, 2]), ("num", []), ("tops", [1]), ("points", [1]), ("beats", [1]), ("behind", [2]), ("sum", [1, 2])]
theorem lookup_tab : ∀ {tab : List (Str × List Int)} {s : Str} {p : PV}, (tab.map fun q => (q.1, pT q.2)).lookup s = some p → ∃ is, (s, is) ∈ tab ∧ p = pT is
  | [], s, p, h => by cases h
  | (x, is) :: tab, s, p, h => by
    rw [List.map_cons, List.lookup_cons] at h
    split at h
    · rename_i e
      have e := eq_of_beq e
      subst e
      cases h
      exact ⟨is, List.mem_cons_self, rfl⟩
    · obtain ⟨is', h1, h2⟩ := lookup_tab h
      exact ⟨is', List.mem_cons_of_mem _ h1, h2⟩
theorem cst0_of {K : PySem.W.Frag} {w : World} {mg : Str → Option Value} {h : Heap} {a : Addr} {ks : List Str} (X : K.In h) (G : h.Ns mainGlobals mg) (g : PySem.W.nsIn K mainGlobals "INNER" = some (some (.ref a)))
    (d : He.dicW K a = some (He.keysIn w.params ks)) (v : valsQ K a tab0 = true) : CstAt K w mg 0 := by
  intro c hc
  obtain rfl : ((("INNER", tab0.map fun q => (q.1, pT q.2)) : Str × List (Str × PV))) = c := Option.some.inj hc
  refine ⟨a, PySem.W.mg_of X G g, fun s p hp => ?_⟩
  obtain ⟨is, hm, rfl⟩ := lookup_tab hp
  obtain ⟨es, n, D⟩ := He.dicW_ok d
  have hv := List.all_eq_true.mp v _ hm
  split at hv
  · rename_i b e
    have e1 : PySem.W.nsIn K a s = some (some (.ref b)) := by
      unfold refQ at e
      split at e
      · rename_i e2; cases e; exact e2
      · cases e
    have hl : is.length ≤ 100 := by
      have : (tab0.all fun q => decide (q.2.length ≤ 100)) = true := by decide
      have := List.all_eq_true.mp this _ hm
      exact of_decide_eq_true this
    exact ⟨.ref b, ⟨es, n, .ref b, D.at_, D.lit, e1, rfl⟩, fun H β => tupQ_ok hv hl H β⟩
  · cases hv
end Mn
end
section
set_option Elab.async false
set_option linter.all false
set_option maxRecDepth 100000
set_option maxHeartbeats 4000000
namespace Vt
open PySem Mn
/-- values as trees: no places -/
inductive TV where
  | non | bl (b : Bool) | int (i : Int) | str (x : Str) | tup (xs : List TV) | lst (xs : List TV) | rol (xs : List TV)
  deriving Inhabited
/-- what a name holds: a value that stays as it is, or a list of its own -/
inductive SV where
  | val (v : TV) | live (xs : List TV)
abbrev SS := List (Option SV)
inductive RT (α : Type) where
  | ok (a : α) (σ : SS)
  | exc (e : TV) (σ : SS)
  | stuck
def RT.bind {α β : Type} (r : RT α) (f : α → SS → RT β) : RT β :=
  match r with
  | .ok a σ => f a σ
  | .exc e σ => .exc e σ
  | .stuck => .stuck
/-- an operand: a name's own list, or a value -/
inductive Op where
  | bor (i : Nat) | own (s : SV)
def rd (σ : SS) (i : Nat) : Option SV := (σ[i]?).getD none
def SV.tv : SV → TV
  | .val w => w
  | .live xs => .lst xs
def look (σ : SS) : Op → Option TV
  | .own s => some s.tv
  | .bor i => (rd σ i).map SV.tv
def lookL (σ : SS) : List Op → Option (List TV)
  | [] => some []
  | o :: os => (look σ o).bind fun w => (lookL σ os).map fun ws => w :: ws
/-- kept as it is from now on -/
def frz (σ : SS) : Op → Option (TV × SS)
  | .own s => some (s.tv, σ)
  | .bor i => match rd σ i with
    | some s => some (s.tv, σ.set i (some (.val s.tv)))
    | none => none
def frzL (σ : SS) : List Op → Option (List TV × SS)
  | [] => some ([], σ)
  | o :: os => (frz σ o).bind fun p => (frzL p.2 os).map fun q => (p.1 :: q.1, q.2)
/-- handed on -/
def mv (σ : SS) : Op → Option (SV × SS)
  | .own s => some (s, σ)
  | .bor i => match rd σ i with
    | some s => some (s, σ.set i none)
    | none => none

/-- as the small values; lists have none -/
def TV.toP : TV → PV
  | .non => .non
  | .bl b => .bl b
  | .int i => .int i
  | .str x => .str x
  | .tup xs => .tup (toPs xs)
  | .lst _ => .ref 0
  | .rol _ => .ref 0
where toPs : List TV → List PV
  | [] => []
  | x :: xs => x.toP :: toPs xs
def ofP : PV → TV
  | .non => .non
  | .bl b => .bl b
  | .int i => .int i
  | .str x => .str x
  | .tup xs => .tup (ofPs xs)
  | .ref _ => .non
where ofPs : List PV → List TV
  | [] => []
  | x :: xs => ofP x :: ofPs xs
def shT (w : TV) : Bool := shallow w.toP
/-- the items of a list -/
def TV.li : TV → Option (List TV)
  | .lst xs => some xs
  | .rol xs => some xs
  | _ => none
/-- the items of a list or a tuple -/
def TV.seq : TV → Option (List TV)
  | .lst xs => some xs
  | .rol xs => some xs
  | .tup xs => some xs
  | _ => none

def eqT (v w : TV) : Option Bool :=
  match v.li, w.li with
  | some xs, some ys => if xs.all shT && ys.all shT then some (PV.eqv.eqvs (TV.toP.toPs xs) (TV.toP.toPs ys)) else none
  | some xs, none => if xs.all shT && shT w then some false else none
  | none, some ys => if ys.all shT && shT v then some false else none
  | none, none => if shT v && shT w then some (v.toP.eqv w.toP) else none
def inT (v w : TV) : Option Bool :=
  match w.seq with
  | some ys => if shT v && ys.all shT then some (ys.any fun y => y.toP.eqv v.toP) else none
  | none => none
def truthT : TV → Option Bool
  | .non => some false
  | .bl b => some b
  | .int i => some (i != 0)
  | .str x => if x.length ≤ LIM then some ((x.length : Int) != 0) else none
  | .tup xs => some (!xs.isEmpty)
  | .lst xs => some (!xs.isEmpty)
  | .rol xs => some (!xs.isEmpty)
def vI (i : Int) : Option SV := some (.val (.int i))
def vB (b : Bool) : Option SV := some (.val (.bl b))
def binT (op : Operator) (v w : TV) : Option SV :=
  match op, v, w with
  | .Add, .int i, .int j => vI (i + j)
  | .Add, .str x, .str y => if x.length + y.length ≤ LIM then some (.val (.str (x ++ y))) else none
  | .Add, .tup xs, .tup ys => if xs.length + ys.length ≤ LIM then some (.val (.tup (xs ++ ys))) else none
  | .Add, .lst xs, .lst ys => if xs.length + ys.length ≤ LIM then some (.live (xs ++ ys)) else none
  | .Sub, .int i, .int j => vI (i - j)
  | .Mult, .int i, .int j => if isMul i j then vI (i * j) else none
  | .Mult, .lst xs, .int k => if -1000 ≤ k ∧ k ≤ 1000 ∧ xs.length * k.toNat ≤ LIM then some (.live (List.replicate k.toNat xs).flatten) else none
  | .Mult, .tup xs, .int k => if 2 ≤ k ∧ k ≤ 1000 ∧ xs.isEmpty = false ∧ xs.length ≤ 1000 then some (.val (.tup (List.replicate k.toNat xs).flatten)) else none
  | .FloorDiv, .int i, .int j => if 0 < j ∧ j < 1073741824 then vI (i / j) else none
  | .Mod, .int i, .int j => if 0 < j then vI (i % j) else none
  | .Pow, .int i, .int j => if 0 ≤ j ∧ j ≤ 1000000 ∧ i.natAbs < 2 ^ 64 then vI (i ^ j.toNat) else none
  | .LShift, .int i, .int j => if 0 ≤ j ∧ j ≤ 1000000 ∧ i.natAbs < 2 ^ 64 then vI (i * 2 ^ j.toNat) else none
  | .RShift, .int i, .int j => if 0 ≤ j then vI (i / 2 ^ j.toNat) else none
  | .BitAnd, .int i, .int j => vI (Builtin.bitAnd i j)
  | .BitOr, .int i, .int j => vI (Builtin.bitOr i j)
  | _, _, _ => none
def isNonT : TV → Bool
  | .non => true
  | _ => false
def ltOkT (v w : TV) : Bool := ltOk v.toP w.toP
def prT (v : TV) : Option (Int × List TV) :=
  match v with
  | .tup [.int i, x] => x.li.map fun xs => (i, xs)
  | _ => none
def unpT (p : Int × List TV) : TV := .tup [.int p.1, .tup p.2]
def ltPrT (v w : TV) : Option SV :=
  match prT v, prT w with
  | some p, some q => if ltOkT (unpT p) (unpT q) then vB ((unpT p).toP.lt (unpT q).toP) else none
  | _, _ => none
def cmpT (op : CmpOp) (v w : TV) : Option SV :=
  match op with
  | .Eq => (eqT v w).bind fun b => vB b
  | .NotEq => (eqT v w).bind fun b => vB (!b)
  | .In => (inT v w).bind fun b => vB b
  | .NotIn => (inT v w).bind fun b => vB (!b)
  | .Is => (match w with | .non => vB (isNonT v) | .bl b => (match v with | .bl a => vB (decide (a = b)) | _ => none) | _ => none)
  | .IsNot => (match w with | .non => vB (!isNonT v) | .bl b => (match v with | .bl a => vB (!decide (a = b)) | _ => none) | _ => none)
  | .Lt => (match v, w with | .int i, .int j => vB (decide (i < j)) | v, w => if ltOkT v w then vB (v.toP.lt w.toP) else ltPrT v w)
  | .LtE => (match v, w with | .int i, .int j => vB (decide (i ≤ j)) | v, w => if ltOkT v w then vB (!w.toP.lt v.toP) else none)
  | .Gt => (match v, w with | .int i, .int j => vB (decide (j < i)) | v, w => if ltOkT v w then vB (w.toP.lt v.toP) else none)
  | .GtE => (match v, w with | .int i, .int j => vB (decide (j ≤ i)) | v, w => if ltOkT v w then vB (!v.toP.lt w.toP) else none)
def ixT (v i : TV) : Option SV :=
  match i with
  | .int i => v.seq.bind fun xs => (ixOf xs.length i).bind fun j => xs[j]?.map SV.val
  | _ => none
def cutT (xs : List TV) (lo hi : Option Int) : List TV := (xs.drop (sIx xs.length 0 lo)).take (sIx xs.length xs.length hi - sIx xs.length 0 lo)
def slT (v : TV) (lo hi : Option Int) : Option SV :=
  match v with
  | .tup xs => some (.val (.tup (cutT xs lo hi)))
  | .lst xs => some (.live (cutT xs lo hi))
  | .rol xs => some (.live (cutT xs lo hi))
  | _ => none
def toI : TV → Option Int
  | .int i => some i
  | _ => none
def stpT (v w : TV) : Option SV :=
  match v, w with
  | .tup xs, .int i => if i = 1 then some (.val (.tup xs)) else if i = -1 then some (.val (.tup xs.reverse)) else none
  | _, _ => none
def intsT : List TV → Option (List Int)
  | [] => some []
  | .int i :: xs => (intsT xs).map (i :: ·)
  | _ => none
def blsT : List TV → Option (List Bool)
  | [] => some []
  | .bl i :: xs => (blsT xs).map (i :: ·)
  | _ => none
def rangeT (lo hi : Int) : List TV := (List.range (hi - lo).toNat).map fun k => .int (lo + (k : Nat))
def tupZT : TV → Option (List Int)
  | .tup xs => intsT xs
  | _ => none
def tupZsT : List TV → Option (List (List Int))
  | [] => some []
  | x :: xs => (tupZT x).bind fun k => (tupZsT xs).map (k :: ·)
def bcallT (f : BF) (ws : List TV) : Option SV :=
  match f, ws with
  | .len, [v] => (match v with
    | .str x => if x.length ≤ LIM then vI x.length else none
    | v => v.seq.bind fun xs => vI xs.length)
  | .all, [v] => (v.seq.bind blsT).bind fun bs => vB (bs.all id)
  | .any, [v] => (v.seq.bind blsT).bind fun bs => vB (bs.any id)
  | .sum, [v] => (v.li.bind intsT).bind fun ns => vI ns.sum
  | .int, [.int i] => vI i
  | .int, [.bl b] => vI (if b then 1 else 0)
  | .list, [v] => v.seq.map SV.live
  | .tuple, [v] => v.seq.map fun xs => .val (.tup xs)
  | .max2, [.int i, .int j] => vI (if j > i then j else i)
  | .min2, [.int i, .int j] => vI (if j < i then j else i)
  | .max1, [v] => (v.seq.bind intsT).bind fun l => (match l with | i :: is => vI (maxL i is) | [] => none)
  | .min1, [v] => (v.seq.bind intsT).bind fun l => (match l with | i :: is => vI (minL i is) | [] => none)
  | .maxD, [v, .int d] => (v.li.bind intsT).bind fun l => (match l with | i :: is => vI (maxL i is) | [] => vI d)
  | .sorted, [v] => v.li.bind fun xs => (match intsT xs with
    | some is => some (.live ((isort is).map TV.int))
    | none => if srtOk (TV.toP.toPs xs) then some (.live (ofP.ofPs ((TV.toP.toPs xs).mergeSort fun a b => !b.lt a))) else none)
  | .repr, [v] => (match v.li with
    | some xs => if xs.all shT && repOk (.list (PV.toD.toDs (TV.toP.toPs xs))) then some (.val (.str (PyData.list (PV.toD.toDs (TV.toP.toPs xs))).shown)) else none
    | none => if shT v && repOk v.toP.toD then some (.val (.str v.toP.toD.shown)) else none)
  | .tupRev, [v] => v.seq.map fun xs => .val (.tup xs.reverse)
  | .srtSet, [v] => (match v with
    | .tup xs => (match intsT xs with
      | some is => if is.length ≤ 1000 ∧ (dd is).length < 64 then some (.live ((isort (dd is)).map TV.int)) else none
      | none => (tupZsT xs).bind fun ks => if ks.length < 64 ∧ (ks.all fun k => !k.isEmpty) = true then some (.live (((dd ks).mergeSort leZ).map fun k => TV.tup (k.map TV.int))) else none)
    | v => (match v.li.bind tupZsT with
      | some ks => if ks.length < 64 ∧ (ks.all fun k => !k.isEmpty) = true then some (.live (((dd ks).mergeSort leZ).map fun k => TV.tup (k.map TV.int))) else none
      | none => (v.li.bind intsT).bind fun is => if is.length ≤ 1000 ∧ (dd is).length < 64 then some (.live ((isort (dd is)).map TV.int)) else none))
  | .listR1, [.int j] => if inRange j && decide (j ≤ 100000) then some (.live (rangeT 0 j)) else none
  | .listR2, [.int i, .int j] => if inRange i && inRange j && decide (j - i ≤ 100000) then some (.live (rangeT i j)) else none
  | .tupR1, [.int j] => if inRange j && decide (j ≤ 100000) then some (.val (.tup (rangeT 0 j))) else none
  | _, _ => none
/-- methods that only look -/
def methT (m : MF) (v : TV) (ws : List TV) : Option SV :=
  match m, ws with
  | .index, [w] => v.seq.bind fun xs => if xs.all shT && shT w then (xs.findIdx? fun x => x.toP.eqv w.toP).bind fun j => vI (j : Nat) else none
  | _, _ => none
/-- methods that change a list: what they tell, and the list behind -/
def mutT (m : MF) (xs : List TV) (ws : List TV) : Option (TV × List TV) :=
  match m, ws with
  | .append, [w] => if xs.length < LIM then some (.non, xs ++ [w]) else none
  | .extend, [.lst ys] => if xs.length + ys.length ≤ LIM then some (.non, xs ++ ys) else none
  | .pop, [.int i] => (ixOf xs.length i).bind fun j => xs[j]?.map fun x => (x, xs.eraseIdx j)
  | .reverse, [] => some (.non, xs.reverse)
  | .clear, [] => some (.non, [])
  | _, _ => none
def isMut : MF → Bool
  | .append => true
  | .extend => true
  | .pop => true
  | .reverse => true
  | .clear => true
  | _ => false
def tyT : TV → List TyK
  | .non => []
  | .bl _ => [.bool, .int]
  | .int _ => [.int]
  | .str _ => [.str]
  | .tup _ => [.tuple]
  | .lst _ => [.list]
  | .rol _ => [.list]
def isiT (ts : List TyK) (v : TV) : Option SV := vB ((tyT v).any fun k => ts.contains k)

mutual
def asgG : MG → TV → SS → Option SS
  | .name i, v, σ => some (σ.set i (some (.val v)))
  | .tup gs, v, σ => (match v with | .tup vs => asgGs gs vs σ | _ => none)
def asgGs : MGs → List TV → SS → Option SS
  | .nil, vs, σ => if vs.isEmpty then some σ else none
  | .cons g gs, vs, σ => (match vs with | v :: vs => (asgG g v σ).bind (asgGs gs vs) | [] => none)
end
mutual
def gIn (own : List Nat) : MG → Bool
  | .name i => own.contains i
  | .tup gs => gsIn own gs
def gsIn (own : List Nat) : MGs → Bool
  | .nil => true
  | .cons g gs => gIn own g && gsIn own gs
end
def wipeT (σ : SS) : List Nat → SS
  | [] => σ
  | v :: vs => (wipeT σ vs).set v none
def restS (σ0 : SS) : List Nat → SS → SS
  | [], σ => σ
  | v :: vs, σ => (restS σ0 vs σ).set v ((σ0[v]?).getD none)
def restR {α : Type} (σ0 : SS) (own : List Nat) (r : RT α) : RT α :=
  match r with
  | .ok a σ => .ok a (restS σ0 own σ)
  | .exc e σ => .exc e (restS σ0 own σ)
  | .stuck => .stuck
def noLive (σ : SS) : List Nat → Bool
  | [] => true
  | v :: vs => (match rd σ v with | some (.live _) => false | _ => true) && noLive σ vs

abbrev CFT := Nat → List SV → RT SV
abbrev EvT := SS → RT Op
def oT (o : Option SV) (σ : SS) : RT Op :=
  match o with
  | some s => .ok (.own s) σ
  | none => .stuck
/-- an operand's truth -/
def trT (o : Op) (σ : SS) : RT Bool :=
  match (look σ o).bind truthT with
  | some b => .ok b σ
  | none => .stuck
def frT (o : Op) (σ : SS) : RT TV :=
  match frz σ o with
  | some (w, σ') => .ok w σ'
  | none => .stuck
def frTs (os : List Op) (σ : SS) : RT (List TV) :=
  match frzL σ os with
  | some (ws, σ') => .ok ws σ'
  | none => .stuck
/-- behind a call whose first argument is a name's own list -/
def backT (i : Nat) (σ : SS) (r : RT SV) : RT Op :=
  match r with
  | .ok s [o] => .ok (.own s) (σ.set i o)
  | .exc e [o] => .exc e (σ.set i o)
  | _ => .stuck
def backN (σ : SS) (r : RT SV) : RT Op :=
  match r with
  | .ok s _ => .ok (.own s) σ
  | .exc e _ => .exc e σ
  | .stuck => .stuck
/-- operands that are values -/
def valsT : List Op → Option (List TV)
  | [] => some []
  | .own (.val w) :: os => (valsT os).map (w :: ·)
  | _ => none
/-- from this number on a def changes its first argument -/
def IO : Nat := 10000
/-- defs whose answer holds no list: what is handed to them stays one's own -/
def keepF (f : Nat) : Bool := f == 301
def backK (σ : SS) (r : RT SV) : RT Op :=
  match r with
  | .ok (.val t) _ => if shT t then .ok (.own (.val t)) σ else .stuck
  | _ => .stuck
def callT (cf : CFT) (f : Nat) (os : List Op) (σ : SS) : RT Op :=
  if IO ≤ f then (match os with
    | .bor i :: os => (frTs os σ).bind fun ws σ1 => (match rd σ1 i with
      | some s => backT i σ1 (cf f (s :: ws.map SV.val))
      | none => .stuck)
    | .own s :: os => (match valsT os with
      | some ws => backN σ (cf f (s :: ws.map SV.val))
      | none => .stuck)
    | [] => .stuck)
  else if keepF f then (frTs os σ).bind fun ws _ => backK σ (cf f (ws.map SV.val))
  else (frTs os σ).bind fun ws σ1 => backN σ1 (cf f (ws.map SV.val))
def mutK (m : MF) (x : Op) (os : List Op) (σ : SS) : RT Op :=
  match x with
  | .bor i => (frTs os σ).bind fun ws σ1 => (match rd σ1 i with
    | some (.live xs) => (match mutT m xs ws with
      | some (w, ys) => .ok (.own (.val w)) (σ1.set i (some (.live ys)))
      | none => .stuck)
    | _ => .stuck)
  | _ => .stuck
def methK (m : MF) (x : Op) (os : List Op) (σ : SS) : RT Op :=
  if isMut m then mutK m x os σ else oT ((look σ x).bind fun v => (lookL σ os).bind fun ws => methT m v ws) σ
/-- one turn of a comprehension -/
def lcTurnT (own : List Nat) (g : MG) (cnd : Option EvT) (elt : EvT) (σ : SS) (x : TV) (acc : List TV) : RT (List TV) :=
  match asgG g x (wipeT σ own) with
  | none => .stuck
  | some σ' => restR σ own ((match cnd with
      | none => RT.ok true σ'
      | some c => (c σ').bind trT).bind fun b σ1 =>
    if b then ((elt σ1).bind frT).bind fun w σ2 => if acc.length < LIM then .ok (acc ++ [w]) σ2 else .stuck
    else .ok acc σ1)
def lcT (own : List Nat) (g : MG) (cnd : Option EvT) (elt : EvT) : List TV → List TV → SS → RT (List TV)
  | [], acc, σ => .ok acc σ
  | x :: xs, acc, σ => (lcTurnT own g cnd elt σ x acc).bind fun acc' σ' => lcT own g cnd elt xs acc' σ'
def lcK (own : List Nat) (g : MG) (cnd : Option EvT) (elt : EvT) (xs : List TV) (σ : SS) : RT Op :=
  if noLive σ own && gIn own g then (lcT own g cnd elt xs [] σ).bind fun acc σ' => .ok (.own (.live acc)) σ' else .stuck
def optT {α : Type} (o : Option α) (σ : SS) : RT α :=
  match o with
  | some a => .ok a σ
  | none => .stuck
def seqT : TV → Option (List TV)
  | .tup xs => some xs
  | .lst xs => some xs
  | .rol xs => some xs
  | .str x => if x.length ≤ LIM then some (x.cps.toList.map fun c => .str ⟨#[c]⟩) else none
  | _ => none
def enumT : Nat → List TV → List TV
  | _, [] => []
  | i, x :: xs => .tup [.int i, x] :: enumT (i + 1) xs
def zipT : List TV → List TV → List TV
  | x :: xs, y :: ys => .tup [x, y] :: zipT xs ys
  | _, _ => []
def zip2T (v w : TV) : Option (List TV) :=
  match v, w with
  | .tup xs, .tup ys => some (zipT xs ys)
  | .lst xs, .lst ys => some (zipT xs ys)
  | .lst xs, .tup ys => some (zipT xs ys)
  | .lst xs, .rol ys => some (zipT xs ys)
  | .rol xs, .lst ys => some (zipT xs ys)
  | .rol xs, .rol ys => some (zipT xs ys)
  | _, _ => none
def rng1 (j : TV) : Option (List TV) :=
  match j with
  | .int j => if inRange j then some (rangeT 0 j) else none
  | _ => none
def rng2 (i j : TV) : Option (List TV) :=
  match i, j with
  | .int i, .int j => if inRange i && inRange j then some (rangeT i j) else none
  | _, _ => none
def negT : TV → Option SV
  | .int i => vI (-i)
  | _ => none
def notT (v : TV) : Option SV := (truthT v).bind fun b => vB (!b)
def sl1 (v l : TV) : Option SV := (toI l).bind fun i => slT v (some i) none
def sl2 (v h : TV) : Option SV := (toI h).bind fun i => slT v none (some i)
def sl3 (i : Int) (v h : TV) : Option SV := (toI h).bind fun j => slT v (some i) (some j)
/-- what a method is asked of -/
def recvT (m : MF) (o : Option TV) : Bool :=
  match m, o with
  | .join, some (.str _) => true
  | .join, _ => false
  | .index, some (.tup _) => true
  | _, some (.lst _) => true
  | _, some (.rol _) => true
  | _, _ => false

/-! ### frames -/
def k1 (f : TV → Option SV) (r : RT Op) : RT Op := r.bind fun x σ => oT ((look σ x).bind f) σ
def k2b (f : TV → TV → Option SV) (x : Op) (r : RT Op) : RT Op := r.bind fun y σ => oT ((look σ x).bind fun v => (look σ y).bind fun w => f v w) σ
def kB (f : BF) (r : RT (List Op)) : RT Op := r.bind fun os σ => oT ((lookL σ os).bind (bcallT f)) σ

/-- a dict of the top -/
def fnAtT (fs : List Nat) : TV → Option Nat
  | .int j => (ixOf fs.length j).bind fun n => fs[n]?
  | _ => none
def cixT (i : Nat) (v : TV) : Option SV :=
  match v with
  | .str s => (match cixO i s with | some p => if shallow p then some (.val (ofP p)) else none | none => none)
  | _ => none
mutual
def evT (cf : CFT) : ME → SS → RT Op
  | .var i, σ => (match rd σ i with
    | some (.val w) => .ok (.own (.val w)) σ
    | some (.live _) => .ok (.bor i) σ
    | none => .stuck)
  | .int i, σ => .ok (.own (.val (.int i))) σ
  | .bl b, σ => .ok (.own (.val (.bl b))) σ
  | .non, σ => .ok (.own (.val .non)) σ
  | .str x, σ => .ok (.own (.val (.str x))) σ
  | .tup es, σ => ((evTs cf es σ).bind frTs).bind fun ws σ1 => if ws.length ≤ LIM then .ok (.own (.val (.tup ws))) σ1 else .stuck
  | .lst es, σ => ((evTs cf es σ).bind frTs).bind fun ws σ1 => if ws.length ≤ LIM then .ok (.own (.live ws)) σ1 else .stuck
  | .bin op a b, σ => (evT cf a σ).bind fun x σ1 => k2b (binT op) x (evT cf b σ1)
  | .neg a, σ => k1 negT (evT cf a σ)
  | .not a, σ => k1 notT (evT cf a σ)
  | .cmp op a b, σ => (evT cf a σ).bind fun x σ1 => k2b (cmpT op) x (evT cf b σ1)
  | .chain op op' a b c, σ => (evT cf a σ).bind fun x σ1 => (evT cf b σ1).bind fun y σ2 =>
    (match (look σ2 x).bind fun v => (look σ2 y).bind fun w => cmpT op v w with
    | some (.val (.bl true)) => k2b (cmpT op') y (evT cf c σ2)
    | some (.val (.bl false)) => .ok (.own (.val (.bl false))) σ2
    | _ => .stuck)
  | .and es, σ => evAndT cf es σ
  | .or es, σ => evOrT cf es σ
  | .ife c a b, σ => ((evT cf c σ).bind trT).bind fun t σ1 => if t then evT cf a σ1 else evT cf b σ1
  | .ix a i, σ => (evT cf a σ).bind fun x σ1 => k2b ixT x (evT cf i σ1)
  | .sl a lo hi, σ => (evT cf a σ).bind fun x σ1 => (match lo, hi with
    | .none, .none => oT ((look σ1 x).bind fun v => slT v none none) σ1
    | .some l, .none => k2b sl1 x (evT cf l σ1)
    | .none, .some h => k2b sl2 x (evT cf h σ1)
    | .some l, .some h => (evT cf l σ1).bind fun y σ2 => (match (look σ2 y).bind toI with
      | some i => k2b (sl3 i) x (evT cf h σ2)
      | none => .stuck))
  | .stp a st, σ => (evT cf a σ).bind fun x σ1 => k2b stpT x (evT cf st σ1)
  | .call f args, σ => (evTs cf args σ).bind fun os σ1 => callT cf f os σ1
  | .bcall f args, σ => kB f (evTs cf args σ)
  | .meth m o args, σ => (evT cf o σ).bind fun x σ1 => if recvT m (look σ1 x) then (evTs cf args σ1).bind fun os σ2 => methK m x os σ2 else .stuck
  | .isi e ts tup, σ => if ts.length ≤ LIM then k1 (isiT ts) (evT cf e σ) else .stuck
  | .lc own g it cnd elt, σ => (evIT cf it σ).bind fun xs σ1 => lcK own g (evCT cf cnd) (fun σ => evT cf elt σ) xs σ1
  | .cix i e, σ => k1 (cixT i) (evT cf e σ)
  | .callL fs i args, σ => (evT cf i σ).bind fun x σ1 => (match (look σ1 x).bind (fnAtT fs) with
    | some f => (evTs cf args σ1).bind fun os σ2 => callT cf f os σ2
    | none => .stuck)
def evTs (cf : CFT) : MEs → SS → RT (List Op)
  | .nil, σ => .ok [] σ
  | .cons e es, σ => (evT cf e σ).bind fun o σ1 => (evTs cf es σ1).bind fun os σ2 => .ok (o :: os) σ2
def evAndT (cf : CFT) : MEs → SS → RT Op
  | .nil, _ => .stuck
  | .cons e es, σ => match es with
    | .nil => evT cf e σ
    | .cons e' es' => (evT cf e σ).bind fun o σ1 => (trT o σ1).bind fun t σ2 => if t then evAndT cf (.cons e' es') σ2 else .ok o σ2
def evOrT (cf : CFT) : MEs → SS → RT Op
  | .nil, _ => .stuck
  | .cons e es, σ => match es with
    | .nil => evT cf e σ
    | .cons e' es' => (evT cf e σ).bind fun o σ1 => (trT o σ1).bind fun t σ2 => if t then .ok o σ2 else evOrT cf (.cons e' es') σ2
def evCT (cf : CFT) : MEo → Option EvT
  | .none => none
  | .some e => some (fun σ => evT cf e σ)
def evIT (cf : CFT) : MI → SS → RT (List TV)
  | .seq e, σ => ((evT cf e σ).bind frT).bind fun w σ1 => optT (seqT w) σ1
  | .range1 e, σ => (evT cf e σ).bind fun x σ1 => optT ((look σ1 x).bind rng1) σ1
  | .range2 a b, σ => (evT cf a σ).bind fun x σ1 => (evT cf b σ1).bind fun y σ2 => optT ((look σ2 x).bind fun v => (look σ2 y).bind fun w => rng2 v w) σ2
  | .enum e, σ => ((evT cf e σ).bind frT).bind fun w σ1 => optT (w.seq.map (enumT 0)) σ1
  | .zip a b, σ => (evT cf a σ).bind fun x σ1 => (evT cf b σ1).bind fun y σ2 => (frTs [x, y] σ2).bind fun ws σ3 => (match ws with
    | [v, w] => optT (zip2T v w) σ3
    | _ => .stuck)
end

inductive FlowT where
  | next | ret (s : SV) | brk | cont
def afterT (f : FlowT) (σ : SS) (go : SS → RT FlowT) : RT FlowT :=
  match f with
  | .next => go σ
  | .cont => go σ
  | .brk => .ok .next σ
  | .ret v => .ok (.ret v) σ
def forT (g : MG) (body : SS → RT FlowT) : List TV → SS → RT FlowT
  | [], σ => .ok .next σ
  | x :: xs, σ => match asgG g x σ with
    | none => .stuck
    | some σ' => (body σ').bind fun f σ1 => afterT f σ1 (forT g body xs)
def whileT (c : EvT) (body : SS → RT FlowT) : Nat → SS → RT FlowT
  | 0, _ => .stuck
  | f + 1, σ => ((c σ).bind trT).bind fun t σ1 => if t then (body σ1).bind fun fl σ2 => afterT fl σ2 (whileT c body f) else .ok .next σ1
def mvT (o : Op) (σ : SS) : RT SV :=
  match mv σ o with
  | some (s, σ') => .ok s σ'
  | none => .stuck
def setK (o : Op) (w : TV) (iv : Op) (σ : SS) : RT FlowT :=
  match o with
  | .bor j => (match rd σ j, (look σ iv).bind toI with
    | some (.live xs), some i => (match ixOf xs.length i with
      | some k => .ok .next (σ.set j (some (.live (xs.set k w))))
      | none => .stuck)
    | _, _ => .stuck)
  | _ => .stuck
mutual
def evST (cf : CFT) : MS → SS → RT FlowT
  | .asg i e, σ => ((evT cf e σ).bind mvT).bind fun s σ1 => .ok .next (σ1.set i (some s))
  | .asgT g e, σ => ((evT cf e σ).bind frT).bind fun w σ1 => (optT (asgG g w σ1) σ1).bind fun σ2 _ => .ok .next σ2
  | .par i j es, σ => ((evTs cf es σ).bind frTs).bind fun ws σ1 => (match ws with
    | [v, w] => .ok .next ((σ1.set i (some (.val v))).set j (some (.val w)))
    | _ => .stuck)
  | .par3 i j l es, σ => ((evTs cf es σ).bind frTs).bind fun ws σ1 => (match ws with
    | [v, w, u] => .ok .next (((σ1.set i (some (.val v))).set j (some (.val w))).set l (some (.val u)))
    | _ => .stuck)
  | .setix o i e, σ => ((evT cf e σ).bind frT).bind fun w σ1 => (evT cf o σ1).bind fun x σ2 => (evT cf i σ2).bind fun y σ3 => setK x w y σ3
  | .swp o i o2 i2 e, σ => ((evT cf e σ).bind frT).bind fun w σ1 => (match w with
    | .tup [t, u] => ((evT cf o σ1).bind fun x σ2 => (evT cf i σ2).bind fun y σ3 => setK x t y σ3).bind fun f σ4 => (match f with
      | .next => (evT cf o2 σ4).bind fun x σ5 => (evT cf i2 σ5).bind fun y σ6 => setK x u y σ6
      | f => .ok f σ4)
    | _ => .stuck)
  | .expr e, σ => (evT cf e σ).bind fun _ σ1 => .ok .next σ1
  | .ret e, σ => ((evT cf e σ).bind mvT).bind fun s σ1 => .ok (.ret s) σ1
  | .ife c a b, σ => ((evT cf c σ).bind trT).bind fun t σ1 => if t then evSsT cf a σ1 else evSsT cf b σ1
  | .for_ g it b, σ => (evIT cf it σ).bind fun xs σ1 => forT g (fun σ => evSsT cf b σ) xs σ1
  | .while_ c b, σ => whileT (fun σ => evT cf c σ) (fun σ => evSsT cf b σ) WF σ
  | .pass, σ => .ok .next σ
  | .brk, σ => .ok .brk σ
  | .cont, σ => .ok .cont σ
  | .raise_, _ => .stuck
def evSsT (cf : CFT) : MSs → SS → RT FlowT
  | .nil, σ => .ok .next σ
  | .cons s ss, σ => (evST cf s σ).bind fun f σ1 => (match f with
    | .next => evSsT cf ss σ1
    | f => .ok f σ1)
end
def outT (f : Nat) (σ : SS) : SS := if IO ≤ f then [(σ[0]?).getD none] else []
def endT (f : Nat) (r : RT FlowT) : RT SV :=
  match r with
  | .ok (.ret s) σ => .ok s (outT f σ)
  | .ok .next σ => .ok (.val .non) (outT f σ)
  | .exc e σ => .exc e (outT f σ)
  | _ => .stuck
def startT (nn : Nat) (vs : List SV) : SS := vs.map some ++ List.replicate (nn - vs.length) none
def runT (fs : List (Nat × Fn)) : Nat → CFT
  | 0 => fun _ _ => .stuck
  | k + 1 => fun f vs => match fs.lookup f with
    | none => .stuck
    | some F => if vs.length = F.np then endT f (evSsT (runT fs k) F.body (startT F.nn vs)) else .stuck

-- slots that a body gives to
mutual
def MG.has (j : Nat) : MG → Bool
  | .name i => i == j
  | .tup gs => gsHas j gs
def gsHas (j : Nat) : MGs → Bool
  | .nil => false
  | .cons g gs => MG.has j g || gsHas j gs
end
mutual
def stHas (j : Nat) : MS → Bool
  | .asg i _ => i == j
  | .asgT g _ => MG.has j g
  | .par i k _ => i == j || k == j
  | .par3 i k l _ => i == j || k == j || l == j
  | .ife _ a b => ssHas j a || ssHas j b
  | .for_ g _ b => MG.has j g || ssHas j b
  | .while_ _ b => ssHas j b
  | _ => false
def ssHas (j : Nat) : MSs → Bool
  | .nil => false
  | .cons s ss => stHas j s || ssHas j ss
end
/-- a def that changes its first argument never gives it another value -/
def tabOk (fs : List (Nat × Fn)) : Bool := fs.all fun p => decide (p.1 < IO) || !ssHas 0 p.2.body
end Vt
end
section
set_option Elab.async false
set_option linter.all false
set_option maxRecDepth 100000
set_option maxHeartbeats 4000000
namespace Vt
open PySem Mn
/-- a value that stays: all its lists are among those that stay -/
def FR (M : Mem) (Z : Nat → Prop) : TV → PV → Prop
  | .non, v => v = .non
  | .bl b, v => v = .bl b
  | .int i, v => v = .int i
  | .str x, v => v = .str x
  | .tup ws, v => ∃ vs, v = .tup vs ∧ FRs ws vs
  | .lst ws, v => ∃ n vs, v = .ref n ∧ Z n ∧ M.get n = some (.lst vs) ∧ FRs ws vs
  | .rol ws, v => ∃ n vs, v = .ref n ∧ Z n ∧ M.get n = some (.rol vs) ∧ FRs ws vs
where FRs : List TV → List PV → Prop
  | [], vs => vs = []
  | w :: ws, vs => ∃ v r, vs = v :: r ∧ FR M Z w v ∧ FRs ws r
abbrev FRs (M : Mem) (Z : Nat → Prop) : List TV → List PV → Prop := FR.FRs M Z
section
variable {M M' : Mem} {Z Z' : Nat → Prop}
theorem fr_non {v : PV} : FR M Z .non v ↔ v = .non := by rw [FR]
theorem fr_bl {b : Bool} {v : PV} : FR M Z (.bl b) v ↔ v = .bl b := by rw [FR]
theorem fr_int {b : Int} {v : PV} : FR M Z (.int b) v ↔ v = .int b := by rw [FR]
theorem fr_str {b : Str} {v : PV} : FR M Z (.str b) v ↔ v = .str b := by rw [FR]
theorem fr_tup {ws : List TV} {v : PV} : FR M Z (.tup ws) v ↔ ∃ vs, v = .tup vs ∧ FRs M Z ws vs := by rw [FR]
theorem fr_lst {ws : List TV} {v : PV} : FR M Z (.lst ws) v ↔ ∃ n vs, v = .ref n ∧ Z n ∧ M.get n = some (.lst vs) ∧ FRs M Z ws vs := by rw [FR]
theorem fr_rol {ws : List TV} {v : PV} : FR M Z (.rol ws) v ↔ ∃ n vs, v = .ref n ∧ Z n ∧ M.get n = some (.rol vs) ∧ FRs M Z ws vs := by rw [FR]
theorem frs_nil {vs : List PV} : FRs M Z [] vs ↔ vs = [] := by unfold FRs; rw [FR.FRs]
theorem frs_cons {w : TV} {ws : List TV} {vs : List PV} : FRs M Z (w :: ws) vs ↔ ∃ v r, vs = v :: r ∧ FR M Z w v ∧ FRs M Z ws r := by unfold FRs; rw [FR.FRs]
mutual
theorem FR.mono (hz : ∀ n, Z n → Z' n) (hm : ∀ n, Z n → M'.get n = M.get n) : ∀ {t : TV} {v : PV}, FR M Z t v → FR M' Z' t v
  | .non, v, h => fr_non.mpr (fr_non.mp h)
  | .bl _, v, h => fr_bl.mpr (fr_bl.mp h)
  | .int _, v, h => fr_int.mpr (fr_int.mp h)
  | .str _, v, h => fr_str.mpr (fr_str.mp h)
  | .tup ws, v, h => by
    obtain ⟨vs, e, r⟩ := fr_tup.mp h
    exact fr_tup.mpr ⟨vs, e, FRs.mono hz hm r⟩
  | .lst ws, v, h => by
    obtain ⟨n, vs, e, z, g, r⟩ := fr_lst.mp h
    exact fr_lst.mpr ⟨n, vs, e, hz n z, by rw [hm n z]; exact g, FRs.mono hz hm r⟩
  | .rol ws, v, h => by
    obtain ⟨n, vs, e, z, g, r⟩ := fr_rol.mp h
    exact fr_rol.mpr ⟨n, vs, e, hz n z, by rw [hm n z]; exact g, FRs.mono hz hm r⟩
theorem FRs.mono (hz : ∀ n, Z n → Z' n) (hm : ∀ n, Z n → M'.get n = M.get n) : ∀ {ts : List TV} {vs : List PV}, FRs M Z ts vs → FRs M' Z' ts vs
  | [], vs, h => frs_nil.mpr (frs_nil.mp h)
  | t :: ts, vs, h => by
    obtain ⟨v, r, e, h1, h2⟩ := frs_cons.mp h
    exact frs_cons.mpr ⟨v, r, e, FR.mono hz hm h1, FRs.mono hz hm h2⟩
end
theorem FRs.length : ∀ {ts : List TV} {vs : List PV}, FRs M Z ts vs → vs.length = ts.length
  | [], vs, h => by rw [frs_nil.mp h]; rfl
  | t :: ts, vs, h => by
    obtain ⟨v, r, rfl, h1, h2⟩ := frs_cons.mp h
    rw [List.length_cons, List.length_cons, FRs.length h2]
theorem FRs.get : ∀ {ts : List TV} {vs : List PV} {i : Nat} {t : TV}, FRs M Z ts vs → ts[i]? = some t → ∃ v, vs[i]? = some v ∧ FR M Z t v
  | [], vs, i, t, h, e => by simp at e
  | q :: ts, vs, 0, t, h, e => by
    obtain ⟨v, r, rfl, h1, h2⟩ := frs_cons.mp h
    simp at e; subst e
    exact ⟨v, rfl, h1⟩
  | q :: ts, vs, i + 1, t, h, e => by
    obtain ⟨v, r, rfl, h1, h2⟩ := frs_cons.mp h
    simp at e
    obtain ⟨y, e1, e2⟩ := FRs.get h2 e
    exact ⟨y, by simpa using e1, e2⟩
theorem FRs.append : ∀ {ts us : List TV} {vs ws : List PV}, FRs M Z ts vs → FRs M Z us ws → FRs M Z (ts ++ us) (vs ++ ws)
  | [], us, vs, ws, h, g => by rw [frs_nil.mp h]; exact g
  | t :: ts, us, vs, ws, h, g => by
    obtain ⟨x, r, rfl, h1, h2⟩ := frs_cons.mp h
    exact frs_cons.mpr ⟨x, r ++ ws, rfl, h1, FRs.append h2 g⟩
theorem FRs.one {t : TV} {v : PV} (h : FR M Z t v) : FRs M Z [t] [v] := frs_cons.mpr ⟨v, [], rfl, h, frs_nil.mpr rfl⟩
theorem FRs.drop : ∀ {ts : List TV} {vs : List PV} (n : Nat), FRs M Z ts vs → FRs M Z (ts.drop n) (vs.drop n)
  | ts, vs, 0, h => h
  | [], vs, n + 1, h => by rw [frs_nil.mp h]; exact frs_nil.mpr rfl
  | t :: ts, vs, n + 1, h => by
    obtain ⟨x, r, rfl, h1, h2⟩ := frs_cons.mp h
    exact FRs.drop n h2
theorem FRs.take : ∀ {ts : List TV} {vs : List PV} (n : Nat), FRs M Z ts vs → FRs M Z (ts.take n) (vs.take n)
  | ts, vs, 0, h => frs_nil.mpr rfl
  | [], vs, n + 1, h => by rw [frs_nil.mp h]; exact frs_nil.mpr rfl
  | t :: ts, vs, n + 1, h => by
    obtain ⟨x, r, rfl, h1, h2⟩ := frs_cons.mp h
    exact frs_cons.mpr ⟨x, r.take n, rfl, h1, FRs.take n h2⟩
theorem FRs.set {t : TV} {v : PV} (ht : FR M Z t v) : ∀ {ts : List TV} {vs : List PV} (n : Nat), FRs M Z ts vs → FRs M Z (ts.set n t) (vs.set n v)
  | [], vs, n, h => by rw [frs_nil.mp h]; exact frs_nil.mpr rfl
  | q :: ts, vs, 0, h => by
    obtain ⟨y, r, rfl, h1, h2⟩ := frs_cons.mp h
    exact frs_cons.mpr ⟨v, r, rfl, ht, h2⟩
  | q :: ts, vs, n + 1, h => by
    obtain ⟨y, r, rfl, h1, h2⟩ := frs_cons.mp h
    exact frs_cons.mpr ⟨y, r.set n v, rfl, h1, FRs.set ht n h2⟩
theorem FRs.erase : ∀ {ts : List TV} {vs : List PV} (n : Nat), FRs M Z ts vs → FRs M Z (ts.eraseIdx n) (vs.eraseIdx n)
  | [], vs, n, h => by rw [frs_nil.mp h]; exact frs_nil.mpr rfl
  | q :: ts, vs, 0, h => by
    obtain ⟨y, r, rfl, h1, h2⟩ := frs_cons.mp h
    exact h2
  | q :: ts, vs, n + 1, h => by
    obtain ⟨y, r, rfl, h1, h2⟩ := frs_cons.mp h
    exact frs_cons.mpr ⟨y, r.eraseIdx n, rfl, h1, FRs.erase n h2⟩
theorem FRs.rev : ∀ {ts : List TV} {vs : List PV}, FRs M Z ts vs → FRs M Z ts.reverse vs.reverse
  | [], vs, h => by rw [frs_nil.mp h]; exact frs_nil.mpr rfl
  | q :: ts, vs, h => by
    obtain ⟨y, r, rfl, h1, h2⟩ := frs_cons.mp h
    rw [List.reverse_cons, List.reverse_cons]
    exact (FRs.rev h2).append (.one h1)
theorem frs_map_int : ∀ (l : List Int), FRs M Z (l.map TV.int) (l.map PV.int)
  | [] => frs_nil.mpr rfl
  | i :: l => frs_cons.mpr ⟨_, _, rfl, fr_int.mpr rfl, frs_map_int l⟩
theorem frs_range (lo hi : Int) : FRs M Z (rangeT lo hi) (rangeL lo hi) := by
  unfold rangeT rangeL
  generalize List.range (hi - lo).toNat = l
  induction l with
  | nil => exact frs_nil.mpr rfl
  | cons k l ih => exact frs_cons.mpr ⟨_, _, rfl, fr_int.mpr rfl, ih⟩
theorem frs_enum : ∀ {ts : List TV} {vs : List PV} (i : Nat), FRs M Z ts vs → FRs M Z (enumT i ts) (enumL i vs)
  | [], vs, i, h => by rw [frs_nil.mp h]; exact frs_nil.mpr rfl
  | t :: ts, vs, i, h => by
    obtain ⟨y, r, rfl, h1, h2⟩ := frs_cons.mp h
    exact frs_cons.mpr ⟨_, _, rfl, fr_tup.mpr ⟨_, rfl, frs_cons.mpr ⟨_, _, rfl, fr_int.mpr rfl, .one h1⟩⟩, frs_enum (i + 1) h2⟩
theorem frs_zip : ∀ {ts us : List TV} {vs ws : List PV}, FRs M Z ts vs → FRs M Z us ws → FRs M Z (zipT ts us) (zipL vs ws)
  | [], us, vs, ws, h, g => by rw [frs_nil.mp h]; exact frs_nil.mpr rfl
  | t :: ts, [], vs, ws, h, g => by
    obtain ⟨y, r, rfl, h1, h2⟩ := frs_cons.mp h
    rw [frs_nil.mp g]; exact frs_nil.mpr rfl
  | t :: ts, u :: us, vs, ws, h, g => by
    obtain ⟨y, r, rfl, h1, h2⟩ := frs_cons.mp h
    obtain ⟨z, q, rfl, g1, g2⟩ := frs_cons.mp g
    exact frs_cons.mpr ⟨_, _, rfl, fr_tup.mpr ⟨_, rfl, frs_cons.mpr ⟨_, _, rfl, h1, .one g1⟩⟩, frs_zip h2 g2⟩
-- what has no list is itself
theorem dats_cons {x : PV} {xs : List PV} {d : Nat} : PV.dat.dats (x :: xs) d = (x.dat d && PV.dat.dats xs d) := rfl
mutual
theorem FR.toP : ∀ {t : TV} {v : PV} {d : Nat}, FR M Z t v → t.toP.dat d = true → v = t.toP
  | .non, v, d, h, _ => by rw [fr_non.mp h]; rfl
  | .bl _, v, d, h, _ => by rw [fr_bl.mp h]; rfl
  | .int _, v, d, h, _ => by rw [fr_int.mp h]; rfl
  | .str _, v, d, h, _ => by rw [fr_str.mp h]; rfl
  | .tup ws, v, d, h, hd => by
    obtain ⟨vs, rfl, r⟩ := fr_tup.mp h
    rw [show (TV.tup ws).toP = .tup (TV.toP.toPs ws) from rfl, PV.dat, Bool.and_eq_true] at hd
    rw [FRs.toPs r hd.2]; rfl
  | .lst ws, v, d, h, hd => by cases hd
  | .rol ws, v, d, h, hd => by cases hd
theorem FRs.toPs : ∀ {ts : List TV} {vs : List PV} {d : Nat}, FRs M Z ts vs → PV.dat.dats (TV.toP.toPs ts) d = true → vs = TV.toP.toPs ts
  | [], vs, d, h, _ => by rw [frs_nil.mp h]; rfl
  | t :: ts, vs, d, h, hd => by
    obtain ⟨v, r, rfl, h1, h2⟩ := frs_cons.mp h
    rw [show TV.toP.toPs (t :: ts) = t.toP :: TV.toP.toPs ts from rfl, dats_cons, Bool.and_eq_true] at hd
    rw [FR.toP h1 hd.1, FRs.toPs h2 hd.2]; rfl
end
theorem FR.sh {t : TV} {v : PV} (h : FR M Z t v) (hs : shT t = true) : v = t.toP := FR.toP h hs
theorem all_shT : ∀ {ts : List TV}, ts.all shT = true → PV.dat.dats (TV.toP.toPs ts) 60 = true
  | [], _ => rfl
  | t :: ts, h => by
    rw [List.all_cons, Bool.and_eq_true] at h
    rw [show TV.toP.toPs (t :: ts) = t.toP :: TV.toP.toPs ts from rfl, dats_cons, Bool.and_eq_true]
    exact ⟨h.1, all_shT h.2⟩
theorem FRs.sh {ts : List TV} {vs : List PV} (h : FRs M Z ts vs) (hs : ts.all shT = true) : vs = TV.toP.toPs ts := FRs.toPs h (all_shT hs)
theorem toPs_map : ∀ ts : List TV, TV.toP.toPs ts = ts.map TV.toP
  | [] => rfl
  | t :: ts => by rw [List.map_cons, ← toPs_map ts]; rfl
theorem all_sh : ∀ (ts : List TV), (TV.toP.toPs ts).all shallow = ts.all shT
  | [] => rfl
  | t :: ts => by rw [List.all_cons, ← all_sh ts]; rfl
mutual
theorem fr_ofP : ∀ {v : PV} {d : Nat}, v.dat d = true → FR M Z (ofP v) v
  | .non, d, _ => fr_non.mpr rfl
  | .bl _, d, _ => fr_bl.mpr rfl
  | .int _, d, _ => fr_int.mpr rfl
  | .str _, d, _ => fr_str.mpr rfl
  | .tup xs, d, h => by
    rw [PV.dat, Bool.and_eq_true] at h
    exact fr_tup.mpr ⟨xs, rfl, frs_ofPs h.2⟩
  | .ref n, d, h => by cases h
theorem frs_ofPs : ∀ {vs : List PV} {d : Nat}, PV.dat.dats vs d = true → FRs M Z (ofP.ofPs vs) vs
  | [], d, _ => frs_nil.mpr rfl
  | v :: vs, d, h => by
    rw [dats_cons, Bool.and_eq_true] at h
    exact frs_cons.mpr ⟨v, vs, rfl, fr_ofP h.1, frs_ofPs h.2⟩
end
theorem dats_all : ∀ (vs : List PV), PV.dat.dats vs 60 = vs.all shallow
  | [] => rfl
  | v :: vs => by rw [dats_cons, List.all_cons, dats_all vs]; rfl
end

/-- the memory, what stays in it, and who owns a place -/
structure Wd where
  M : Mem
  Z : Nat → Prop
  ω : Nat → Option Nat
structure WI (w : Wd) : Prop where
  wh : w.M.objs.length = w.M.sz
  zb : ∀ n, w.Z n → n < w.M.sz
  ob : ∀ n i, w.ω n = some i → n < w.M.sz ∧ ¬ w.Z n
structure Stp (w w' : Wd) : Prop where
  sz : w.M.sz ≤ w'.M.sz
  fr : ∀ n, n < w.M.sz → w.ω n = none → w'.M.get n = w.M.get n
  zm : ∀ n, w.Z n → w'.Z n
  zn : ∀ n, n < w.M.sz → w'.Z n → w.Z n ∨ w.ω n ≠ none
  on : ∀ n, n < w.M.sz → w'.ω n ≠ none → w.ω n ≠ none
theorem Stp.refl (w : Wd) : Stp w w := ⟨Nat.le_refl _, fun _ _ _ => rfl, fun _ h => h, fun _ _ h => .inl h, fun _ _ h => h⟩
theorem Stp.trans {a b c : Wd} (s : Stp a b) (t : Stp b c) : Stp a c where
  sz := Nat.le_trans s.sz t.sz
  fr := fun n h1 h2 => by
    rw [t.fr n (Nat.lt_of_lt_of_le h1 s.sz) (by
      cases e : b.ω n with
      | none => rfl
      | some i => exact absurd h2 (s.on n h1 (by rw [e]; simp))), s.fr n h1 h2]
  zm := fun n h => t.zm n (s.zm n h)
  zn := fun n h1 h2 => by
    rcases t.zn n (Nat.lt_of_lt_of_le h1 s.sz) h2 with h | h
    · exact s.zn n h1 h
    · exact .inr (s.on n h1 h)
  on := fun n h1 h2 => s.on n h1 (t.on n (Nat.lt_of_lt_of_le h1 s.sz) h2)
theorem WI.zo {w : Wd} (i : WI w) {n : Nat} (h : w.Z n) : w.ω n = none := by
  cases e : w.ω n with
  | none => rfl
  | some j => exact absurd h (i.ob n j e).2
theorem Stp.keep {w w' : Wd} (i : WI w) (s : Stp w w') : ∀ n, w.Z n → w'.M.get n = w.M.get n := fun n h => s.fr n (i.zb n h) (i.zo h)
theorem Stp.FR {w w' : Wd} (i : WI w) (s : Stp w w') {t : TV} {v : PV} (h : FR w.M w.Z t v) : FR w'.M w'.Z t v := Vt.FR.mono s.zm (s.keep i) h
theorem Stp.FRs {w w' : Wd} (i : WI w) (s : Stp w w') {t : List TV} {v : List PV} (h : FRs w.M w.Z t v) : FRs w'.M w'.Z t v := Vt.FRs.mono s.zm (s.keep i) h

/-- what a name holds -/
def LR (w : Wd) (O : Nat → Prop) : SV → PV → Prop
  | .val t, v => FR w.M w.Z t v
  | .live ts, v => ∃ n vs, v = .ref n ∧ O n ∧ w.M.get n = some (.lst vs) ∧ FRs w.M w.Z ts vs
theorem LR.mono {w w' : Wd} {O O' : Nat → Prop} (hz : ∀ n, w.Z n → w'.Z n) (hm : ∀ n, w.Z n → w'.M.get n = w.M.get n) (ho : ∀ n, O n → O' n ∧ w'.M.get n = w.M.get n) : ∀ {s : SV} {v : PV}, LR w O s v → LR w' O' s v
  | .val t, v, h => FR.mono (M := w.M) hz hm h
  | .live ts, v, h => by
    obtain ⟨n, vs, e, o, g, r⟩ := h
    exact ⟨n, vs, e, (ho n o).1, by rw [(ho n o).2]; exact g, FRs.mono hz hm r⟩
structure SR (w : Wd) (σ : Mn.St) (σv : SS) : Prop where
  wi : WI w
  len : σ.length = σv.length
  slot : ∀ i s, σv[i]? = some (some s) → ∃ v, σ[i]? = some (some v) ∧ LR w (fun n => w.ω n = some i) s v
theorem rd_some {σ : SS} {i : Nat} {s : SV} (h : rd σ i = some s) : σ[i]? = some (some s) := by
  unfold rd at h
  cases e : σ[i]? with
  | none => rw [e] at h; cases h
  | some o => rw [e] at h; simpa using h
theorem SR.rd {w : Wd} {σ : Mn.St} {σv : SS} (S : SR w σ σv) {i : Nat} {s : SV} (h : rd σv i = some s) : ∃ v, σ[i]? = some (some v) ∧ LR w (fun n => w.ω n = some i) s v := S.slot i s (rd_some h)
/-- a place that no name owns, made or given up since -/
structure Tmp (w0 w : Wd) (n : Nat) : Prop where
  ow : w.ω n = none
  nz : ¬ w.Z n
  lt : n < w.M.sz
  nw : w0.M.sz ≤ n ∨ w0.ω n ≠ none
def OR (w0 w : Wd) (σ : Mn.St) : Op → PV → Prop
  | .own s, v => LR w (Tmp w0 w) s v
  | .bor i, v => σ[i]? = some (some v) ∧ ∃ n, v = .ref n ∧ n < w.M.sz
def ORs (w0 w : Wd) (σ : Mn.St) : List Op → List PV → Prop
  | [], vs => vs = []
  | o :: os, vs => ∃ v r, vs = v :: r ∧ OR w0 w σ o v ∧ ORs w0 w σ os r
theorem Stp.nw {w0 w n} (s : Stp w0 w) (h : w.M.sz ≤ n ∨ w.ω n ≠ none) : w0.M.sz ≤ n ∨ w0.ω n ≠ none := by
  rcases h with h | h
  · exact .inl (Nat.le_trans s.sz h)
  · by_cases c : n < w0.M.sz
    · exact .inr (s.on n c h)
    · exact .inl (by omega)
/-- a temporary stays one -/
theorem Tmp.on {w0 w w' : Wd} {n : Nat} (t : Tmp w0 w n) (i' : WI w') (s : Stp w w') : Tmp w0 w' n where
  ow := by
    cases e : w'.ω n with
    | none => rfl
    | some j => exact absurd t.ow (s.on n t.lt (by rw [e]; simp))
  nz := fun h => by
    rcases s.zn n t.lt h with h | h
    · exact t.nz h
    · exact h t.ow
  lt := Nat.lt_of_lt_of_le t.lt s.sz
  nw := t.nw
theorem Tmp.since {w0 w1 w : Wd} {n : Nat} (t : Tmp w1 w n) (s : Stp w0 w1) : Tmp w0 w n := ⟨t.ow, t.nz, t.lt, s.nw t.nw⟩
theorem OR.on {w0 w w' : Wd} {σ : Mn.St} {o : Op} {v : PV} (h : OR w0 w σ o v) (i : WI w) (i' : WI w') (s : Stp w w') : OR w0 w' σ o v := by
  cases o with
  | bor i =>
    obtain ⟨h, n, e, hl⟩ := h
    exact ⟨h, n, e, Nat.lt_of_lt_of_le hl s.sz⟩
  | own x => exact LR.mono s.zm (s.keep i) (fun n t => ⟨t.on i' s, s.fr n t.lt t.ow⟩) h
theorem OR.since {w0 w1 w : Wd} {σ : Mn.St} {o : Op} {v : PV} (h : OR w1 w σ o v) (s : Stp w0 w1) : OR w0 w σ o v := by
  cases o with
  | bor i => exact h
  | own x => exact LR.mono (fun _ h => h) (fun _ _ => rfl) (fun n t => ⟨t.since s, rfl⟩) h
theorem ORs.on {w0 w w' : Wd} {σ : Mn.St} (i : WI w) (i' : WI w') (s : Stp w w') : ∀ {os : List Op} {vs : List PV}, ORs w0 w σ os vs → ORs w0 w' σ os vs
  | [], vs, h => h
  | o :: os, vs, ⟨v, r, e, h1, h2⟩ => ⟨v, r, e, h1.on i i' s, ORs.on i i' s h2⟩
theorem ORs.since {w0 w1 w : Wd} {σ : Mn.St} (s : Stp w0 w1) : ∀ {os : List Op} {vs : List PV}, ORs w1 w σ os vs → ORs w0 w σ os vs
  | [], vs, h => h
  | o :: os, vs, ⟨v, r, e, h1, h2⟩ => ⟨v, r, e, h1.since s, ORs.since s h2⟩

/-- what is looked at -/
def ER (w : Wd) (t : TV) (v : PV) : Prop := FR w.M w.Z t v ∨ ∃ n vs ts, t = .lst ts ∧ v = .ref n ∧ w.M.get n = some (.lst vs) ∧ FRs w.M w.Z ts vs
theorem LR.er {w : Wd} {O : Nat → Prop} : ∀ {s : SV} {v : PV}, LR w O s v → ER w s.tv v
  | .val t, v, h => .inl h
  | .live ts, v, ⟨n, vs, e, o, g, r⟩ => .inr ⟨n, vs, ts, rfl, e, g, r⟩
theorem OR.er {w0 w : Wd} {σ : Mn.St} {σv : SS} (S : SR w σ σv) {o : Op} {v : PV} {t : TV} (h : OR w0 w σ o v) (hl : look σv o = some t) : ER w t v := by
  cases o with
  | own s => cases hl; exact LR.er h
  | bor i =>
    obtain ⟨s, e, rfl⟩ := Option.map_eq_some_iff.mp hl
    obtain ⟨u, e1, l⟩ := S.rd e
    have h : σ[i]? = some (some v) := h.1
    rw [h] at e1; cases e1
    exact l.er
/-- all that is looked at -/
def ERs (w : Wd) : List TV → List PV → Prop
  | [], vs => vs = []
  | t :: ts, vs => ∃ v r, vs = v :: r ∧ ER w t v ∧ ERs w ts r
theorem ORs.ers {w0 w : Wd} {σ : Mn.St} {σv : SS} (S : SR w σ σv) : ∀ {os : List Op} {vs : List PV} {ts : List TV}, ORs w0 w σ os vs → lookL σv os = some ts → ERs w ts vs
  | [], vs, ts, h, hl => by cases hl; exact h
  | o :: os, vs, ts, ⟨v, r, e, h1, h2⟩, hl => by
    rw [lookL, Option.bind_eq_some_iff] at hl
    obtain ⟨t, e1, hl⟩ := hl
    obtain ⟨ts', e2, rfl⟩ := Option.map_eq_some_iff.mp hl
    exact ⟨v, r, e, h1.er S e1, ORs.ers S h2 e2⟩
section
variable {w : Wd} {v : PV}
theorem er_non (h : ER w .non v) : v = .non := by
  rcases h with h | ⟨_, _, _, e, _⟩
  · exact fr_non.mp h
  · cases e
theorem er_bl {b : Bool} (h : ER w (.bl b) v) : v = .bl b := by
  rcases h with h | ⟨_, _, _, e, _⟩
  · exact fr_bl.mp h
  · cases e
theorem er_int {b : Int} (h : ER w (.int b) v) : v = .int b := by
  rcases h with h | ⟨_, _, _, e, _⟩
  · exact fr_int.mp h
  · cases e
theorem er_str {b : Str} (h : ER w (.str b) v) : v = .str b := by
  rcases h with h | ⟨_, _, _, e, _⟩
  · exact fr_str.mp h
  · cases e
theorem er_tup {ts : List TV} (h : ER w (.tup ts) v) : ∃ vs, v = .tup vs ∧ FRs w.M w.Z ts vs := by
  rcases h with h | ⟨_, _, _, e, _⟩
  · exact fr_tup.mp h
  · cases e
theorem er_lst {ts : List TV} (h : ER w (.lst ts) v) : ∃ n vs, v = .ref n ∧ w.M.get n = some (.lst vs) ∧ FRs w.M w.Z ts vs := by
  rcases h with h | ⟨n, vs, us, e, e1, e2, e3⟩
  · obtain ⟨n, vs, e, _, g, r⟩ := fr_lst.mp h
    exact ⟨n, vs, e, g, r⟩
  · cases e; exact ⟨n, vs, e1, e2, e3⟩
theorem er_rol {ts : List TV} (h : ER w (.rol ts) v) : ∃ n vs, v = .ref n ∧ w.M.get n = some (.rol vs) ∧ FRs w.M w.Z ts vs := by
  rcases h with h | ⟨n, vs, us, e, e1, e2, e3⟩
  · obtain ⟨n, vs, e, _, g, r⟩ := fr_rol.mp h
    exact ⟨n, vs, e, g, r⟩
  · cases e
theorem er_sh {t : TV} (h : ER w t v) (hs : shT t = true) : v = t.toP := by
  rcases h with h | ⟨n, vs, us, e, e1, e2, e3⟩
  · exact h.sh hs
  · subst e; cases hs
/-- a list -/
theorem er_li {t : TV} {ts : List TV} (h : ER w t v) (ht : t.li = some ts) : ∃ n vs, v = .ref n ∧ w.M.lst? n = some vs ∧ FRs w.M w.Z ts vs := by
  cases t with
  | lst xs =>
    cases ht
    obtain ⟨n, vs, e, g, r⟩ := er_lst h
    exact ⟨n, vs, e, by rw [Mem.lst?, g], r⟩
  | rol xs =>
    cases ht
    obtain ⟨n, vs, e, g, r⟩ := er_rol h
    exact ⟨n, vs, e, by rw [Mem.lst?, g], r⟩
  | _ => cases ht
theorem er_seq {t : TV} {ts : List TV} (h : ER w t v) (ht : t.seq = some ts) : ∃ vs, seq? v w.M = some vs ∧ FRs w.M w.Z ts vs := by
  cases t with
  | tup xs =>
    cases ht
    obtain ⟨vs, e, r⟩ := er_tup h
    subst e
    exact ⟨vs, rfl, r⟩
  | lst xs =>
    obtain ⟨n, vs, rfl, g, r⟩ := er_li h ht
    exact ⟨vs, g, r⟩
  | rol xs =>
    obtain ⟨n, vs, rfl, g, r⟩ := er_li h ht
    exact ⟨vs, g, r⟩
  | _ => cases ht
end
end Vt
end
section
set_option Elab.async false
set_option linter.all false
set_option maxRecDepth 100000
set_option maxHeartbeats 4000000
namespace Vt
open PySem Mn
/-- what an operation gives -/
def OpR (w : Wd) (rm : Res PV) : SV → Prop
  | .val t => ∃ v, rm = .ok v w.M ∧ FR w.M w.Z t v
  | .live ts => ∃ vs, rm = .ok (.ref w.M.sz) (w.M.push (.lst vs)) ∧ FRs w.M w.Z ts vs
section
variable {w : Wd} {s : SV} {a b c : TV} {x y z : PV}
theorem opI {i : Int} {rm : Res PV} (h : vI i = some s) (e : rm = .ok (.int i) w.M) : OpR w rm s := by cases h; exact ⟨_, e, fr_int.mpr rfl⟩
theorem opB {i : Bool} {rm : Res PV} (h : vB i = some s) (e : rm = .ok (.bl i) w.M) : OpR w rm s := by cases h; exact ⟨_, e, fr_bl.mpr rfl⟩
theorem op_bin {op : Operator} (h : binT op a b = some s) (ha : ER w a x) (hb : ER w b y) : OpR w (binM op x y w.M) s := by
  unfold binT at h
  split at h
  · rw [er_int ha, er_int hb]; exact opI h rfl
  · rw [er_str ha, er_str hb]
    split at h
    · rename_i c
      cases h
      exact ⟨_, by rw [binM, if_pos c], fr_str.mpr rfl⟩
    · cases h
  · obtain ⟨vs, rfl, r1⟩ := er_tup ha
    obtain ⟨us, rfl, r2⟩ := er_tup hb
    split at h
    · rename_i c
      cases h
      rw [← r1.length, ← r2.length] at c
      exact ⟨_, by rw [binM, if_pos c], fr_tup.mpr ⟨_, rfl, r1.append r2⟩⟩
    · cases h
  · obtain ⟨n, vs, rfl, g1, r1⟩ := er_lst ha
    obtain ⟨m, us, rfl, g2, r2⟩ := er_lst hb
    split at h
    · rename_i c
      cases h
      rw [← r1.length, ← r2.length] at c
      exact ⟨_, by simp only [binM, g1, g2, if_pos c], r1.append r2⟩
    · cases h
  · rw [er_int ha, er_int hb]; exact opI h rfl
  · rw [er_int ha, er_int hb]
    split at h
    · rename_i c; exact opI h (by rw [binM, if_pos c])
    · cases h
  · obtain ⟨n, vs, rfl, g1, r1⟩ := er_lst ha
    rw [er_int hb]
    split at h
    · rename_i k c
      cases h
      rw [← r1.length] at c
      refine ⟨(List.replicate k.toNat vs).flatten, by simp only [binM, g1, if_pos c], ?_⟩
      induction k.toNat with
      | zero => exact frs_nil.mpr rfl
      | succ m ih => rw [List.replicate_succ, List.replicate_succ, List.flatten_cons, List.flatten_cons]; exact r1.append ih
    · cases h
  · obtain ⟨vs, rfl, r1⟩ := er_tup ha
    rw [er_int hb]
    split at h
    · rename_i ts k c
      cases h
      have c' : 2 ≤ k ∧ k ≤ 1000 ∧ vs.isEmpty = false ∧ vs.length ≤ 1000 := by
        refine ⟨c.1, c.2.1, ?_, by rw [r1.length]; exact c.2.2.2⟩
        have l1 := r1.length
        cases vs with
        | cons _ _ => rfl
        | nil => cases ts with
          | nil => exact c.2.2.1
          | cons _ _ => cases l1
      refine ⟨.tup (List.replicate k.toNat vs).flatten, by simp only [binM, if_pos c'], fr_tup.mpr ⟨(List.replicate k.toNat vs).flatten, rfl, ?_⟩⟩
      induction k.toNat with
      | zero => exact frs_nil.mpr rfl
      | succ m ih => rw [List.replicate_succ, List.replicate_succ, List.flatten_cons, List.flatten_cons]; exact r1.append ih
    · cases h
  · rw [er_int ha, er_int hb]
    split at h
    · rename_i c; exact opI h (by rw [binM, if_pos c])
    · cases h
  · rw [er_int ha, er_int hb]
    split at h
    · rename_i c; exact opI h (by rw [binM, if_pos c])
    · cases h
  · rw [er_int ha, er_int hb]
    split at h
    · rename_i c; exact opI h (by rw [binM, if_pos c])
    · cases h
  · rw [er_int ha, er_int hb]
    split at h
    · rename_i c; exact opI h (by rw [binM, if_pos c])
    · cases h
  · rw [er_int ha, er_int hb]
    split at h
    · rename_i c; exact opI h (by rw [binM, if_pos c])
    · cases h
  · rw [er_int ha, er_int hb]; exact opI h rfl
  · rw [er_int ha, er_int hb]; exact opI h rfl
  · cases h
theorem sh_nli (h : shT a = true) : ∀ n, a.toP ≠ .ref n := fun n e => by
  unfold shT at h; rw [e] at h; cases h
theorem toP_int : ∀ {a : TV} {i : Int}, a.toP = .int i → a = .int i
  | .int _, _, h => by cases h; rfl
theorem eqM_nn (hx : ∀ n, x ≠ .ref n) (hy : ∀ n, y ≠ .ref n) (M : Mem) : eqM x y M = if shallow x && shallow y then some (x.eqv y) else none := by
  cases x <;> cases y <;> first | rfl | (exact absurd rfl (hx _)) | (exact absurd rfl (hy _))
theorem op_eq {r : Bool} (h : eqT a b = some r) (ha : ER w a x) (hb : ER w b y) : eqM x y w.M = some r := by
  unfold eqT at h
  split at h
  · rename_i xs ys e1 e2
    obtain ⟨n, vs, rfl, g1, r1⟩ := er_li ha e1
    obtain ⟨m, us, rfl, g2, r2⟩ := er_li hb e2
    split at h
    · rename_i c
      rw [Bool.and_eq_true] at c
      cases h
      have q1 := r1.sh c.1
      have q2 := r2.sh c.2
      simp only [eqM, g1, g2]
      rw [q1, q2, all_sh, all_sh, c.1, c.2]; rfl
    · cases h
  · rename_i xs e1 e2
    obtain ⟨n, vs, rfl, g1, r1⟩ := er_li ha e1
    split at h
    · rename_i c
      rw [Bool.and_eq_true] at c
      cases h
      have q1 := r1.sh c.1
      have q2 := er_sh hb c.2
      have n2 := sh_nli c.2
      rw [← q2] at n2
      have c2 : shallow y = true := by rw [q2]; exact c.2
      have : eqM (.ref n) y w.M = (match w.M.lst? n with
        | some xs => if xs.all shallow && shallow y then some false else none
        | none => none) := by cases y <;> first | rfl | exact absurd rfl (n2 _)
      rw [this, g1]
      simp only
      rw [q1, all_sh, c.1, c2]; rfl
    · cases h
  · rename_i ys e1 e2
    obtain ⟨n, vs, rfl, g1, r1⟩ := er_li hb e2
    split at h
    · rename_i c
      rw [Bool.and_eq_true] at c
      cases h
      have q1 := r1.sh c.1
      have q2 := er_sh ha c.2
      have n2 := sh_nli c.2
      rw [← q2] at n2
      have c2 : shallow x = true := by rw [q2]; exact c.2
      have : eqM x (.ref n) w.M = (match w.M.lst? n with
        | some ys => if ys.all shallow && shallow x then some false else none
        | none => none) := by cases x <;> first | rfl | exact absurd rfl (n2 _)
      rw [this, g1]
      simp only
      rw [q1, all_sh, c.1, c2]; rfl
    · cases h
  · split at h
    · rename_i c
      rw [Bool.and_eq_true] at c
      cases h
      have q1 := er_sh ha c.1
      have q2 := er_sh hb c.2
      subst q1 q2
      rw [eqM_nn (sh_nli c.1) (sh_nli c.2)]
      have c1 : shallow a.toP = true := c.1
      have c2 : shallow b.toP = true := c.2
      rw [c1, c2]; rfl
    · cases h
theorem any_toPs (f : PV → Bool) : ∀ ts : List TV, (TV.toP.toPs ts).any f = ts.any fun t => f t.toP
  | [] => rfl
  | t :: ts => by rw [List.any_cons, ← any_toPs f ts]; rfl
theorem op_in {r : Bool} (h : inT a b = some r) (ha : ER w a x) (hb : ER w b y) : inM x y w.M = some r := by
  unfold inT at h
  split at h
  · rename_i ys e
    obtain ⟨us, g, rr⟩ := er_seq hb e
    split at h
    · rename_i c
      rw [Bool.and_eq_true] at c
      cases h
      have q1 := er_sh ha c.1
      have q2 := rr.sh c.2
      subst q1
      have c1 : shallow a.toP = true := c.1
      have fin : (if shallow a.toP && us.all shallow then some (us.any fun y => y.eqv a.toP) else none) = some (ys.any fun y => y.toP.eqv a.toP) := by
        rw [q2, all_sh, c.2, c1, any_toPs]; rfl
      cases y with
      | tup zs => cases g; exact fin
      | ref n =>
        have g : w.M.lst? n = some us := g
        show (match w.M.lst? n with
          | some ys => if shallow a.toP && ys.all shallow then some (ys.any fun y => y.eqv a.toP) else none
          | none => none) = _
        rw [g]; exact fin
      | _ => cases g
    · cases h
  · cases h
theorem isNon_er (ha : ER w a x) : isNon x = isNonT a := by
  cases a with
  | non => rw [er_non ha]; rfl
  | bl b => rw [er_bl ha]; rfl
  | int b => rw [er_int ha]; rfl
  | str b => rw [er_str ha]; rfl
  | tup b => obtain ⟨vs, rfl, _⟩ := er_tup ha; rfl
  | lst b => obtain ⟨n, vs, rfl, _⟩ := er_lst ha; rfl
  | rol b => obtain ⟨n, vs, rfl, _⟩ := er_rol ha; rfl
theorem opB' {o : Option Bool} {f : Bool → Bool} {rm : Res PV} (h : (o.bind fun b => vB (f b)) = some s) (e : ∀ b, o = some b → rm = .ok (.bl (f b)) w.M) : OpR w rm s := by
  cases o with
  | none => cases h
  | some b => exact opB h (e b rfl)
theorem ltOk_sh (h : ltOkT a b = true) : shT a = true ∧ shT b = true := by
  unfold ltOkT ltOk at h
  rw [Bool.and_eq_true, Bool.and_eq_true] at h
  exact ⟨h.1.2, h.2⟩
theorem datU : ∀ {v : PV} {d e : Nat}, v.dat d = true → d ≤ e → v.dat e = true
  | .non, _, _, _, _ => by simp [PV.dat]
  | .bl _, _, _, _, _ => by simp [PV.dat]
  | .int _, _, _, _, _ => by simp [PV.dat]
  | .str _, _, _, h, _ => by simp only [PV.dat] at h ⊢; exact h
  | .ref _, _, _, h, _ => by simp [PV.dat] at h
  | .tup xs, d, e, h, hd => by
    rw [PV.dat, Bool.and_eq_true] at h ⊢
    have h1 := of_decide_eq_true h.1
    exact ⟨decide_eq_true (by omega), datsU xs h.2 (by omega)⟩
where datsU : ∀ (xs : List PV) {d e : Nat}, PV.dat.dats xs d = true → d ≤ e → PV.dat.dats xs e = true
  | [], _, _, _, _ => by rw [PV.dat.dats]
  | x :: xs, d, e, h, hd => by
    rw [PV.dat.dats, Bool.and_eq_true] at h ⊢
    exact ⟨datU h.1 hd, datsU xs h.2 hd⟩
theorem dat_up' (v : PV) (h : v.dat 59 = true) : v.dat 60 = true := datU h (by decide)
theorem op_ltPr (h : ltPrT a b = some s) (ha : ER w a x) (hb : ER w b y) : OpR w (cmpM .Lt x y w.M) s := by
  unfold ltPrT at h
  split at h
  · rename_i p q e1 e2
    split at h
    · rename_i c
      have one : ∀ {a : TV} {x : PV} {p : Int × List TV}, prT a = some p → ER w a x → shT (unpT p) = true → ∃ n, x = .tup [.int p.1, .ref n] ∧ w.M.lst? n = some (TV.toP.toPs p.2) := fun {a x p} e ha hs => by
        unfold prT at e
        split at e
        · rename_i i z
          obtain ⟨xs, e3, rfl⟩ := Option.map_eq_some_iff.mp e
          obtain ⟨us, rfl, rr⟩ := er_tup ha
          obtain ⟨v1, r1, rfl, f1, rr⟩ := frs_cons.mp rr
          obtain ⟨v2, r2, rfl, f2, rr⟩ := frs_cons.mp rr
          rw [frs_nil.mp rr, fr_int.mp f1]
          obtain ⟨n, vs, rfl, g, r⟩ := er_li (.inl f2) e3
          refine ⟨n, rfl, ?_⟩
          rw [g]
          have : PV.tup vs = (TV.tup xs).toP := by
            refine FR.sh (fr_tup.mpr ⟨vs, rfl, r⟩) ?_
            unfold shT shallow unpT at hs
            unfold shT shallow
            rw [TV.toP, TV.toP.toPs, TV.toP.toPs, TV.toP.toPs, PV.dat, PV.dat.dats, PV.dat.dats, PV.dat.dats] at hs
            simp only [Bool.and_eq_true] at hs
            exact dat_up' _ hs.2.2.1
          rw [TV.toP] at this
          injection this with this
          rw [this]
        · cases e
      obtain ⟨s1, s2⟩ := ltOk_sh c
      obtain ⟨n, rfl, g1⟩ := one e1 ha s1
      obtain ⟨m, rfl, g2⟩ := one e2 hb s2
      refine opB h ?_
      have nl : ltOk (.tup [.int p.1, .ref n]) (.tup [.int q.1, .ref m]) = false := by
        unfold ltOk
        have : shallow (.tup [.int p.1, .ref n]) = false := by
          unfold shallow
          rw [PV.dat, PV.dat.dats, PV.dat.dats]
          simp [PV.dat]
        rw [this]; simp
      have c2 : ltOk (unp (p.1, TV.toP.toPs p.2)) (unp (q.1, TV.toP.toPs q.2)) = true := c
      simp only [cmpM, nl, Bool.false_eq_true, if_false, ltPr, prL, g1, g2, Option.map_some, c2, if_true]
      rfl
    · cases h
  · cases h
theorem op_cmp {op : CmpOp} (h : cmpT op a b = some s) (ha : ER w a x) (hb : ER w b y) : OpR w (cmpM op x y w.M) s := by
  unfold cmpT at h
  cases op <;> simp only at h
  · exact opB' (f := id) h fun b e => by simp only [cmpM, op_eq e ha hb]; rfl
  · exact opB' (f := not) h fun b e => by simp only [cmpM, op_eq e ha hb]
  · split at h
    · rw [er_int ha, er_int hb]; exact opB h rfl
    · split at h
      · rename_i hn c
        have c' := ltOk_sh c
        have q1 := er_sh ha c'.1
        have q2 := er_sh hb c'.2
        subst q1 q2
        refine opB h ?_
        simp only [cmpM]
        split
        · rename_i e1 e2
          exact (hn _ _ (toP_int e1) (toP_int e2)).elim
        · have c2 : ltOk a.toP b.toP = true := c
          rw [if_pos c2]
      · exact op_ltPr h ha hb
  · split at h
    · rw [er_int ha, er_int hb]; exact opB h rfl
    · split at h
      · rename_i hn c
        have c' := ltOk_sh c
        have q1 := er_sh ha c'.1
        have q2 := er_sh hb c'.2
        subst q1 q2
        refine opB h ?_
        simp only [cmpM]
        split
        · rename_i e1 e2
          exact (hn _ _ (toP_int e1) (toP_int e2)).elim
        · have c2 : ltOk a.toP b.toP = true := c
          rw [if_pos c2]
      · cases h
  · split at h
    · rw [er_int ha, er_int hb]; exact opB h rfl
    · split at h
      · rename_i hn c
        have c' := ltOk_sh c
        have q1 := er_sh ha c'.1
        have q2 := er_sh hb c'.2
        subst q1 q2
        refine opB h ?_
        simp only [cmpM]
        split
        · rename_i e1 e2
          exact (hn _ _ (toP_int e1) (toP_int e2)).elim
        · have c2 : ltOk a.toP b.toP = true := c
          rw [if_pos c2]
      · cases h
  · split at h
    · rw [er_int ha, er_int hb]; exact opB h rfl
    · split at h
      · rename_i hn c
        have c' := ltOk_sh c
        have q1 := er_sh ha c'.1
        have q2 := er_sh hb c'.2
        subst q1 q2
        refine opB h ?_
        simp only [cmpM]
        split
        · rename_i e1 e2
          exact (hn _ _ (toP_int e1) (toP_int e2)).elim
        · have c2 : ltOk a.toP b.toP = true := c
          rw [if_pos c2]
      · cases h
  · split at h
    · rw [er_non hb]
      exact opB h (by simp only [cmpM, isNon_er ha])
    · rw [er_bl hb]
      split at h
      · rw [er_bl ha]
        exact opB h (by simp only [cmpM])
      · cases h
    · cases h
  · split at h
    · rw [er_non hb]
      exact opB h (by simp only [cmpM, isNon_er ha])
    · rw [er_bl hb]
      split at h
      · rw [er_bl ha]
        exact opB h (by simp only [cmpM])
      · cases h
    · cases h
  · exact opB' (f := id) h fun b e => by simp only [cmpM, op_in e ha hb]; rfl
  · exact opB' (f := not) h fun b e => by simp only [cmpM, op_in e ha hb]
theorem op_ix (h : ixT a b = some s) (ha : ER w a x) (hb : ER w b y) : OpR w (ixM x y w.M) s := by
  unfold ixT at h
  split at h
  · rename_i i
    rw [er_int hb]
    rw [Option.bind_eq_some_iff] at h
    obtain ⟨xs, e, h⟩ := h
    obtain ⟨vs, g, r⟩ := er_seq ha e
    rw [Option.bind_eq_some_iff] at h
    obtain ⟨j, e1, h⟩ := h
    obtain ⟨t, e2, rfl⟩ := Option.map_eq_some_iff.mp h
    obtain ⟨v, e3, r3⟩ := r.get e2
    rw [← r.length] at e1
    have fin : (ixOf vs.length i).bind (fun j => vs[j]?) = some v := by rw [e1]; exact e3
    refine ⟨v, ?_, r3⟩
    cases x with
    | tup zs => cases g; simp only [ixM, fin]
    | ref n =>
      have g : w.M.lst? n = some vs := g
      simp only [ixM, g, fin]
    | _ => cases g
  · cases h
theorem op_sl {lo hi : Option Int} (h : slT a lo hi = some s) (ha : ER w a x) : OpR w (slM x lo hi w.M) s := by
  have key : ∀ {ts : List TV} {vs : List PV}, FRs w.M w.Z ts vs → FRs w.M w.Z (cutT ts lo hi) (cut vs lo hi) := fun r => by
    unfold cutT cut
    rw [r.length]
    exact (r.drop _).take _
  unfold slT at h
  split at h
  · obtain ⟨vs, rfl, r⟩ := er_tup ha
    cases h
    exact ⟨_, rfl, fr_tup.mpr ⟨_, rfl, key r⟩⟩
  · obtain ⟨n, vs, rfl, g, r⟩ := er_lst ha
    cases h
    exact ⟨_, by simp only [slM, Mem.lst?, g], key r⟩
  · obtain ⟨n, vs, rfl, g, r⟩ := er_rol ha
    cases h
    exact ⟨_, by simp only [slM, Mem.lst?, g], key r⟩
  · cases h
theorem op_stp (h : stpT a b = some s) (ha : ER w a x) (hb : ER w b y) : OpR w (stpM x y w.M) s := by
  unfold stpT at h
  split at h
  · obtain ⟨vs, rfl, r⟩ := er_tup ha
    rw [er_int hb]
    split at h
    · rename_i c
      cases h
      exact ⟨_, by rw [stpM, if_pos c], fr_tup.mpr ⟨_, rfl, r⟩⟩
    · rename_i c
      split at h
      · rename_i c2
        cases h
        exact ⟨_, by rw [stpM, if_neg c, if_pos c2], fr_tup.mpr ⟨_, rfl, r.rev⟩⟩
      · cases h
  · cases h
theorem op_truth {r : Bool} (h : truthT a = some r) (ha : ER w a x) : truth x w.M = .ok r w.M := by
  cases a with
  | non => rw [er_non ha]; cases h; rfl
  | bl b => rw [er_bl ha]; cases h; rfl
  | int b => rw [er_int ha]; cases h; rfl
  | str b =>
    rw [er_str ha]
    simp only [truthT] at h
    split at h
    · rename_i c; cases h; rw [truth, if_pos c]
    · cases h
  | tup b =>
    obtain ⟨vs, rfl, r⟩ := er_tup ha
    cases h
    have := r.length
    cases b with
    | nil => rw [frs_nil.mp r]; rfl
    | cons t ts => obtain ⟨_, _, rfl, _, _⟩ := frs_cons.mp r; rfl
  | lst b =>
    obtain ⟨n, vs, rfl, g, r⟩ := er_lst ha
    cases h
    simp only [truth, Mem.lst?, g]
    cases b with
    | nil => rw [frs_nil.mp r]; rfl
    | cons t ts => obtain ⟨_, _, rfl, _, _⟩ := frs_cons.mp r; rfl
  | rol b =>
    obtain ⟨n, vs, rfl, g, r⟩ := er_rol ha
    cases h
    simp only [truth, Mem.lst?, g]
    cases b with
    | nil => rw [frs_nil.mp r]; rfl
    | cons t ts => obtain ⟨_, _, rfl, _, _⟩ := frs_cons.mp r; rfl
theorem ints_er : ∀ {ts : List TV} {vs : List PV} {l : List Int}, FRs w.M w.Z ts vs → intsT ts = some l → ints? vs = some l
  | [], vs, l, r, h => by rw [frs_nil.mp r]; exact h
  | t :: ts, vs, l, r, h => by
    obtain ⟨v, q, rfl, r1, r2⟩ := frs_cons.mp r
    cases t with
    | int i =>
      rw [intsT] at h
      obtain ⟨l', e, rfl⟩ := Option.map_eq_some_iff.mp h
      rw [fr_int.mp r1, ints?, ints_er r2 e]; rfl
    | _ => cases h
theorem bls_er : ∀ {ts : List TV} {vs : List PV} {l : List Bool}, FRs w.M w.Z ts vs → blsT ts = some l → bls? vs = some l
  | [], vs, l, r, h => by rw [frs_nil.mp r]; exact h
  | t :: ts, vs, l, r, h => by
    obtain ⟨v, q, rfl, r1, r2⟩ := frs_cons.mp r
    cases t with
    | bl i =>
      rw [blsT] at h
      obtain ⟨l', e, rfl⟩ := Option.map_eq_some_iff.mp h
      rw [fr_bl.mp r1, bls?, bls_er r2 e]; rfl
    | _ => cases h
theorem ints_none : ∀ {ts : List TV} {vs : List PV}, FRs w.M w.Z ts vs → intsT ts = none → ints? vs = none
  | [], vs, r, h => by cases h
  | t :: ts, vs, r, h => by
    obtain ⟨v, q, rfl, r1, r2⟩ := frs_cons.mp r
    cases t with
    | int i =>
      rw [intsT, Option.map_eq_none_iff] at h
      rw [fr_int.mp r1, ints?, ints_none r2 h]; rfl
    | non => rw [fr_non.mp r1]; rfl
    | bl b => rw [fr_bl.mp r1]; rfl
    | str b => rw [fr_str.mp r1]; rfl
    | tup b => obtain ⟨_, rfl, _⟩ := fr_tup.mp r1; rfl
    | lst b => obtain ⟨_, _, rfl, _⟩ := fr_lst.mp r1; rfl
    | rol b => obtain ⟨_, _, rfl, _⟩ := fr_rol.mp r1; rfl
theorem srt_sh {ts : List TV} (h : srtOk (TV.toP.toPs ts) = true) : ts.all shT = true := by
  unfold srtOk at h
  rw [Bool.and_eq_true, Bool.and_eq_true, Bool.and_eq_true] at h
  rw [← all_sh]; exact h.1.1.2
theorem ers1 {ts : List TV} {vs : List PV} {t : TV} (h : ERs w [t] vs) : ∃ v, vs = [v] ∧ ER w t v := by
  obtain ⟨v, r, rfl, h1, h2⟩ := h
  have h2 : r = [] := h2
  subst h2
  exact ⟨v, rfl, h1⟩
theorem ers2 {vs : List PV} {t u : TV} (h : ERs w [t, u] vs) : ∃ v v', vs = [v, v'] ∧ ER w t v ∧ ER w u v' := by
  obtain ⟨v, r, rfl, h1, v', r', rfl, h2, h3⟩ := h
  have h3 : r' = [] := h3
  subst h3
  exact ⟨v, v', rfl, h1, h2⟩
end
end Vt
end
section
set_option Elab.async false
set_option linter.all false
set_option maxRecDepth 100000
set_option maxHeartbeats 4000000
namespace Vt
open PySem Mn
section
variable {w : Wd} {s : SV} {a b c : TV} {x y z : PV}
theorem len_str {M : Mem} {x : Str} (c : x.length ≤ LIM) : bcallM .len [.str x] M = .ok (.int x.length) M := by rw [bcallM, if_pos c]
theorem len_seq {M : Mem} {v : PV} {xs : List PV} (h : seq? v M = some xs) : bcallM .len [v] M = .ok (.int xs.length) M := by
  cases v with
  | str x => cases h
  | _ => simp only [bcallM, h]
theorem rows_er : ∀ {ts : List TV} {vs : List PV} {l : List (List Int)}, FRs w.M w.Z ts vs → tupZsT ts = some l → tupZs? vs = some l
  | [], vs, l, r, h => by rw [frs_nil.mp r]; exact h
  | t :: ts, vs, l, r, h => by
    obtain ⟨v, q, rfl, r1, r2⟩ := frs_cons.mp r
    rw [tupZsT, Option.bind_eq_some_iff] at h
    obtain ⟨k, e1, h⟩ := h
    obtain ⟨l', e2, rfl⟩ := Option.map_eq_some_iff.mp h
    cases t with
    | tup xs =>
      obtain ⟨us, rfl, ru⟩ := fr_tup.mp r1
      rw [tupZs?, tupZ?, ints_er ru (by exact e1), rows_er r2 e2]; rfl
    | _ => simp [tupZT] at e1
theorem frs_rows : ∀ (l : List (List Int)), FRs w.M w.Z (l.map fun k => TV.tup (k.map TV.int)) (l.map tupP)
  | [] => frs_nil.mpr rfl
  | k :: l => frs_cons.mpr ⟨_, _, rfl, fr_tup.mpr ⟨_, rfl, frs_map_int k⟩, frs_rows l⟩
theorem op_bcall {f : BF} {ts : List TV} {vs : List PV} (h : bcallT f ts = some s) (hr : ERs w ts vs) : OpR w (bcallM f vs w.M) s := by
  unfold bcallT at h
  split at h
  · obtain ⟨v, rfl, r⟩ := ers1 (ts := []) hr
    split at h
    · rw [er_str r]
      split at h
      · rename_i c; exact opI h (len_str c)
      · cases h
    · rw [Option.bind_eq_some_iff] at h
      obtain ⟨xs, e, h⟩ := h
      obtain ⟨us, g, rr⟩ := er_seq r e
      exact opI h (by rw [len_seq g, rr.length])
  · obtain ⟨v, rfl, r⟩ := ers1 (ts := []) hr
    rw [Option.bind_eq_some_iff] at h
    obtain ⟨l, e, h⟩ := h
    rw [Option.bind_eq_some_iff] at e
    obtain ⟨xs, e1, e2⟩ := e
    obtain ⟨us, g, rr⟩ := er_seq r e1
    refine opB h ?_
    cases v with
    | tup zs => cases g; simp only [bcallM, bls_er rr e2]
    | ref n => simp only [bcallM, show w.M.lst? n = some us from g, Option.bind_some, bls_er rr e2]
    | _ => cases g
  · obtain ⟨v, rfl, r⟩ := ers1 (ts := []) hr
    rw [Option.bind_eq_some_iff] at h
    obtain ⟨l, e, h⟩ := h
    rw [Option.bind_eq_some_iff] at e
    obtain ⟨xs, e1, e2⟩ := e
    obtain ⟨us, g, rr⟩ := er_seq r e1
    refine opB h ?_
    cases v with
    | tup zs => cases g; simp only [bcallM, bls_er rr e2]
    | ref n => simp only [bcallM, show w.M.lst? n = some us from g, Option.bind_some, bls_er rr e2]
    | _ => cases g
  · obtain ⟨v, rfl, r⟩ := ers1 (ts := []) hr
    rw [Option.bind_eq_some_iff] at h
    obtain ⟨l, e, h⟩ := h
    rw [Option.bind_eq_some_iff] at e
    obtain ⟨xs, e1, e2⟩ := e
    obtain ⟨n, us, rfl, g, rr⟩ := er_li r e1
    exact opI h (by simp only [bcallM, g, Option.bind_some, ints_er rr e2])
  · obtain ⟨v, rfl, r⟩ := ers1 (ts := []) hr
    rw [er_int r]; exact opI h rfl
  · obtain ⟨v, rfl, r⟩ := ers1 (ts := []) hr
    rw [er_bl r]; exact opI h rfl
  · obtain ⟨v, rfl, r⟩ := ers1 (ts := []) hr
    obtain ⟨xs, e, rfl⟩ := Option.map_eq_some_iff.mp h
    obtain ⟨us, g, rr⟩ := er_seq r e
    exact ⟨us, by simp only [bcallM, g], rr⟩
  · obtain ⟨v, rfl, r⟩ := ers1 (ts := []) hr
    obtain ⟨xs, e, rfl⟩ := Option.map_eq_some_iff.mp h
    obtain ⟨us, g, rr⟩ := er_seq r e
    exact ⟨.tup us, by simp only [bcallM, g], fr_tup.mpr ⟨_, rfl, rr⟩⟩
  · obtain ⟨v, v', rfl, r, r'⟩ := ers2 hr
    rw [er_int r, er_int r']; exact opI h rfl
  · obtain ⟨v, v', rfl, r, r'⟩ := ers2 hr
    rw [er_int r, er_int r']; exact opI h rfl
  · obtain ⟨v, rfl, r⟩ := ers1 (ts := []) hr
    rw [Option.bind_eq_some_iff] at h
    obtain ⟨l, e, h⟩ := h
    rw [Option.bind_eq_some_iff] at e
    obtain ⟨xs, e1, e2⟩ := e
    obtain ⟨us, g, rr⟩ := er_seq r e1
    split at h
    · refine opI h ?_
      cases v with
      | tup zs => cases g; simp only [bcallM, ints_er rr e2]
      | ref n => simp only [bcallM, show w.M.lst? n = some us from g, Option.bind_some, ints_er rr e2]
      | _ => cases g
    · cases h
  · obtain ⟨v, rfl, r⟩ := ers1 (ts := []) hr
    rw [Option.bind_eq_some_iff] at h
    obtain ⟨l, e, h⟩ := h
    rw [Option.bind_eq_some_iff] at e
    obtain ⟨xs, e1, e2⟩ := e
    obtain ⟨us, g, rr⟩ := er_seq r e1
    split at h
    · refine opI h ?_
      cases v with
      | tup zs => cases g; simp only [bcallM, ints_er rr e2]
      | ref n => simp only [bcallM, show w.M.lst? n = some us from g, Option.bind_some, ints_er rr e2]
      | _ => cases g
    · cases h
  · obtain ⟨v, v', rfl, r, r'⟩ := ers2 hr
    rw [er_int r']
    rw [Option.bind_eq_some_iff] at h
    obtain ⟨l, e, h⟩ := h
    rw [Option.bind_eq_some_iff] at e
    obtain ⟨xs, e1, e2⟩ := e
    obtain ⟨n, us, rfl, g, rr⟩ := er_li r e1
    split at h
    · exact opI h (by simp only [bcallM, g, Option.bind_some, ints_er rr e2])
    · exact opI h (by simp only [bcallM, g, Option.bind_some, ints_er rr e2])
  · obtain ⟨v, rfl, r⟩ := ers1 (ts := []) hr
    rw [Option.bind_eq_some_iff] at h
    obtain ⟨xs, e1, h⟩ := h
    obtain ⟨n, us, rfl, g, rr⟩ := er_li r e1
    split at h
    · rename_i is e2
      cases h
      exact ⟨_, by simp only [bcallM, g, Option.bind_some, ints_er rr e2], frs_map_int _⟩
    · rename_i e2
      split at h
      · rename_i c
        cases h
        have q := rr.sh (srt_sh c)
        have c' := c
        rw [← q] at c'
        refine ⟨us.mergeSort fun a b => !b.lt a, ?_, ?_⟩
        · simp only [bcallM, g, Option.bind_some, ints_none rr e2, c', if_true]
        · rw [q]
          refine frs_ofPs (d := 60) ?_
          rw [dats_all]
          have : (TV.toP.toPs xs).all shallow = true := by rw [all_sh]; exact srt_sh c
          rw [List.all_eq_true] at this ⊢
          intro v hv
          exact this v (List.mem_mergeSort.mp hv)
      · cases h
  · obtain ⟨v, rfl, r⟩ := ers1 (ts := []) hr
    split at h
    · rename_i xs e1
      obtain ⟨n, us, rfl, g, rr⟩ := er_li r e1
      split at h
      · rename_i c
        cases h
        rw [Bool.and_eq_true] at c
        have q := rr.sh c.1
        have c1 : us.all shallow = true := by rw [q, all_sh]; exact c.1
        have c2 := c.2
        rw [← q] at c2
        refine ⟨_, ?_, fr_str.mpr rfl⟩
        simp only [bcallM, g, c1, c2, Bool.and_self, if_true]
        rw [q]
      · cases h
    · rename_i e1
      split at h
      · rename_i c
        cases h
        rw [Bool.and_eq_true] at c
        have q := er_sh r c.1
        subst q
        have n1 := sh_nli c.1
        have c1 : shallow _ = true := c.1
        refine ⟨_, ?_, fr_str.mpr rfl⟩
        generalize hq : TV.toP _ = q at *
        have : bcallM .repr [q] w.M = if shallow q && repOk q.toD then .ok (.str q.toD.shown) w.M else .stuck := by
          cases q <;> first | rfl | exact absurd rfl (n1 _)
        rw [this, c1, c.2]; rfl
      · cases h
  · obtain ⟨v, rfl, r⟩ := ers1 (ts := []) hr
    obtain ⟨xs, e, rfl⟩ := Option.map_eq_some_iff.mp h
    obtain ⟨us, g, rr⟩ := er_seq r e
    refine ⟨.tup us.reverse, ?_, fr_tup.mpr ⟨_, rfl, rr.rev⟩⟩
    cases v with
    | tup zs => cases g; simp only [bcallM]
    | ref n => simp only [bcallM, show w.M.lst? n = some us from g]
    | _ => cases g
  · obtain ⟨v, rfl, r⟩ := ers1 (ts := []) hr
    split at h
    · obtain ⟨us, rfl, rr⟩ := er_tup r
      split at h
      · rename_i is e
        split at h
        · rename_i c
          cases h
          exact ⟨_, by simp only [bcallM, ints_er rr e, if_pos c], frs_map_int _⟩
        · cases h
      · rename_i e0
        rw [Option.bind_eq_some_iff] at h
        obtain ⟨ks, e, h⟩ := h
        split at h
        · rename_i c
          cases h
          exact ⟨_, by simp only [bcallM, ints_none rr e0, rows_er rr e, if_pos c], frs_rows _⟩
        · cases h
    · split at h
      · rename_i ks e
        rw [Option.bind_eq_some_iff] at e
        obtain ⟨xs, e1, e2⟩ := e
        obtain ⟨n, us, rfl, g, rr⟩ := er_li r e1
        split at h
        · rename_i c
          cases h
          exact ⟨_, by simp only [bcallM, g, Option.bind_some, rows_er rr e2, if_pos c], frs_rows _⟩
        · cases h
      · rename_i e0
        rw [Option.bind_eq_some_iff] at h
        obtain ⟨is, e, h⟩ := h
        rw [Option.bind_eq_some_iff] at e
        obtain ⟨xs, e1, e2⟩ := e
        obtain ⟨n, us, rfl, g, rr⟩ := er_li r e1
        have nz : tupZs? us = none := by
          rw [e1, Option.bind_some] at e0
          cases xs with
          | nil => cases e0
          | cons t xs =>
            cases t with
            | int i =>
              obtain ⟨v, r', rfl, r1, r2⟩ := frs_cons.mp rr
              rw [fr_int.mp r1]; rfl
            | _ => cases e2
        split at h
        · rename_i c
          cases h
          exact ⟨_, by simp only [bcallM, g, Option.bind_some, nz, ints_er rr e2, if_pos c], frs_map_int _⟩
        · cases h
  · obtain ⟨v, rfl, r⟩ := ers1 (ts := []) hr
    rw [er_int r]
    split at h
    · rename_i c
      cases h
      exact ⟨_, by rw [bcallM, if_pos c], frs_range _ _⟩
    · cases h
  · obtain ⟨v, v', rfl, r, r'⟩ := ers2 hr
    rw [er_int r, er_int r']
    split at h
    · rename_i c
      cases h
      exact ⟨_, by rw [bcallM, if_pos c], frs_range _ _⟩
    · cases h
  · obtain ⟨v, rfl, r⟩ := ers1 (ts := []) hr
    rw [er_int r]
    split at h
    · rename_i c
      cases h
      exact ⟨_, by rw [bcallM, if_pos c], fr_tup.mpr ⟨_, rfl, frs_range _ _⟩⟩
    · cases h
  · cases h
theorem find_toPs (f : PV → Bool) : ∀ ts : List TV, (TV.toP.toPs ts).findIdx? f = ts.findIdx? fun t => f t.toP
  | [] => rfl
  | t :: ts => by
    rw [show TV.toP.toPs (t :: ts) = t.toP :: TV.toP.toPs ts from rfl, List.findIdx?_cons, List.findIdx?_cons, find_toPs f ts]
theorem op_meth {m : MF} {ts : List TV} {vs : List PV} (h : methT m a ts = some s) (ha : ER w a x) (hr : ERs w ts vs) : OpR w (methM m x vs w.M) s ∧ recvOk m x w.M = true := by
  unfold methT at h
  split at h
  · obtain ⟨v, rfl, r⟩ := ers1 (ts := []) hr
    rw [Option.bind_eq_some_iff] at h
    obtain ⟨xs, e, h⟩ := h
    obtain ⟨us, g, rr⟩ := er_seq ha e
    split at h
    · rename_i c
      rw [Bool.and_eq_true] at c
      rw [Option.bind_eq_some_iff] at h
      obtain ⟨j, e2, h⟩ := h
      have q := rr.sh c.1
      have q2 := er_sh r c.2
      subst q2
      have c1 : us.all shallow = true := by rw [q, all_sh]; exact c.1
      have c2 : shallow _ = true := c.2
      refine ⟨opI h ?_, ?_⟩
      · have e3 := e2
        rw [← find_toPs (fun x => x.eqv _) xs, ← q] at e3
        simp only [methM, g, c1, c2, Bool.and_self, if_true, e3]
      · cases x with
        | tup _ => rfl
        | ref n =>
          have g : w.M.lst? n = some us := g
          show (w.M.get n).isSome = true
          unfold Mem.lst? at g
          cases e : w.M.get n with
          | none => rw [e] at g; cases g
          | some _ => rfl
        | _ => cases g
    · cases h
  · cases h
theorem op_isi {ts : List TyK} (h : isiT ts a = some s) (ha : ER w a x) : OpR w (isiM x ts w.M) s := by
  unfold isiT at h
  refine opB h ?_
  cases a with
  | non => rw [er_non ha]; rfl
  | bl b => rw [er_bl ha]; rfl
  | int b => rw [er_int ha]; rfl
  | str b => rw [er_str ha]; rfl
  | tup b => obtain ⟨vs, rfl, _⟩ := er_tup ha; rfl
  | lst b => obtain ⟨n, vs, rfl, g, _⟩ := er_lst ha; simp only [isiM, tyOf, g]; rfl
  | rol b => obtain ⟨n, vs, rfl, g, _⟩ := er_rol ha; simp only [isiM, tyOf, g]; rfl
end
/-! ### steps -/
theorem get_lt {M : Mem} {n : Nat} {o : MObj} (h : M.get n = some o) : n < M.sz := by
  unfold Mem.get at h
  split at h
  · assumption
  · cases h
theorem push_old {M : Mem} {n : Nat} (o : MObj) (h : n < M.sz) : (M.push o).get n = M.get n := by
  have e : M.sz - n = (M.sz - 1 - n) + 1 := by omega
  simp [Mem.get, Mem.push, h, Nat.lt_succ_of_lt h, e]
theorem push_new (M : Mem) (o : MObj) : (M.push o).get M.sz = some o := by simp [Mem.get, Mem.push]
theorem put_new {M : Mem} (hw : M.objs.length = M.sz) {n : Nat} (h : n < M.sz) (o : MObj) (e : Nat) : (M.put n o e).get n = some o := by
  have : M.sz - 1 - n < M.objs.length := by rw [hw]; omega
  simp [Mem.get, Mem.put, h, this]
theorem put_old {M : Mem} {n m : Nat} (o : MObj) (e : Nat) (hn : n < M.sz) (h : m ≠ n) : (M.put n o e).get m = M.get m := by
  show (if m < M.sz then (M.objs.set (M.sz - 1 - n) o)[M.sz - 1 - m]? else none) = (if m < M.sz then M.objs[M.sz - 1 - m]? else none)
  by_cases hm : m < M.sz
  · rw [if_pos hm, if_pos hm, List.getElem?_set_ne]; omega
  · rw [if_neg hm, if_neg hm]
/-- a new list -/
def Wd.push (w : Wd) (vs : List PV) : Wd := ⟨w.M.push (.lst vs), w.Z, w.ω⟩
theorem WI.push {w : Wd} (i : WI w) (vs : List PV) : WI (w.push vs) where
  wh := by show _ + 1 = _ + 1; rw [i.wh]
  zb := fun n h => Nat.lt_succ_of_lt (i.zb n h)
  ob := fun n j h => ⟨Nat.lt_succ_of_lt (i.ob n j h).1, (i.ob n j h).2⟩
theorem Stp.push {w : Wd} (vs : List PV) : Stp w (w.push vs) := ⟨Nat.le_succ _, fun n h _ => push_old _ h, fun _ h => h, fun _ _ h => .inl h, fun _ _ h => h⟩
theorem SR.push {w : Wd} {σ : Mn.St} {σv : SS} (S : SR w σ σv) (vs : List PV) : SR (w.push vs) σ σv where
  wi := S.wi.push vs
  len := S.len
  slot := fun i s h => by
    obtain ⟨v, e, l⟩ := S.slot i s h
    exact ⟨v, e, LR.mono (w := w) (w' := w.push vs) (fun _ h => h) (Stp.keep S.wi (.push vs)) (fun n o => ⟨o, push_old _ (S.wi.ob n i o).1⟩) l⟩
theorem Tmp.push {w : Wd} (i : WI w) (vs : List PV) : Tmp w (w.push vs) w.M.sz where
  ow := by
    show w.ω w.M.sz = none
    cases e : w.ω w.M.sz with
    | none => rfl
    | some j => exact absurd (i.ob _ j e).1 (Nat.lt_irrefl _)
  nz := fun h => absurd (i.zb _ h) (Nat.lt_irrefl _)
  lt := Nat.lt_succ_self _
  nw := .inl (Nat.le_refl _)
/-- an operation's end -/
theorem op_end {w : Wd} {σ : Mn.St} {σv : SS} (S : SR w σ σv) {rm : Res PV} {s : SV} (h : OpR w rm s) : ∃ v w', rm = .ok v w'.M ∧ Stp w w' ∧ SR w' σ σv ∧ OR w w' σ (.own s) v := by
  cases s with
  | val t =>
    obtain ⟨v, e, r⟩ := h
    exact ⟨v, w, e, .refl w, S, r⟩
  | live ts =>
    obtain ⟨vs, e, r⟩ := h
    exact ⟨_, w.push vs, e, .push vs, S.push vs, _, vs, rfl, .push S.wi vs, push_new _ _, Stp.FRs S.wi (.push vs) r⟩
/-- some places stay from now on -/
def Wd.frz (w : Wd) (P : Nat → Prop) : Wd := ⟨w.M, fun n => w.Z n ∨ P n, w.ω⟩
open Classical in
noncomputable def Wd.drop (w : Wd) (i : Nat) : Wd := ⟨w.M, w.Z, fun n => if w.ω n = some i then none else w.ω n⟩
theorem drop_some {w : Wd} {i n j : Nat} (h : (w.drop i).ω n = some j) : w.ω n = some j ∧ j ≠ i := by
  have h : (if w.ω n = some i then none else w.ω n) = some j := h
  by_cases c : w.ω n = some i
  · rw [if_pos c] at h; cases h
  · rw [if_neg c] at h
    exact ⟨h, fun e => c (e ▸ h)⟩
theorem drop_ne {w : Wd} {i n j : Nat} (h : w.ω n = some j) (hj : j ≠ i) : (w.drop i).ω n = some j := by
  show (if w.ω n = some i then none else w.ω n) = some j
  rw [if_neg (by rw [h]; intro e; cases e; exact hj rfl)]; exact h
theorem drop_none {w : Wd} {i n : Nat} (h : w.ω n = none) : (w.drop i).ω n = none := by
  show (if w.ω n = some i then none else w.ω n) = none
  rw [if_neg (by rw [h]; simp)]; exact h
theorem drop_eq {w : Wd} {i n : Nat} (h : w.ω n = some i) : (w.drop i).ω n = none := if_pos h
theorem WI.drop {w : Wd} (i : WI w) (j : Nat) : WI (w.drop j) where
  wh := i.wh
  zb := i.zb
  ob := fun n k h => i.ob n k (drop_some h).1
theorem Stp.drop {w : Wd} (j : Nat) : Stp w (w.drop j) where
  sz := Nat.le_refl _
  fr := fun _ _ _ => rfl
  zm := fun _ h => h
  zn := fun _ _ h => .inl h
  on := fun n _ h e => h (drop_none e)
/-- a name loses what it held -/
theorem SR.drop {w : Wd} {σ : Mn.St} {σv : SS} (S : SR w σ σv) (i : Nat) : SR (w.drop i) σ (σv.set i none) where
  wi := S.wi.drop i
  len := by rw [List.length_set]; exact S.len
  slot := fun j s h => by
    by_cases c : i = j
    · subst c
      rw [List.getElem?_set_self'] at h
      cases e : σv[i]? with
      | none => rw [e] at h; cases h
      | some o => rw [e] at h; cases h
    · rw [List.getElem?_set_ne c] at h
      obtain ⟨v, e, l⟩ := S.slot j s h
      exact ⟨v, e, LR.mono (w := w) (w' := w.drop i) (fun _ h => h) (fun _ _ => rfl) (fun n o => ⟨drop_ne o (fun z => c z.symm), rfl⟩) l⟩
theorem frz_wi {w : Wd} (i : WI w) {P : Nat → Prop} (hp : ∀ n, P n → n < w.M.sz ∧ w.ω n = none) : WI (w.frz P) where
  wh := i.wh
  zb := fun n h => h.elim (i.zb n) fun h => (hp n h).1
  ob := fun n j h => ⟨(i.ob n j h).1, fun z => z.elim (i.ob n j h).2 fun p => by rw [show (w.frz P).ω n = w.ω n from rfl, (hp n p).2] at h; cases h⟩
theorem frz_sr {w : Wd} {σ : Mn.St} {σv : SS} (S : SR w σ σv) {P : Nat → Prop} (hp : ∀ n, P n → n < w.M.sz ∧ w.ω n = none) : SR (w.frz P) σ σv where
  wi := frz_wi S.wi hp
  len := S.len
  slot := fun j s h => by
    obtain ⟨v, e, l⟩ := S.slot j s h
    exact ⟨v, e, LR.mono (w := w) (w' := w.frz P) (fun _ h => Or.inl h) (fun _ _ => rfl) (fun n o => ⟨o, rfl⟩) l⟩
theorem LR.frz {w : Wd} {O : Nat → Prop} : ∀ {s : SV} {v : PV}, LR w O s v → FR w.M (fun n => w.Z n ∨ O n) s.tv v
  | .val t, v, h => FR.mono (fun _ h => .inl h) (fun _ _ => rfl) h
  | .live ts, v, ⟨n, vs, e, o, g, r⟩ => fr_lst.mpr ⟨n, vs, e, .inr o, g, r.mono (fun _ h => .inl h) fun _ _ => rfl⟩
/-- an operand that may be kept already -/
def ORf (w0 w : Wd) (σ : Mn.St) : Op → PV → Prop
  | .own s, v => LR w (fun n => Tmp w0 w n ∨ w.Z n) s v
  | .bor i, v => σ[i]? = some (some v)
def ORfs (w0 w : Wd) (σ : Mn.St) : List Op → List PV → Prop
  | [], vs => vs = []
  | o :: os, vs => ∃ v r, vs = v :: r ∧ ORf w0 w σ o v ∧ ORfs w0 w σ os r
theorem OR.f {w0 w : Wd} {σ : Mn.St} {o : Op} {v : PV} (h : OR w0 w σ o v) : ORf w0 w σ o v := by
  cases o with
  | bor i => exact h.1
  | own s => exact LR.mono (w' := w) (fun _ h => h) (fun _ _ => rfl) (fun n t => ⟨.inl t, rfl⟩) h
theorem ORs.f {w0 w : Wd} {σ : Mn.St} : ∀ {os : List Op} {vs : List PV}, ORs w0 w σ os vs → ORfs w0 w σ os vs
  | [], vs, h => h
  | o :: os, vs, ⟨v, r, e, h1, h2⟩ => ⟨v, r, e, h1.f, ORs.f h2⟩
/-- an operand is kept as it is -/
theorem frz_ok {w0 w : Wd} {σ : Mn.St} {σv σ' : SS} (S : SR w σ σv) (s0 : Stp w0 w) {o : Op} {v : PV} {t : TV} (h : ORf w0 w σ o v) (hf : frz σv o = some (t, σ')) :
    ∃ w', w'.M = w.M ∧ Stp w0 w' ∧ SR w' σ σ' ∧ FR w'.M w'.Z t v ∧ (∀ n, w.Z n → w'.Z n) ∧ ∀ n, Tmp w0 w n → Tmp w0 w' n ∨ w'.Z n := by
  cases o with
  | own s =>
    cases hf
    have h : LR w (fun n => Tmp w0 w n ∨ w.Z n) s v := h
    refine ⟨w.frz (Tmp w0 w), rfl, ?_, frz_sr S fun n t => ⟨t.lt, t.ow⟩, ?_, fun _ h => .inl h, fun n t => .inr (.inr t)⟩
    · refine ⟨s0.sz, s0.fr, fun n h => .inl (s0.zm n h), fun n hl h => ?_, s0.on⟩
      rcases h with h | h
      · exact s0.zn n hl h
      · rcases h.nw with q | q
        · omega
        · exact .inr q
    · exact FR.mono (M := w.M) (Z := fun n => w.Z n ∨ (Tmp w0 w n ∨ w.Z n)) (fun n q => q.elim .inl fun q => q.elim .inr .inl) (fun _ _ => rfl) h.frz
  | bor i =>
    rw [Vt.frz] at hf
    split at hf
    · rename_i s e
      cases hf
      obtain ⟨u, e1, l⟩ := S.rd e
      have h : σ[i]? = some (some v) := h
      rw [h] at e1; cases e1
      have hp : ∀ n, w.ω n = some i → n < (w.drop i).M.sz ∧ (w.drop i).ω n = none := fun n e => ⟨(S.wi.ob n i e).1, drop_eq e⟩
      have Sd := frz_sr (S.drop i) hp
      have f : FR w.M (fun n => w.Z n ∨ w.ω n = some i) s.tv v := l.frz
      refine ⟨(w.drop i).frz fun n => w.ω n = some i, rfl, ?_, ⟨Sd.wi, ?_, ?_⟩, f, fun _ h => .inl h, fun n t => ?_⟩
      · refine ⟨s0.sz, s0.fr, fun n h => .inl (s0.zm n h), fun n hl h => ?_, fun n hl h => s0.on n hl fun e => h (drop_none e)⟩
        rcases h with h | h
        · exact s0.zn n hl h
        · exact .inr (s0.on n hl (by rw [h]; simp))
      · rw [List.length_set]; exact S.len
      · intro j s' hj
        by_cases c : i = j
        · subst c
          rw [List.getElem?_set_self'] at hj
          rw [rd_some e] at hj
          cases hj
          exact ⟨v, h, f⟩
        · rw [List.getElem?_set_ne c] at hj
          exact Sd.slot j s' (by rw [List.getElem?_set_ne c]; exact hj)
      · exact .inl ⟨drop_none t.ow, fun q => q.elim t.nz (fun q => by have q : w.ω n = some i := q; rw [t.ow] at q; cases q), t.lt, t.nw⟩
    · cases hf
end Vt
end
section
set_option Elab.async false
set_option linter.all false
set_option maxRecDepth 100000
set_option maxHeartbeats 4000000
namespace Vt
open PySem Mn
theorem ORf.on {w0 w w' : Wd} {σ : Mn.St} {o : Op} {v : PV} (h : ORf w0 w σ o v) (em : w'.M = w.M) (hz : ∀ n, w.Z n → w'.Z n) (ht : ∀ n, Tmp w0 w n → Tmp w0 w' n ∨ w'.Z n) : ORf w0 w' σ o v := by
  cases o with
  | bor i => exact h
  | own s => exact LR.mono (w := w) (w' := w') hz (fun _ _ => by rw [em]) (fun n t => ⟨t.elim (ht n) fun z => .inr (hz n z), by rw [em]⟩) h
theorem ORfs.on {w0 w w' : Wd} {σ : Mn.St} (em : w'.M = w.M) (hz : ∀ n, w.Z n → w'.Z n) (ht : ∀ n, Tmp w0 w n → Tmp w0 w' n ∨ w'.Z n) : ∀ {os : List Op} {vs : List PV}, ORfs w0 w σ os vs → ORfs w0 w' σ os vs
  | [], vs, h => h
  | o :: os, vs, ⟨v, r, e, h1, h2⟩ => ⟨v, r, e, h1.on em hz ht, ORfs.on em hz ht h2⟩
theorem frzL_ok {w0 : Wd} {σ : Mn.St} : ∀ {os : List Op} {vs : List PV} {w : Wd} {σv σ' : SS} {ts : List TV}, SR w σ σv → Stp w0 w → ORfs w0 w σ os vs → frzL σv os = some (ts, σ') →
    ∃ w', w'.M = w.M ∧ Stp w0 w' ∧ SR w' σ σ' ∧ FRs w'.M w'.Z ts vs ∧ ∀ n, w.Z n → w'.Z n
  | [], vs, w, σv, σ', ts, S, s0, h, hf => by
    cases hf
    exact ⟨w, rfl, s0, S, frs_nil.mpr h, fun _ h => h⟩
  | o :: os, vs, w, σv, σ', ts, S, s0, ⟨v, r, e, h1, h2⟩, hf => by
    rw [frzL, Option.bind_eq_some_iff] at hf
    obtain ⟨⟨t, σ1⟩, e1, hf⟩ := hf
    obtain ⟨⟨ts', σ2⟩, e2, hf⟩ := Option.map_eq_some_iff.mp hf
    cases hf
    obtain ⟨w1, em, s1, S1, f1, hz, ht⟩ := frz_ok S s0 h1 e1
    obtain ⟨w2, em2, s2, S2, f2, hz2⟩ := frzL_ok S1 s1 (h2.on em hz ht) e2
    refine ⟨w2, em2.trans em, s2, S2, frs_cons.mpr ⟨v, r, e, FR.mono (M := w1.M) hz2 (fun _ _ => by rw [em2]) f1, f2⟩, fun n h => hz2 n (hz n h)⟩
theorem mv_ok {w0 w : Wd} {σ : Mn.St} {σv σ' : SS} (S : SR w σ σv) (s0 : Stp w0 w) {o : Op} {v : PV} {s : SV} (h : OR w0 w σ o v) (hf : mv σv o = some (s, σ')) :
    ∃ w', w'.M = w.M ∧ Stp w0 w' ∧ SR w' σ σ' ∧ LR w' (Tmp w0 w') s v := by
  cases o with
  | own s => cases hf; exact ⟨w, rfl, s0, S, h⟩
  | bor i =>
    rw [mv] at hf
    split at hf
    · rename_i s e
      cases hf
      obtain ⟨u, e1, l⟩ := S.rd e
      have h : σ[i]? = some (some v) := h.1
      rw [h] at e1; cases e1
      refine ⟨w.drop i, rfl, s0.trans (.drop i), S.drop i, LR.mono (w := w) (w' := w.drop i) (fun _ h => h) (fun _ _ => rfl) (fun n o => ⟨⟨drop_eq o, (S.wi.ob n i o).2, (S.wi.ob n i o).1, s0.nw (.inr (by rw [o]; simp))⟩, rfl⟩) l⟩
    · cases hf
open Classical in
noncomputable def Wd.give (w : Wd) (P : Nat → Prop) (i : Nat) : Wd := ⟨w.M, w.Z, fun n => if P n then some i else if w.ω n = some i then none else w.ω n⟩
theorem give_p {w : Wd} {P : Nat → Prop} {i n : Nat} (h : P n) : (w.give P i).ω n = some i := if_pos h
theorem give_ne {w : Wd} {P : Nat → Prop} {i n : Nat} (h : ¬ P n) : (w.give P i).ω n = (w.drop i).ω n := if_neg h
/-- a name gets a value -/
theorem set_ok {w0 w : Wd} {σ : Mn.St} {σv : SS} (S : SR w σ σv) (s0 : Stp w0 w) {v : PV} {s : SV} (h : LR w (Tmp w0 w) s v) (i : Nat) :
    ∃ w', w'.M = w.M ∧ Stp w0 w' ∧ SR w' (σ.set i (some v)) (σv.set i (some s)) := by
  refine ⟨w.give (Tmp w0 w) i, rfl, ⟨s0.sz, s0.fr, s0.zm, s0.zn, fun n hl h => ?_⟩, ⟨⟨S.wi.wh, S.wi.zb, fun n j e => ?_⟩, by rw [List.length_set, List.length_set]; exact S.len, fun j s' hj => ?_⟩⟩
  · by_cases t : Tmp w0 w n
    · rcases t.nw with q | q
      · omega
      · exact q
    · rw [give_ne t] at h
      exact s0.on n hl fun e => h (drop_none e)
  · by_cases t : Tmp w0 w n
    · exact ⟨t.lt, t.nz⟩
    · rw [give_ne t] at e
      exact S.wi.ob n j (drop_some e).1
  · by_cases c : i = j
    · subst c
      rw [List.getElem?_set_self'] at hj
      cases e : σv[i]? with
      | none => rw [e] at hj; cases hj
      | some x =>
        rw [e] at hj; cases hj
        have hl : i < σ.length := by rw [S.len]; exact (List.getElem?_eq_some_iff.mp e).1
        refine ⟨v, by rw [List.getElem?_set_self hl], LR.mono (w := w) (w' := w.give (Tmp w0 w) i) (fun _ h => h) (fun _ _ => rfl) (fun n t => ⟨give_p t, rfl⟩) h⟩
    · rw [List.getElem?_set_ne c] at hj ⊢
      obtain ⟨u, e, l⟩ := S.slot j s' hj
      refine ⟨u, e, LR.mono (w := w) (w' := w.give (Tmp w0 w) i) (fun _ h => h) (fun _ _ => rfl) (fun n o => ⟨?_, rfl⟩) l⟩
      have nt : ¬ Tmp w0 w n := fun t => by rw [t.ow] at o; cases o
      rw [give_ne nt]
      exact drop_ne o fun z => c z.symm
/-- a name gets a value that stays -/
theorem set_val {w : Wd} {σ : Mn.St} {σv : SS} (S : SR w σ σv) {v : PV} {t : TV} (h : FR w.M w.Z t v) (i : Nat) : SR w (σ.set i (some v)) (σv.set i (some (.val t))) where
  wi := S.wi
  len := by rw [List.length_set, List.length_set]; exact S.len
  slot := fun j s' hj => by
    by_cases c : i = j
    · subst c
      rw [List.getElem?_set_self'] at hj
      cases e : σv[i]? with
      | none => rw [e] at hj; cases hj
      | some x =>
        rw [e] at hj; cases hj
        have hl : i < σ.length := by rw [S.len]; exact (List.getElem?_eq_some_iff.mp e).1
        exact ⟨v, by rw [List.getElem?_set_self hl], h⟩
    · rw [List.getElem?_set_ne c] at hj ⊢
      exact S.slot j s' hj
theorem set_none {w : Wd} {σ : Mn.St} {σv : SS} (S : SR w σ σv) (i : Nat) : SR w (σ.set i none) (σv.set i none) where
  wi := S.wi
  len := by rw [List.length_set, List.length_set]; exact S.len
  slot := fun j s' hj => by
    by_cases c : i = j
    · subst c
      rw [List.getElem?_set_self'] at hj
      cases e : σv[i]? with
      | none => rw [e] at hj; cases hj
      | some x => rw [e] at hj; cases hj
    · rw [List.getElem?_set_ne c] at hj ⊢
      exact S.slot j s' hj
mutual
theorem asg_ok {w : Wd} : ∀ (g : MG) {σ : Mn.St} {σv σ' : SS} {t : TV} {v : PV}, SR w σ σv → FR w.M w.Z t v → asgG g t σv = some σ' → ∃ σm, assignG g v σ = some σm ∧ SR w σm σ' ∧ ∀ j, MG.has j g = false → σm[j]? = σ[j]?
  | .name i, σ, σv, σ', t, v, S, h, e => by
    rw [asgG] at e; cases e
    refine ⟨_, rfl, set_val S h i, fun j hj => ?_⟩
    rw [MG.has] at hj
    rw [List.getElem?_set_ne (by simpa using hj)]
  | .tup gs, σ, σv, σ', t, v, S, h, e => by
    cases t with
    | tup ts =>
      obtain ⟨vs, rfl, r⟩ := fr_tup.mp h
      have e : asgGs gs ts σv = some σ' := by simpa only [asgG] using e
      obtain ⟨σm, e1, S1, k⟩ := asgs_ok gs S r e
      refine ⟨σm, by simp only [assignG]; exact e1, S1, fun j hj => k j ?_⟩
      simpa only [MG.has] using hj
    | _ => simp [asgG] at e
theorem asgs_ok {w : Wd} : ∀ (gs : MGs) {σ : Mn.St} {σv σ' : SS} {ts : List TV} {vs : List PV}, SR w σ σv → FRs w.M w.Z ts vs → asgGs gs ts σv = some σ' → ∃ σm, assignGs gs vs σ = some σm ∧ SR w σm σ' ∧ ∀ j, gsHas j gs = false → σm[j]? = σ[j]?
  | .nil, σ, σv, σ', ts, vs, S, h, e => by
    cases ts with
    | nil =>
      have e : σv = σ' := by simpa [asgGs] using e
      subst e
      rw [frs_nil.mp h]; exact ⟨σ, by simp [assignGs], S, fun _ _ => rfl⟩
    | cons _ _ => simp [asgGs] at e
  | .cons g gs, σ, σv, σ', ts, vs, S, h, e => by
    cases ts with
    | nil => simp [asgGs] at e
    | cons t ts =>
      obtain ⟨v, r, rfl, h1, h2⟩ := frs_cons.mp h
      simp only [asgGs] at e
      rw [Option.bind_eq_some_iff] at e
      obtain ⟨σ1, e1, e2⟩ := e
      obtain ⟨σm, q1, S1, k1⟩ := asg_ok g S h1 e1
      obtain ⟨σm2, q2, S2, k2⟩ := asgs_ok gs S1 h2 e2
      refine ⟨σm2, by simp only [assignGs]; rw [q1]; exact q2, S2, fun j hj => ?_⟩
      simp only [gsHas, Bool.or_eq_false_iff] at hj
      rw [k2 j hj.2, k1 j hj.1]
end
theorem wipe_ok {w : Wd} {σ : Mn.St} {σv : SS} (S : SR w σ σv) : ∀ own : List Nat, SR w (wipe σ own) (wipeT σv own)
  | [] => S
  | v :: vs => set_none (wipe_ok S vs) v
theorem wipe_ne {σ : Mn.St} {j : Nat} : ∀ own : List Nat, j ∉ own → (wipe σ own)[j]? = σ[j]?
  | [], _ => rfl
  | v :: vs, h => by
    rw [List.mem_cons, not_or] at h
    rw [wipe, List.getElem?_set_ne (Ne.symm h.1), wipe_ne vs h.2]
theorem trim_eq (M : Mem) (r : Res PV) : trim M r = r := by cases r <;> rfl

/-- the walk side by side -/
def Sim {α β : Type} (w : Wd) (σ : Mn.St) (rm : Res α) (rt : RT β) (R : Wd → α → β → Prop) : Prop :=
  match rt with
  | .ok b σ' => ∃ a w', rm = .ok a w'.M ∧ Stp w w' ∧ SR w' σ σ' ∧ R w' a b
  | .exc e σ' => ∃ v w', rm = .exc v w'.M ∧ Stp w w' ∧ SR w' σ σ' ∧ FR w'.M w'.Z e v
  | .stuck => True
theorem Sim.bind {α β γ δ : Type} {w : Wd} {σ : Mn.St} {rm : Res α} {rt : RT β} {R : Wd → α → β → Prop} {f : α → Mem → Res γ} {g : β → SS → RT δ} {R2 : Wd → γ → δ → Prop} (h : Sim w σ rm rt R)
    (k : ∀ a b w' σ', Stp w w' → SR w' σ σ' → R w' a b → Sim w' σ (f a w'.M) (g b σ') R2) : Sim w σ (rm.bind f) (rt.bind g) R2 := by
  cases rt with
  | ok b σ' =>
    obtain ⟨a, w', e, s, S, r⟩ := h
    subst e
    have h2 := k a b w' σ' s S r
    show Sim w σ (f a w'.M) (g b σ') R2
    revert h2
    cases g b σ' with
    | ok d σ2 => rintro ⟨c, w2, e2, s2, S2, r2⟩; exact ⟨c, w2, e2, s.trans s2, S2, r2⟩
    | exc d σ2 => rintro ⟨c, w2, e2, s2, S2, r2⟩; exact ⟨c, w2, e2, s.trans s2, S2, r2⟩
    | stuck => exact id
  | exc e σ' =>
    obtain ⟨v, w', q, s, S, r⟩ := h
    subst q
    exact ⟨v, w', rfl, s, S, r⟩
  | stuck => trivial
theorem Sim.imp {α β : Type} {w : Wd} {σ : Mn.St} {rm : Res α} {rt : RT β} {R R' : Wd → α → β → Prop} (h : Sim w σ rm rt R) (k : ∀ a b w', Stp w w' → R w' a b → R' w' a b) : Sim w σ rm rt R' := by
  cases rt with
  | ok b σ' => obtain ⟨a, w', e, s, S, r⟩ := h; exact ⟨a, w', e, s, S, k a b w' s r⟩
  | exc e σ' => exact h
  | stuck => trivial
/-- expressions' promise -/
abbrev SimO (w0 w : Wd) (σ : Mn.St) (rm : Res PV) (rt : RT Op) : Prop := Sim w σ rm rt (fun w' v o => OR w0 w' σ o v)
theorem SimO.since {w0 w1 w : Wd} {σ : Mn.St} {rm : Res PV} {rt : RT Op} (h : SimO w1 w σ rm rt) (s : Stp w0 w1) : SimO w0 w σ rm rt := Sim.imp h fun _ _ _ _ r => r.since s
theorem sim_oT {w0 w : Wd} {σ : Mn.St} {σv : SS} {o : Option SV} {rm : Res PV} (S : SR w σ σv) (s0 : Stp w0 w) (h : ∀ s, o = some s → OpR w rm s) : SimO w0 w σ rm (oT o σv) := by
  cases o with
  | none => trivial
  | some s =>
    obtain ⟨v, w', e, s1, S1, r⟩ := op_end S (h s rfl)
    exact ⟨v, w', e, s1, S1, r.since s0⟩
theorem sim_k1 {w : Wd} {σ : Mn.St} {rm : Res PV} {rt : RT Op} {f : TV → Option SV} {g : PV → Mem → Res PV} (h : SimO w w σ rm rt) (k : ∀ w' t v s, ER w' t v → f t = some s → OpR w' (g v w'.M) s) :
    SimO w w σ (rm.bind g) (k1 f rt) := by
  unfold k1
  refine Sim.bind h fun v x w1 σ1 s1 S1 r1 => sim_oT S1 s1 fun s e => ?_
  rw [Option.bind_eq_some_iff] at e
  obtain ⟨t, e1, e2⟩ := e
  exact k w1 t v s (r1.er S1 e1) e2
theorem sim_k2b {w0 w : Wd} {σ : Mn.St} {σv : SS} {rm : Res PV} {rt : RT Op} {f : TV → TV → Option SV} {g : PV → Mem → Res PV} {x : Op} {u : PV} (wi : WI w) (s0 : Stp w0 w) (hx : OR w0 w σ x u) (h : SimO w w σ rm rt)
    (k : ∀ w' t t' v s, ER w' t u → ER w' t' v → f t t' = some s → OpR w' (g v w'.M) s) : SimO w0 w σ (rm.bind g) (k2b f x rt) := by
  unfold k2b
  refine Sim.bind h fun v y w1 σ1 s1 S1 r1 => sim_oT S1 (s0.trans s1) fun s e => ?_
  rw [Option.bind_eq_some_iff] at e
  obtain ⟨t, e1, e⟩ := e
  rw [Option.bind_eq_some_iff] at e
  obtain ⟨t', e2, e3⟩ := e
  exact k w1 t t' v s ((hx.on wi S1.wi s1).er S1 e1) (r1.er S1 e2) e3
theorem sim_frT {w0 w : Wd} {σ : Mn.St} {σv : SS} {o : Op} {v : PV} (S : SR w σ σv) (s0 : Stp w0 w) (h : OR w0 w σ o v) : ∀ {t σ'}, frT o σv = .ok t σ' → ∃ w', w'.M = w.M ∧ Stp w0 w' ∧ SR w' σ σ' ∧ FR w'.M w'.Z t v := by
  intro t σ' e
  unfold frT at e
  split at e
  · rename_i q
    cases e
    obtain ⟨w', e1, e2, e3, e4, _⟩ := frz_ok S s0 h.f q
    exact ⟨w', e1, e2, e3, e4⟩
  · cases e
theorem frT_cases (o : Op) (σv : SS) : (∃ t σ', frT o σv = .ok t σ') ∨ frT o σv = .stuck := by
  unfold frT
  cases frz σv o with
  | none => exact .inr rfl
  | some p => exact .inl ⟨p.1, p.2, rfl⟩
theorem frTs_cases (o : List Op) (σv : SS) : (∃ t σ', frTs o σv = .ok t σ') ∨ frTs o σv = .stuck := by
  unfold frTs
  cases frzL σv o with
  | none => exact .inr rfl
  | some p => exact .inl ⟨p.1, p.2, rfl⟩
theorem sim_frTs {w0 w : Wd} {σ : Mn.St} {σv : SS} {o : List Op} {v : List PV} (S : SR w σ σv) (s0 : Stp w0 w) (h : ORs w0 w σ o v) : ∀ {t σ'}, frTs o σv = .ok t σ' → ∃ w', w'.M = w.M ∧ Stp w0 w' ∧ SR w' σ σ' ∧ FRs w'.M w'.Z t v := by
  intro t σ' e
  unfold frTs at e
  split at e
  · rename_i q
    cases e
    obtain ⟨w', e1, e2, e3, e4, _⟩ := frzL_ok S s0 h.f q
    exact ⟨w', e1, e2, e3, e4⟩
  · cases e
/-- evaluated and kept -/
theorem sim_fr {w : Wd} {σ : Mn.St} {rm : Res PV} {rt : RT Op} (h : SimO w w σ rm rt) : Sim w σ rm (rt.bind frT) (fun w' v t => FR w'.M w'.Z t v) := by
  cases rt with
  | ok o σ1 =>
    obtain ⟨v, w1, e, s1, S1, r⟩ := h
    subst e
    show Sim w σ _ (frT o σ1) _
    rcases frT_cases o σ1 with ⟨t, σ', q⟩ | q
    · obtain ⟨w', e1, e2, e3, e4⟩ := sim_frT S1 s1 r q
      rw [q]
      exact ⟨v, w', by rw [e1], e2, e3, e4⟩
    · rw [q]; trivial
  | exc e σ1 => exact h
  | stuck => trivial
theorem sim_frs {w : Wd} {σ : Mn.St} {rm : Res (List PV)} {rt : RT (List Op)} (h : Sim w σ rm rt (fun w' vs os => ORs w w' σ os vs)) : Sim w σ rm (rt.bind frTs) (fun w' v t => FRs w'.M w'.Z t v) := by
  cases rt with
  | ok o σ1 =>
    obtain ⟨v, w1, e, s1, S1, r⟩ := h
    subst e
    show Sim w σ _ (frTs o σ1) _
    rcases frTs_cases o σ1 with ⟨t, σ', q⟩ | q
    · obtain ⟨w', e1, e2, e3, e4⟩ := sim_frTs S1 s1 r q
      rw [q]
      exact ⟨v, w', by rw [e1], e2, e3, e4⟩
    · rw [q]; trivial
  | exc e σ1 => exact h
  | stuck => trivial
theorem sim_mv {w : Wd} {σ : Mn.St} {rm : Res PV} {rt : RT Op} (h : SimO w w σ rm rt) : Sim w σ rm (rt.bind mvT) (fun w' v s => LR w' (Tmp w w') s v) := by
  cases rt with
  | ok o σ1 =>
    obtain ⟨v, w1, e, s1, S1, r⟩ := h
    subst e
    show Sim w σ _ (mvT o σ1) _
    unfold mvT
    cases q : mv σ1 o with
    | none => trivial
    | some p =>
      obtain ⟨w', e1, e2, e3, e4⟩ := mv_ok S1 s1 r (s := p.1) (σ' := p.2) q
      exact ⟨v, w', by rw [e1], e2, e3, e4⟩
  | exc e σ1 => exact h
  | stuck => trivial
theorem sim_tr {w0 w : Wd} {σ : Mn.St} {σv : SS} {o : Op} {v : PV} (S : SR w σ σv) (h : OR w0 w σ o v) : Sim w σ (truth v w.M) (trT o σv) (fun _ a b => a = b) := by
  unfold trT
  cases q : (look σv o).bind truthT with
  | none => trivial
  | some b =>
    rw [Option.bind_eq_some_iff] at q
    obtain ⟨t, e1, e2⟩ := q
    exact ⟨b, w, op_truth e2 (h.er S e1), .refl w, S, rfl⟩
theorem sim_trb {w : Wd} {σ : Mn.St} {rm : Res PV} {rt : RT Op} (h : SimO w w σ rm rt) : Sim w σ (rm.bind truth) (rt.bind trT) (fun _ a b => a = b) :=
  Sim.bind h fun v o w1 σ1 s1 S1 r1 => sim_tr S1 r1
end Vt
end
section
set_option Elab.async false
set_option linter.all false
set_option maxRecDepth 100000
set_option maxHeartbeats 4000000
namespace Vt
open PySem Mn
open Classical in
noncomputable def Wd.pass (w : Wd) (P : Nat → Prop) : Wd := ⟨w.M, w.Z, fun n => if P n then some 0 else none⟩
theorem pass_p {w : Wd} {P : Nat → Prop} {n : Nat} (h : P n) : (w.pass P).ω n = some 0 := if_pos h
theorem pass_n {w : Wd} {P : Nat → Prop} {n : Nat} (h : ¬ P n) : (w.pass P).ω n = none := if_neg h
theorem pass_some {w : Wd} {P : Nat → Prop} {n : Nat} (h : (w.pass P).ω n ≠ none) : P n := by
  by_cases c : P n
  · exact c
  · exact absurd (pass_n c) h
theorem WI.pass {w : Wd} (i : WI w) {P : Nat → Prop} (hp : ∀ n, P n → n < w.M.sz ∧ ¬ w.Z n) : WI (w.pass P) where
  wh := i.wh
  zb := i.zb
  ob := fun n j h => hp n (pass_some (by rw [h]; simp))
open Classical in
noncomputable def Wd.back (w w' : Wd) (i : Nat) : Wd := ⟨w'.M, w'.Z, fun n => if w'.ω n = some 0 then some i else if w.ω n = some i then none else w.ω n⟩
theorem back_0 {w w' : Wd} {i n : Nat} (h : w'.ω n = some 0) : (w.back w' i).ω n = some i := if_pos h
theorem back_n {w w' : Wd} {i n : Nat} (h : ¬ w'.ω n = some 0) : (w.back w' i).ω n = (w.drop i).ω n := if_neg h
/-- behind a call -/
theorem call_back {w0 w w' : Wd} {σ : Mn.St} {σv : SS} (s0 : Stp w0 w) (S : SR w σ σv) {P : Nat → Prop} (hP : ∀ n, P n → n < w.M.sz ∧ ¬ w.Z n ∧ (w0.M.sz ≤ n ∨ w0.ω n ≠ none)) {i : Nat} (hi : ∀ n, P n → w.ω n = none ∨ w.ω n = some i)
    (s : Stp (w.pass P) w') (wi' : WI w') {o : Option SV} (ho : ∀ s, o = some s → ∃ v, σ[i]? = some (some v) ∧ LR w' (fun n => w'.ω n = some 0) s v) :
    ∃ w'', w''.M = w'.M ∧ w''.Z = w'.Z ∧ Stp w0 w'' ∧ SR w'' σ (σv.set i o) ∧ ∀ n, Tmp (w.pass P) w' n → Tmp w0 w'' n := by
  have wip : WI (w.pass P) := S.wi.pass fun n h => ⟨(hP n h).1, (hP n h).2.1⟩
  -- what was not passed stays
  have keep : ∀ n, n < w.M.sz → ¬ P n → w'.M.get n = w.M.get n := fun n hl hp => s.fr n hl (pass_n hp)
  have nz : ∀ n, n < w.M.sz → ¬ P n → w'.Z n → w.Z n := fun n hl hp h => (s.zn n hl h).elim id fun q => absurd (pass_n hp) q
  have zP : ∀ n, w.Z n → ¬ P n := fun n h p => (hP n p).2.1 h
  refine ⟨w.back w' i, rfl, rfl, ⟨Nat.le_trans s0.sz s.sz, fun n hl ho => ?_, fun n h => s.zm n (s0.zm n h), fun n hl h => ?_, fun n hl h => ?_⟩, ⟨⟨wi'.wh, wi'.zb, fun n j h => ?_⟩, by rw [List.length_set]; exact S.len, fun j s' hj => ?_⟩, fun n t => ?_⟩
  · have np : ¬ P n := fun p => by
      rcases (hP n p).2.2 with q | q
      · omega
      · exact q ho
    have hl' : n < w.M.sz := Nat.lt_of_lt_of_le hl s0.sz
    show w'.M.get n = _
    rw [keep n hl' np, s0.fr n hl ho]
  · rcases s.zn n (Nat.lt_of_lt_of_le hl s0.sz) h with q | q
    · exact s0.zn n hl q
    · rcases (hP n (pass_some q)).2.2 with r | r
      · omega
      · exact .inr r
  · by_cases c : w'.ω n = some 0
    · have p := pass_some (s.on n (Nat.lt_of_lt_of_le hl s0.sz) (by rw [c]; simp))
      rcases (hP n p).2.2 with r | r
      · omega
      · exact r
    · rw [back_n c] at h
      exact s0.on n hl fun e => h (drop_none e)
  · by_cases c : w'.ω n = some 0
    · exact wi'.ob n 0 c
    · rw [back_n c] at h
      obtain ⟨h1, h2⟩ := drop_some h
      have hl := (S.wi.ob n j h1).1
      have np : ¬ P n := fun p => by
        rcases hi n p with q | q
        · rw [q] at h1; cases h1
        · rw [q] at h1; cases h1; exact h2 rfl
      exact ⟨Nat.lt_of_lt_of_le hl s.sz, fun z => (S.wi.ob n j h1).2 (nz n hl np z)⟩
  · by_cases c : i = j
    · subst c
      rw [List.getElem?_set_self'] at hj
      cases e : σv[i]? with
      | none => rw [e] at hj; cases hj
      | some x =>
        rw [e] at hj
        have hj : o = some s' := by simpa using hj
        obtain ⟨v, e1, l⟩ := ho s' hj
        exact ⟨v, e1, LR.mono (w := w') (w' := w.back w' i) (fun _ h => h) (fun _ _ => rfl) (fun n o => ⟨back_0 o, rfl⟩) l⟩
    · rw [List.getElem?_set_ne c] at hj
      obtain ⟨u, e, l⟩ := S.slot j s' hj
      refine ⟨u, e, LR.mono (w := w) (w' := w.back w' i) (fun n h => s.zm n h) (fun n h => keep n (S.wi.zb n h) (zP n h)) (fun n o => ?_) l⟩
      have hl := (S.wi.ob n j o).1
      have np : ¬ P n := fun p => by
        rcases hi n p with q | q
        · rw [q] at o; cases o
        · rw [q] at o; cases o; exact c rfl
      have n0 : ¬ w'.ω n = some 0 := fun q => np (pass_some (s.on n hl (by rw [q]; simp)))
      exact ⟨by rw [back_n n0]; exact drop_ne o fun z => c z.symm, keep n hl np⟩
  · have n0 : ¬ w'.ω n = some 0 := fun q => by rw [t.ow] at q; cases q
    refine ⟨?_, t.nz, t.lt, ?_⟩
    · rw [back_n n0]
      rcases t.nw with q | q
      · refine drop_none ?_
        cases e : w.ω n with
        | none => rfl
        | some j => exact absurd (S.wi.ob n j e).1 (Nat.not_lt.mpr q)
      · rcases hi n (pass_some q) with r | r
        · exact drop_none r
        · exact drop_eq r
    · rcases t.nw with q | q
      · exact .inl (Nat.le_trans s0.sz q)
      · exact (hP n (pass_some q)).2.2
mutual
theorem of_toPd : ∀ {t : TV} {d : Nat}, t.toP.dat d = true → ofP t.toP = t
  | .non, _, _ => rfl
  | .bl _, _, _ => rfl
  | .int _, _, _ => rfl
  | .str _, _, _ => rfl
  | .tup ws, d, h => by
    rw [show (TV.tup ws).toP = .tup (TV.toP.toPs ws) from rfl, PV.dat, Bool.and_eq_true] at h
    rw [show (TV.tup ws).toP = .tup (TV.toP.toPs ws) from rfl, ofP, of_toPsd h.2]
  | .lst _, _, h => by cases h
  | .rol _, _, h => by cases h
theorem of_toPsd : ∀ {ts : List TV} {d : Nat}, PV.dat.dats (TV.toP.toPs ts) d = true → ofP.ofPs (TV.toP.toPs ts) = ts
  | [], _, _ => rfl
  | t :: ts, d, h => by
    rw [show TV.toP.toPs (t :: ts) = t.toP :: TV.toP.toPs ts from rfl, dats_cons, Bool.and_eq_true] at h
    rw [show TV.toP.toPs (t :: ts) = t.toP :: TV.toP.toPs ts from rfl, ofP.ofPs, of_toPd h.1, of_toPsd h.2]
end
theorem of_toP {t : TV} (h : shT t = true) : ofP t.toP = t := of_toPd h
/-- arguments -/
structure ArgR (w : Wd) (args : List SV) (vs : List PV) : Prop where
  len : vs.length = args.length
  at_ : ∀ j s, args[j]? = some s → ∃ v, vs[j]? = some v ∧ LR w (fun n => w.ω n = some j) s v
def OutR (f : Nat) (w' : Wd) (outs : SS) (vs : List PV) : Prop := IO ≤ f → ∀ o, outs = [o] → ∀ s, o = some s → ∃ v, vs[0]? = some v ∧ LR w' (fun n => w'.ω n = some 0) s v
/-- what calls promise -/
def CFok (cfM : CF) (cfT : CFT) : Prop := ∀ (f : Nat) (args : List SV) (vs : List PV) (w : Wd), WI w → ArgR w args vs →
  match cfT f args with
  | .ok s outs => ∃ v w', cfM f vs w.M = .ok v w'.M ∧ Stp w w' ∧ WI w' ∧ LR w' (Tmp w w') s v ∧ OutR f w' outs vs
  | .exc e outs => ∃ v w', cfM f vs w.M = .exc v w'.M ∧ Stp w w' ∧ WI w' ∧ FR w'.M w'.Z e v ∧ OutR f w' outs vs
  | .stuck => True
theorem arg_vals {w w1 : Wd} (em : w1.M = w.M) (ez : w1.Z = w.Z) {ts : List TV} {vs : List PV} (h : FRs w.M w.Z ts vs) : ArgR w1 (ts.map SV.val) vs where
  len := by rw [List.length_map]; exact h.length
  at_ := fun j s hj => by
    rw [List.getElem?_map, Option.map_eq_some_iff] at hj
    obtain ⟨t, e, rfl⟩ := hj
    obtain ⟨v, e1, r⟩ := h.get e
    exact ⟨v, e1, by show FR w1.M w1.Z t v; rw [em, ez]; exact r⟩
theorem arg_cons {w w1 : Wd} (em : w1.M = w.M) (ez : w1.Z = w.Z) {s : SV} {v : PV} {ts : List TV} {vs : List PV} (hs : LR w1 (fun n => w1.ω n = some 0) s v) (h : FRs w.M w.Z ts vs) : ArgR w1 (s :: ts.map SV.val) (v :: vs) where
  len := by rw [List.length_cons, List.length_cons, List.length_map, h.length]
  at_ := fun j s' hj => by
    cases j with
    | zero => cases hj; exact ⟨v, rfl, hs⟩
    | succ j =>
      have hj : (ts.map SV.val)[j]? = some s' := by simpa using hj
      rw [List.getElem?_map, Option.map_eq_some_iff] at hj
      obtain ⟨t, e, rfl⟩ := hj
      obtain ⟨u, e1, r⟩ := h.get e
      exact ⟨u, by simpa using e1, by show FR w1.M w1.Z t u; rw [em, ez]; exact r⟩
theorem vals_ok {w0 w : Wd} {σ : Mn.St} : ∀ {os : List Op} {vs : List PV} {ts : List TV}, ORs w0 w σ os vs → valsT os = some ts → FRs w.M w.Z ts vs
  | [], vs, ts, h, e => by cases e; exact frs_nil.mpr h
  | o :: os, vs, ts, ⟨v, r, e0, h1, h2⟩, e => by
    cases o with
    | bor i => cases e
    | own s =>
      cases s with
      | live xs => cases e
      | val t =>
        rw [valsT] at e
        obtain ⟨ts', e1, rfl⟩ := Option.map_eq_some_iff.mp e
        exact frs_cons.mpr ⟨v, r, e0, h1, vals_ok h2 e1⟩
theorem set_far {σ : SS} {o : Option SV} : σ.set σ.length o = σ := List.set_eq_of_length_le (Nat.le_refl _)
theorem SR.noneAt {w : Wd} {σ : Mn.St} {σv : SS} (S : SR w σ σv) {s : SV} {o : Option SV} (h : o = none) : ∀ s, o = some s → ∃ v, σ[σv.length]? = some (some v) ∧ LR w (fun n => w.ω n = some 0) s v := fun s e => by rw [h] at e; cases e
/-- a call whose arguments are values alone -/
theorem sim_backN {cfM : CF} {cfT : CFT} (hc : CFok cfM cfT) {w0 w : Wd} {σ : Mn.St} {σv : SS} (s0 : Stp w0 w) (S : SR w σ σv) {f : Nat} {args : List SV} {vs : List PV} {P : Nat → Prop} (hP : ∀ n, P n → n < w.M.sz ∧ ¬ w.Z n ∧ (w0.M.sz ≤ n ∨ w0.ω n ≠ none)) (hi : ∀ n, P n → w.ω n = none)
    (A : ArgR (w.pass P) args vs) : ∀ {o σ'}, backN σv (cfT f args) = .ok o σ' → ∃ v w', cfM f vs w.M = .ok v w'.M ∧ Stp w0 w' ∧ SR w' σ σ' ∧ OR w0 w' σ o v := by
  intro o σ' e
  have h := hc f args vs (w.pass P) (S.wi.pass fun n h => ⟨(hP n h).1, (hP n h).2.1⟩) A
  unfold backN at e
  split at e
  · rename_i s outs q
    cases e
    rw [q] at h
    obtain ⟨v, w', e1, s1, wi1, l, _⟩ := h
    obtain ⟨w2, em, ez, s2, S2, ht⟩ := call_back s0 S hP (i := σv.length) (fun n p => .inl (hi n p)) s1 wi1 (o := none) (fun s e => by cases e)
    rw [set_far] at S2
    refine ⟨v, w2, by rw [em]; exact e1, s2, S2, LR.mono (w := w') (w' := w2) (fun n h => by rw [ez]; exact h) (fun _ _ => by rw [em]) (fun n t => ⟨ht n t, by rw [em]⟩) l⟩
  · cases e
  · cases e
theorem sim_backN_exc {cfM : CF} {cfT : CFT} (hc : CFok cfM cfT) {w0 w : Wd} {σ : Mn.St} {σv : SS} (s0 : Stp w0 w) (S : SR w σ σv) {f : Nat} {args : List SV} {vs : List PV} {P : Nat → Prop} (hP : ∀ n, P n → n < w.M.sz ∧ ¬ w.Z n ∧ (w0.M.sz ≤ n ∨ w0.ω n ≠ none)) (hi : ∀ n, P n → w.ω n = none)
    (A : ArgR (w.pass P) args vs) : ∀ {x σ'}, backN σv (cfT f args) = .exc x σ' → ∃ v w', cfM f vs w.M = .exc v w'.M ∧ Stp w0 w' ∧ SR w' σ σ' ∧ FR w'.M w'.Z x v := by
  intro o σ' e
  have h := hc f args vs (w.pass P) (S.wi.pass fun n h => ⟨(hP n h).1, (hP n h).2.1⟩) A
  unfold backN at e
  split at e
  · cases e
  · rename_i s outs q
    cases e
    rw [q] at h
    obtain ⟨v, w', e1, s1, wi1, l, _⟩ := h
    obtain ⟨w2, em, ez, s2, S2, ht⟩ := call_back s0 S hP (i := σv.length) (fun n p => .inl (hi n p)) s1 wi1 (o := none) (fun s e => by cases e)
    rw [set_far] at S2
    exact ⟨v, w2, by rw [em]; exact e1, s2, S2, by rw [em, ez]; exact l⟩
  · cases e
theorem sim_backT {cfM : CF} {cfT : CFT} (hc : CFok cfM cfT) {w0 w : Wd} {σ : Mn.St} {σv : SS} (s0 : Stp w0 w) (S : SR w σ σv) {f i : Nat} (hf : IO ≤ f) {args : List SV} {v0 : PV} {vs : List PV} (h0 : σ[i]? = some (some v0))
    (A : ArgR (w.pass fun n => w.ω n = some i) args (v0 :: vs)) : SimO w0 w0 σ (cfM f (v0 :: vs) w.M) (backT i σv (cfT f args)) := by
  have hP : ∀ n, w.ω n = some i → n < w.M.sz ∧ ¬ w.Z n ∧ (w0.M.sz ≤ n ∨ w0.ω n ≠ none) := fun n h => ⟨(S.wi.ob n i h).1, (S.wi.ob n i h).2, s0.nw (.inr (by rw [h]; simp))⟩
  have h := hc f args (v0 :: vs) (w.pass fun n => w.ω n = some i) (S.wi.pass fun n h => ⟨(hP n h).1, (hP n h).2.1⟩) A
  unfold backT
  split
  · rename_i s o q
    rw [q] at h
    obtain ⟨v, w', e1, s1, wi1, l, out⟩ := h
    obtain ⟨w2, em, ez, s2, S2, ht⟩ := call_back s0 S hP (i := i) (fun n p => .inr p) s1 wi1 (o := o) (fun s e => by
      obtain ⟨u, e2, l2⟩ := out hf o rfl s e
      cases e2
      exact ⟨v0, h0, l2⟩)
    exact ⟨v, w2, by rw [em]; exact e1, s2, S2, LR.mono (w := w') (w' := w2) (fun n h => by rw [ez]; exact h) (fun _ _ => by rw [em]) (fun n t => ⟨ht n t, by rw [em]⟩) l⟩
  · rename_i x o q
    rw [q] at h
    obtain ⟨v, w', e1, s1, wi1, l, out⟩ := h
    obtain ⟨w2, em, ez, s2, S2, ht⟩ := call_back s0 S hP (i := i) (fun n p => .inr p) s1 wi1 (o := o) (fun s e => by
      obtain ⟨u, e2, l2⟩ := out hf o rfl s e
      cases e2
      exact ⟨v0, h0, l2⟩)
    exact ⟨v, w2, by rw [em]; exact e1, s2, S2, by rw [em, ez]; exact l⟩
  · trivial
theorem sim_of {w : Wd} {σ : Mn.St} {rm : Res PV} {rt : RT Op} (h1 : ∀ {o σ'}, rt = .ok o σ' → ∃ v w', rm = .ok v w'.M ∧ Stp w w' ∧ SR w' σ σ' ∧ OR w w' σ o v) (h2 : ∀ {x σ'}, rt = .exc x σ' → ∃ v w', rm = .exc v w'.M ∧ Stp w w' ∧ SR w' σ σ' ∧ FR w'.M w'.Z x v) : SimO w w σ rm rt := by
  cases rt with
  | ok o σ' => exact h1 rfl
  | exc x σ' => exact h2 rfl
  | stuck => trivial
/-- a call that answers without lists: all stays as it was -/
theorem sim_backK {cfM : CF} {cfT : CFT} (hc : CFok cfM cfT) {w0 w w1 : Wd} {σ : Mn.St} {σv : SS} (s0 : Stp w0 w) (S : SR w σ σv) {f : Nat} {ts : List TV} {vs : List PV} (em : w1.M = w.M) (i1 : WI w1) (f1 : FRs w1.M w1.Z ts vs) :
    SimO w0 w0 σ (cfM f vs w.M) (backK σv (cfT f (ts.map SV.val))) := by
  have h := hc f (ts.map SV.val) vs (w1.pass fun _ => False) (i1.pass fun n h => h.elim) (arg_vals (w := w1) (w1 := w1.pass fun _ => False) rfl rfl f1)
  unfold backK
  split
  · rename_i t outs q
    rw [q] at h
    obtain ⟨v, w2, e1, s2, wi2, l, _⟩ := h
    by_cases ht : shT t = true
    · rw [if_pos ht]
      have hv : v = t.toP := Vt.FR.sh (M := w2.M) (Z := w2.Z) l ht
      have sz2 : w.M.sz ≤ w2.M.sz := by rw [← em]; exact s2.sz
      have same : ∀ n, n < w.M.sz → w2.M.get n = w.M.get n := fun n hn => by
        have := s2.fr n (by rw [show (w1.pass fun _ => False).M = w1.M from rfl, em]; exact hn) (pass_n (fun h => h))
        rw [this, show (w1.pass fun _ => False).M = w1.M from rfl, em]
      have e1' : cfM f vs w.M = .ok v w2.M := by rw [← em]; exact e1
      refine ⟨v, ⟨w2.M, w.Z, w.ω⟩, e1', s0.trans ⟨sz2, fun n hn _ => same n hn, fun _ h => h, fun _ _ h => .inl h, fun _ _ h => h⟩, ⟨⟨wi2.wh, fun n h => Nat.lt_of_lt_of_le (S.wi.zb n h) sz2, fun n i h => ⟨Nat.lt_of_lt_of_le (S.wi.ob n i h).1 sz2, (S.wi.ob n i h).2⟩⟩, S.len, fun i s h => ?_⟩, ?_⟩
      · obtain ⟨u, q1, l1⟩ := S.slot i s h
        exact ⟨u, q1, LR.mono (w := w) (w' := ⟨w2.M, w.Z, w.ω⟩) (fun _ h => h) (fun n h => same n (S.wi.zb n h)) (fun n h => ⟨h, same n (S.wi.ob n i h).1⟩) l1⟩
      · show FR w2.M w.Z t v
        rw [hv]
        have := fr_ofP (M := w2.M) (Z := w.Z) (v := t.toP) (d := 60) ht
        rwa [of_toP ht] at this
    · rw [if_neg ht]; trivial
  · trivial
theorem sim_call {cfM : CF} {cfT : CFT} (hc : CFok cfM cfT) {w0 w : Wd} {σ : Mn.St} {σv : SS} (s0 : Stp w0 w) (S : SR w σ σv) {f : Nat} {os : List Op} {vs : List PV} (h : ORs w0 w σ os vs) : SimO w0 w0 σ (callM cfM f vs w.M) (callT cfT f os σv) := by
  unfold callM callT
  have none_ : ∀ (w : Wd) n, (fun _ : Nat => False) n → n < w.M.sz ∧ ¬ w.Z n ∧ (w0.M.sz ≤ n ∨ w0.ω n ≠ none) := fun w n h => h.elim
  by_cases hf : IO ≤ f
  · rw [if_pos hf]
    cases os with
    | nil => trivial
    | cons o os =>
      obtain ⟨v, r, rfl, h1, h2⟩ := h
      cases o with
      | bor i =>
        have h1 : σ[i]? = some (some v) := h1.1
        show SimO w0 w0 σ _ ((frTs os σv).bind _)
        rcases frTs_cases os σv with ⟨ts, σ1, q⟩ | q
        · obtain ⟨w1, em, s1, S1, f1⟩ := sim_frTs S s0 h2 q
          rw [q]
          show SimO w0 w0 σ _ (match rd σ1 i with | some s => _ | none => _)
          cases e : rd σ1 i with
          | none => trivial
          | some s =>
            obtain ⟨u, e1, l⟩ := S1.rd e
            rw [h1] at e1; cases e1
            rw [← em]
            refine sim_backT hc s1 S1 hf h1 (arg_cons (w := w1) (w1 := w1.pass fun n => w1.ω n = some i) rfl rfl ?_ f1)
            exact LR.mono (w := w1) (w' := w1.pass fun n => w1.ω n = some i) (fun _ h => h) (fun _ _ => rfl) (fun n o => ⟨pass_p o, rfl⟩) l
        · rw [q]; trivial
      | own s =>
        show SimO w0 w0 σ _ (match valsT os with | some ws => _ | none => _)
        cases e : valsT os with
        | none => trivial
        | some ts =>
          have f1 := vals_ok h2 e
          have h1 : LR w (Tmp w0 w) s v := h1
          have A : ArgR (w.pass (Tmp w0 w)) (s :: ts.map SV.val) (v :: r) := arg_cons (w := w) (w1 := w.pass (Tmp w0 w)) rfl rfl (LR.mono (w := w) (w' := w.pass (Tmp w0 w)) (fun _ h => h) (fun _ _ => rfl) (fun n o => ⟨pass_p o, rfl⟩) h1) f1
          have hP : ∀ n, Tmp w0 w n → n < w.M.sz ∧ ¬ w.Z n ∧ (w0.M.sz ≤ n ∨ w0.ω n ≠ none) := fun n t => ⟨t.lt, t.nz, t.nw⟩
          exact sim_of (fun q => sim_backN hc s0 S hP (fun n t => t.ow) A q) fun q => sim_backN_exc hc s0 S hP (fun n t => t.ow) A q
  · rw [if_neg hf]
    by_cases hk : keepF f = true
    · rw [if_pos hk]
      rcases frTs_cases os σv with ⟨ts, σ1, q⟩ | q
      · obtain ⟨w1, em, s1, S1, f1⟩ := sim_frTs S s0 h q
        rw [q]
        exact sim_backK hc s0 S (ts := ts) em S1.wi f1
      · rw [q]; trivial
    rw [if_neg hk]
    rcases frTs_cases os σv with ⟨ts, σ1, q⟩ | q
    · obtain ⟨w1, em, s1, S1, f1⟩ := sim_frTs S s0 h q
      rw [q]
      rw [← em]
      have A : ArgR (w1.pass fun _ => False) (ts.map SV.val) vs := arg_vals (w := w1) (w1 := w1.pass fun _ => False) rfl rfl f1
      exact sim_of (fun q => sim_backN hc s1 S1 (none_ w1) (fun n t => t.elim) A q) fun q => sim_backN_exc hc s1 S1 (none_ w1) (fun n t => t.elim) A q
    · rw [q]; trivial
end Vt
end
section
set_option Elab.async false
set_option linter.all false
set_option maxRecDepth 100000
set_option maxHeartbeats 4000000
namespace Vt
open PySem Mn
theorem get_isSome {M : Mem} (h : M.objs.length = M.sz) {n : Nat} (hl : n < M.sz) : (M.get n).isSome = true := by
  unfold Mem.get
  rw [if_pos hl, List.getElem?_eq_getElem (by omega)]; rfl
theorem OR.lt {w0 w : Wd} {σ : Mn.St} {o : Op} {n : Nat} (h : OR w0 w σ o (.ref n)) : n < w.M.sz := by
  cases o with
  | bor i => obtain ⟨_, m, e, hl⟩ := h; cases e; exact hl
  | own s =>
    cases s with
    | live ts => obtain ⟨m, vs, e, o, g, _⟩ := h; cases e; exact get_lt g
    | val t =>
      have h : FR w.M w.Z t (.ref n) := h
      cases t with
      | lst ts => obtain ⟨m, vs, e, z, g, _⟩ := fr_lst.mp h; cases e; exact get_lt g
      | rol ts => obtain ⟨m, vs, e, z, g, _⟩ := fr_rol.mp h; cases e; exact get_lt g
      | non => cases fr_non.mp h
      | bl _ => cases fr_bl.mp h
      | int _ => cases fr_int.mp h
      | str _ => cases fr_str.mp h
      | tup _ => obtain ⟨_, e, _⟩ := fr_tup.mp h; cases e
/-- a name's own list is changed -/
theorem put_ok {w : Wd} {σ : Mn.St} {σv : SS} (S : SR w σ σv) {i n e : Nat} {vs : List PV} {ys : List TV} (ho : w.ω n = some i) (h0 : σ[i]? = some (some (.ref n))) (r : FRs w.M w.Z ys vs) :
    let w' : Wd := ⟨w.M.put n (.lst vs) e, w.Z, w.ω⟩
    Stp w w' ∧ SR w' σ (σv.set i (some (.live ys))) := by
  obtain ⟨hl, nz⟩ := S.wi.ob n i ho
  have st : Stp w ⟨w.M.put n (.lst vs) e, w.Z, w.ω⟩ := ⟨Nat.le_refl _, fun m hm h => put_old _ _ hl (fun z => by subst z; rw [ho] at h; cases h), fun _ h => h, fun _ _ h => .inl h, fun _ _ h => h⟩
  refine ⟨st, ⟨⟨by simp [Mem.put]; exact S.wi.wh, S.wi.zb, S.wi.ob⟩, by rw [List.length_set]; exact S.len, fun j s hj => ?_⟩⟩
  by_cases c : i = j
  · subst c
    rw [List.getElem?_set_self'] at hj
    cases q : σv[i]? with
    | none => rw [q] at hj; cases hj
    | some x =>
      rw [q] at hj; cases hj
      exact ⟨_, h0, n, vs, rfl, ho, put_new S.wi.wh hl _ _, Stp.FRs S.wi st r⟩
  · rw [List.getElem?_set_ne c] at hj
    obtain ⟨u, e1, l⟩ := S.slot j s hj
    refine ⟨u, e1, LR.mono (w := w) (w' := ⟨w.M.put n (.lst vs) e, w.Z, w.ω⟩) (fun _ h => h) (Stp.keep S.wi st) (fun m o => ⟨o, put_old _ _ hl fun z => ?_⟩) l⟩
    subst z; rw [ho] at o; cases o; exact c rfl
theorem sim_mut {wx w0 w : Wd} {σ : Mn.St} {σv : SS} {m : MF} {x : Op} {v : PV} {os : List Op} {vs : List PV} (S : SR w σ σv) (s0 : Stp w0 w) (hx : OR wx w σ x v) (h : ORs w0 w σ os vs) : SimO w0 w0 σ (methM m v vs w.M) (mutK m x os σv) := by
  unfold mutK
  cases x with
  | own s => trivial
  | bor i =>
    have h1 : σ[i]? = some (some v) := hx.1
    rcases frTs_cases os σv with ⟨ts, σ1, q⟩ | q
    rotate_left
    · show SimO w0 w0 σ _ ((frTs os σv).bind _); rw [q]; trivial
    obtain ⟨w1, em, s1, S1, f1⟩ := sim_frTs S s0 h q
    show SimO w0 w0 σ _ ((frTs os σv).bind _)
    rw [q]
    show SimO w0 w0 σ _ (match rd σ1 i with | some (.live xs) => _ | _ => _)
    rw [← em]
    cases e : rd σ1 i with
    | none => trivial
    | some s =>
      cases s with
      | val t => trivial
      | live xs =>
        obtain ⟨u, e1, l⟩ := S1.rd e
        rw [h1] at e1; cases e1
        obtain ⟨n, us, rfl, ho, hg, r⟩ := l
        simp only
        cases em2 : mutT m xs ts with
        | none => trivial
        | some p =>
          obtain ⟨t, ys⟩ := p
          -- what the method does
          have key : ∃ v us' e, methM m (.ref n) vs w1.M = .ok v (w1.M.put n (.lst us') e) ∧ FRs w1.M w1.Z ys us' ∧ FR w1.M w1.Z t v := by
            unfold mutT at em2
            split at em2
            · obtain ⟨v, r', rfl, a1, a2⟩ := frs_cons.mp f1
              cases frs_nil.mp a2
              split at em2
              · rename_i c
                cases em2
                rw [← r.length] at c
                exact ⟨.non, us ++ [v], (if v.pure then 0 else 1), by simp only [methM, hg, if_pos c], r.append (.one a1), fr_non.mpr rfl⟩
              · cases em2
            · obtain ⟨v, r', rfl, a1, a2⟩ := frs_cons.mp f1
              cases frs_nil.mp a2
              obtain ⟨k, zs, rfl, _, g2, r2⟩ := fr_lst.mp a1
              split at em2
              · rename_i c
                cases em2
                rw [← r.length, ← r2.length] at c
                exact ⟨.non, us ++ zs, (if zs.all PV.pure then 0 else 1), by simp only [methM, hg, g2, if_pos c], r.append r2, fr_non.mpr rfl⟩
              · cases em2
            · obtain ⟨v, r', rfl, a1, a2⟩ := frs_cons.mp f1
              cases frs_nil.mp a2
              rw [fr_int.mp a1]
              rw [Option.bind_eq_some_iff] at em2
              obtain ⟨j, e2, em2⟩ := em2
              obtain ⟨x, e3, em2⟩ := Option.map_eq_some_iff.mp em2
              cases em2
              rw [← r.length] at e2
              obtain ⟨y, e4, r4⟩ := r.get e3
              exact ⟨y, us.eraseIdx j, 0, by simp only [methM, hg, e2, e4], r.erase j, r4⟩
            · cases frs_nil.mp f1
              cases em2
              exact ⟨.non, us.reverse, 0, by simp only [methM, hg], r.rev, fr_non.mpr rfl⟩
            · cases frs_nil.mp f1
              cases em2
              exact ⟨.non, [], 0, by simp only [methM, hg], frs_nil.mpr rfl, fr_non.mpr rfl⟩
            · cases em2
          obtain ⟨v, us', k, e2, r2, r3⟩ := key
          obtain ⟨st, S2⟩ := put_ok (e := k) S1 ho h1 r2
          exact ⟨v, _, e2, s1.trans st, S2, Stp.FR S1.wi st r3⟩
theorem sim_meth {wx w0 w : Wd} {σ : Mn.St} {σv : SS} {m : MF} {x : Op} {v : PV} {os : List Op} {vs : List PV} (S : SR w σ σv) (s0 : Stp w0 w) (hx : OR wx w σ x v) (h : ORs w0 w σ os vs) : SimO w0 w0 σ (methM m v vs w.M) (methK m x os σv) := by
  unfold methK
  cases c : isMut m with
  | true => exact sim_mut S s0 hx h
  | false =>
    show SimO w0 w0 σ _ (oT _ σv)
    cases e : (look σv x).bind fun v => (lookL σv os).bind fun ws => methT m v ws with
    | none => trivial
    | some s =>
      rw [Option.bind_eq_some_iff] at e
      obtain ⟨t, e1, e⟩ := e
      rw [Option.bind_eq_some_iff] at e
      obtain ⟨ts, e2, e3⟩ := e
      obtain ⟨v', w', q, s1, S1, r⟩ := op_end S (op_meth e3 (hx.er S e1) (h.ers S e2)).1
      exact ⟨v', w', q, s0.trans s1, S1, r.since s0⟩
theorem recv_of {w0 w : Wd} {σ : Mn.St} {σv : SS} {m : MF} {x : Op} {v : PV} (S : SR w σ σv) (hx : OR w0 w σ x v) (h : recvT m (look σv x) = true) : recvOk m v w.M = true := by
  cases e : look σv x with
  | none => rw [e] at h; cases m <;> cases h
  | some t =>
    rw [e] at h
    have er := hx.er S e
    have li : ∀ n, v = .ref n → m ≠ .join → recvOk m v w.M = true := fun n e hj => by
      subst e
      have := get_isSome S.wi.wh hx.lt
      cases m <;> first | exact this | exact absurd rfl hj
    cases t with
    | lst ts =>
      obtain ⟨n, vs, e, _⟩ := er_lst er
      exact li n e fun z => by subst z; cases h
    | rol ts =>
      obtain ⟨n, vs, e, _⟩ := er_rol er
      exact li n e fun z => by subst z; cases h
    | tup ts =>
      obtain ⟨vs, rfl, _⟩ := er_tup er
      cases m <;> first | rfl | cases h
    | str s =>
      rw [er_str er]
      cases m <;> first | rfl | cases h
    | _ => cases m <;> cases h
/-! ### walks -/
inductive SrcR (w : Wd) : Src → List TV → Prop where
  | items {xs : List TV} {vs : List PV} : FRs w.M w.Z xs vs → SrcR w (.items vs) xs
  | src {s : Src} {xs : List TV} {vs : List PV} : (∀ us, s ≠ .items us) → FRs w.M w.Z xs vs → vs.length ≤ srcLen s w.M → (∀ M', (∀ n, w.Z n → M'.get n = w.M.get n) → ∀ k, k ≤ vs.length → srcAt s k M' = some vs[k]?) → SrcR w s xs
theorem enumL_at : ∀ (vs : List PV) (i k : Nat), (enumL i vs)[k]? = vs[k]?.map fun x => .tup [.int ((i + k : Nat) : Int), x]
  | [], i, k => by simp [enumL]
  | v :: vs, i, 0 => by simp [enumL]
  | v :: vs, i, k + 1 => by
    rw [enumL, List.getElem?_cons_succ, enumL_at vs (i + 1) k, List.getElem?_cons_succ, show i + 1 + k = i + (k + 1) by omega]
theorem enumL_len : ∀ (vs : List PV) (i : Nat), (enumL i vs).length = vs.length
  | [], i => rfl
  | v :: vs, i => by simp [enumL, enumL_len vs]
theorem zipL_at : ∀ (vs us : List PV) (k : Nat), (zipL vs us)[k]? = vs[k]?.bind fun x => us[k]?.map fun y => .tup [x, y]
  | [], us, k => by simp [zipL]
  | v :: vs, [], k => by
    simp only [zipL, List.getElem?_nil, Option.map_none]
    cases (v :: vs)[k]? <;> rfl
  | v :: vs, u :: us, 0 => by simp [zipL]
  | v :: vs, u :: us, k + 1 => by simp [zipL, zipL_at vs us k]
theorem zipL_len : ∀ (vs us : List PV), (zipL vs us).length ≤ vs.length
  | [], us => by simp [zipL]
  | v :: vs, [] => by simp [zipL]
  | v :: vs, u :: us => by simp [zipL, zipL_len vs us]
theorem zipL_len2 : ∀ (vs us : List PV), (zipL vs us).length ≤ us.length
  | [], us => by simp [zipL]
  | v :: vs, [] => by simp [zipL]
  | v :: vs, u :: us => by simp [zipL, zipL_len2 vs us]
theorem fr_li {M : Mem} {Z : Nat → Prop} {t : TV} {v : PV} {ts : List TV} (h : FR M Z t v) (e : t.li = some ts) : ∃ n vs, v = .ref n ∧ Z n ∧ M.lst? n = some vs ∧ FRs M Z ts vs ∧ ∀ M' : Mem, M'.get n = M.get n → M'.lst? n = some vs := by
  cases t with
  | lst xs =>
    cases e
    obtain ⟨n, vs, rfl, z, g, r⟩ := fr_lst.mp h
    exact ⟨n, vs, rfl, z, by rw [Mem.lst?, g], r, fun M' q => by rw [Mem.lst?, q, g]⟩
  | rol xs =>
    cases e
    obtain ⟨n, vs, rfl, z, g, r⟩ := fr_rol.mp h
    exact ⟨n, vs, rfl, z, by rw [Mem.lst?, g], r, fun M' q => by rw [Mem.lst?, q, g]⟩
  | _ => cases e
theorem frs_chars {M : Mem} {Z : Nat → Prop} : ∀ l : List Nat, FRs M Z (l.map fun c => TV.str ⟨#[c]⟩) (l.map fun c => PV.str ⟨#[c]⟩)
  | [] => frs_nil.mpr rfl
  | c :: l => frs_cons.mpr ⟨_, _, rfl, fr_str.mpr rfl, frs_chars l⟩
theorem src_seq {w : Wd} {t : TV} {v : PV} {xs : List TV} (h : FR w.M w.Z t v) (e : seqT t = some xs) : ∃ s, srcSeq v w.M = some s ∧ SrcR w s xs := by
  have li : ∀ {ts}, t.li = some ts → xs = ts → ∃ s, srcSeq v w.M = some s ∧ SrcR w s xs := fun {ts} e q => by
    subst q
    obtain ⟨n, vs, rfl, z, g, r, k⟩ := fr_li h e
    refine ⟨.at1 n false, by rw [srcSeq, g]; rfl, .src (fun us => by simp) r (by simp only [srcLen, g]; exact Nat.le_refl _) fun M' hM j _ => ?_⟩
    simp only [srcAt, k M' (hM n z), Option.map_some]
    cases vs[j]? <;> rfl
  cases t with
  | tup ts =>
    cases e
    obtain ⟨vs, rfl, r⟩ := fr_tup.mp h
    exact ⟨_, rfl, .items r⟩
  | lst ts => cases e; exact li rfl rfl
  | rol ts => cases e; exact li rfl rfl
  | str x =>
    rw [fr_str.mp h]
    simp only [seqT] at e
    split at e
    · rename_i c
      cases e
      exact ⟨_, by rw [srcSeq, if_pos c], .items (frs_chars _)⟩
    · cases e
  | _ => cases e
theorem src_enum {w : Wd} {t : TV} {v : PV} {ts : List TV} (h : FR w.M w.Z t v) (e : t.seq = some ts) : ∃ s, srcEnum v w.M = some s ∧ SrcR w s (enumT 0 ts) := by
  have li : t.li = some ts → ∃ s, srcEnum v w.M = some s ∧ SrcR w s (enumT 0 ts) := fun e => by
    obtain ⟨n, vs, rfl, z, g, r, k⟩ := fr_li h e
    refine ⟨.at1 n true, by rw [srcEnum, g]; rfl, .src (fun us => by simp) (frs_enum 0 r) (by rw [enumL_len]; simp only [srcLen, g]; exact Nat.le_refl _) fun M' hM j _ => ?_⟩
    simp only [srcAt, k M' (hM n z), Option.map_some]
    rw [enumL_at, Nat.zero_add]; simp
  cases t with
  | tup ts =>
    cases e
    obtain ⟨vs, rfl, r⟩ := fr_tup.mp h
    exact ⟨_, rfl, .items (frs_enum 0 r)⟩
  | lst ts => cases e; exact li rfl
  | rol ts => cases e; exact li rfl
  | _ => cases e
theorem src_zip {w : Wd} {t u : TV} {v v' : PV} {xs : List TV} (h : FR w.M w.Z t v) (h' : FR w.M w.Z u v') (e : zip2T t u = some xs) : ∃ s, srcZip v v' w.M = some s ∧ SrcR w s xs := by
  have li : ∀ {ts us}, t.li = some ts → u.li = some us → xs = zipT ts us → ∃ s, srcZip v v' w.M = some s ∧ SrcR w s xs := fun {ts us} f1 f2 q => by
    subst q
    obtain ⟨n, vs, rfl, z, g, r, k⟩ := fr_li h f1
    obtain ⟨n', vs', rfl, z', g', r', k'⟩ := fr_li h' f2
    refine ⟨.at2 n n', by simp [srcZip, g, g'], .src (fun us => by simp) (frs_zip r r') (by simp only [srcLen, g]; exact zipL_len _ _) fun M' hM j _ => ?_⟩
    simp only [srcAt, k M' (hM n z), k' M' (hM n' z'), Option.map_some, Option.bind_some]
    rw [zipL_at]
  have mx : ∀ {ts us}, t.li = some ts → u = .tup us → xs = zipT ts us → ∃ s, srcZip v v' w.M = some s ∧ SrcR w s xs := fun {ts us} f1 f2 q => by
    subst q f2
    obtain ⟨n, vs, rfl, z, g, r, k⟩ := fr_li h f1
    obtain ⟨vs', rfl, r'⟩ := fr_tup.mp h'
    refine ⟨.atT n vs', by simp [srcZip, g], .src (fun us => by simp) (frs_zip r r') (by simp only [srcLen, g]; exact zipL_len _ _) fun M' hM j hj => ?_⟩
    have l1 := zipL_len vs vs'
    have l2 := zipL_len2 vs vs'
    simp only [srcAt, k M' (hM n z), Option.bind_some]
    rw [if_pos ⟨by omega, by omega⟩, zipL_at]
  unfold zip2T at e
  split at e
  · cases e
    obtain ⟨vs, rfl, r⟩ := fr_tup.mp h
    obtain ⟨us, rfl, r'⟩ := fr_tup.mp h'
    exact ⟨_, rfl, .items (frs_zip r r')⟩
  · cases e; exact li rfl rfl rfl
  · cases e; exact mx rfl rfl rfl
  · cases e; exact li rfl rfl rfl
  · cases e; exact li rfl rfl rfl
  · cases e; exact li rfl rfl rfl
  · cases e
end Vt
end
section
set_option Elab.async false
set_option linter.all false
set_option maxRecDepth 100000
set_option maxHeartbeats 4000000
namespace Vt
open PySem Mn
/-! ### comprehensions -/
theorem rest_len (σ0 σ : SS) : ∀ own, (restS σ0 own σ).length = σ.length
  | [] => rfl
  | v :: vs => by rw [restS, List.length_set, rest_len σ0 σ vs]
theorem rest_ne {σ0 σ : SS} {j : Nat} : ∀ {own : List Nat}, j ∉ own → (restS σ0 own σ)[j]? = σ[j]?
  | [], _ => rfl
  | v :: vs, h => by
    rw [List.mem_cons, not_or] at h
    rw [restS, List.getElem?_set_ne (Ne.symm h.1), rest_ne h.2]
theorem rest_in {σ0 σ : SS} {j : Nat} {x : Option SV} : ∀ {own : List Nat}, j ∈ own → (restS σ0 own σ)[j]? = some x → x = (σ0[j]?).getD none
  | [], h, _ => by cases h
  | v :: vs, h, e => by
    rw [restS] at e
    by_cases c : v = j
    · subst c
      rw [List.getElem?_set_self'] at e
      cases q : (restS σ0 vs σ)[v]? with
      | none => rw [q] at e; cases e
      | some y => rw [q] at e; cases e; rfl
    · rw [List.getElem?_set_ne c] at e
      rcases List.mem_cons.mp h with z | z
      · exact absurd z.symm c
      · exact rest_in z e
theorem noLive_iff {σ : SS} : ∀ {own : List Nat}, noLive σ own = true ↔ ∀ v ∈ own, ∀ xs, rd σ v ≠ some (.live xs)
  | [] => by simp [noLive]
  | v :: vs => by
    rw [noLive, Bool.and_eq_true, noLive_iff]
    constructor
    · rintro ⟨h1, h2⟩ u hu xs e
      rcases List.mem_cons.mp hu with rfl | hu
      · rw [e] at h1; cases h1
      · exact h2 u hu xs e
    · intro h
      refine ⟨?_, fun u hu => h u (List.mem_cons_of_mem _ hu)⟩
      have := h v (List.mem_cons_self ..)
      split
      · rename_i e; exact absurd e (this _)
      · rfl
theorem noLive_rest {σ0 σ : SS} {own : List Nat} (h : noLive σ0 own = true) : noLive (restS σ0 own σ) own = true := by
  rw [noLive_iff] at h ⊢
  intro v hv xs e
  have e2 := rd_some e
  have := rest_in hv e2
  exact h v hv xs (by rw [rd]; exact this.symm)
/-- behind a turn: the comprehension's own names are as they were -/
theorem sim_rest {α β : Type} {w : Wd} {σ σm : Mn.St} {σv : SS} {own : List Nat} {rm : Res α} {rt : RT β} {R : Wd → α → β → Prop} (S : SR w σ σv) (hn : noLive σv own = true) (hl : σm.length = σ.length) (hm : ∀ j, j ∉ own → σm[j]? = σ[j]?) (h : Sim w σm rm rt R) :
    Sim w σ rm (restR σv own rt) R := by
  have key : ∀ w' σ', Stp w w' → SR w' σm σ' → SR w' σ (restS σv own σ') := fun w' σ' s S' => by
    refine ⟨S'.wi, by rw [rest_len, ← S'.len, hl], fun j s' hj => ?_⟩
    by_cases c : j ∈ own
    · have e := rest_in c hj
      cases q : σv[j]? with
      | none => rw [q] at e; cases e
      | some y =>
        rw [q] at e
        have e : some s' = y := e
        subst e
        obtain ⟨v, e1, l⟩ := S.slot j s' q
        cases s' with
        | val t => exact ⟨v, e1, s.FR S.wi l⟩
        | live xs => exact absurd (show rd σv j = some (.live xs) by rw [rd, q]; rfl) (noLive_iff.mp hn j c xs)
    · rw [rest_ne c] at hj
      obtain ⟨v, e1, l⟩ := S'.slot j s' hj
      rw [hm j c] at e1
      exact ⟨v, e1, l⟩
  cases rt with
  | ok b σ' => obtain ⟨a, w', e, s, S', r⟩ := h; exact ⟨a, w', e, s, key w' σ' s S', r⟩
  | exc e σ' => obtain ⟨a, w', e, s, S', r⟩ := h; exact ⟨a, w', e, s, key w' σ' s S', r⟩
  | stuck => trivial
mutual
theorem gIn_has {own : List Nat} {j : Nat} (hj : j ∉ own) : ∀ {g : MG}, gIn own g = true → MG.has j g = false
  | .name i, h => by
    simp only [gIn, List.contains_eq_mem, decide_eq_true_eq] at h
    simp only [MG.has, beq_eq_false_iff_ne]
    rintro rfl; exact hj h
  | .tup gs, h => by
    simp only [gIn] at h
    simp only [MG.has]; exact gsIn_has hj h
theorem gsIn_has {own : List Nat} {j : Nat} (hj : j ∉ own) : ∀ {gs : MGs}, gsIn own gs = true → gsHas j gs = false
  | .nil, h => by simp only [gsHas]
  | .cons g gs, h => by
    simp only [gsIn, Bool.and_eq_true] at h
    simp only [gsHas, gIn_has hj h.1, gsIn_has hj h.2, Bool.or_self]
end
mutual
theorem asg_len : ∀ {g : MG} {v : PV} {σ σ' : Mn.St}, assignG g v σ = some σ' → σ'.length = σ.length
  | .name i, v, σ, σ', h => by simp only [assignG, Option.some.injEq] at h; rw [← h, List.length_set]
  | .tup gs, v, σ, σ', h => by
    simp only [assignG] at h
    cases v with
    | tup vs => exact asgs_len h
    | _ => cases h
theorem asgs_len : ∀ {gs : MGs} {vs : List PV} {σ σ' : Mn.St}, assignGs gs vs σ = some σ' → σ'.length = σ.length
  | .nil, vs, σ, σ', h => by
    simp only [assignGs] at h
    split at h
    · cases h; rfl
    · cases h
  | .cons g gs, vs, σ, σ', h => by
    simp only [assignGs] at h
    cases vs with
    | nil => cases h
    | cons v vs =>
      simp only [Option.bind_eq_some_iff] at h
      obtain ⟨σ1, h1, h2⟩ := h
      rw [asgs_len h2, asg_len h1]
end
theorem wipe_len (σ : Mn.St) : ∀ own, (wipe σ own).length = σ.length
  | [] => rfl
  | v :: vs => by rw [wipe, List.length_set, wipe_len σ vs]
theorem Sim.since {α β : Type} {w w' : Wd} {σ : Mn.St} {rm : Res α} {rt : RT β} {R : Wd → α → β → Prop} (h : Sim w' σ rm rt R) (s : Stp w w') : Sim w σ rm rt R := by
  cases rt with
  | ok b σ' => obtain ⟨a, w2, e, s2, S, r⟩ := h; exact ⟨a, w2, e, s.trans s2, S, r⟩
  | exc e σ' => obtain ⟨a, w2, e, s2, S, r⟩ := h; exact ⟨a, w2, e, s.trans s2, S, r⟩
  | stuck => trivial
/-- what an expression's walk promises -/
def EvOk (e : Mn.Ev) (t : EvT) : Prop := ∀ {w : Wd} {σ : Mn.St} {σv : SS}, SR w σ σv → SimO w w σ (e σ w.M) (t σv)
def CndOk : Option Mn.Ev → Option EvT → Prop
  | none, none => True
  | some c, some d => EvOk c d
  | _, _ => False
section
variable {own : List Nat} {g : MG} {cnd : Option Mn.Ev} {cndT : Option EvT} {elt : Mn.Ev} {eltT : EvT} (hg : gIn own g = true) (hc : CndOk cnd cndT) (he : EvOk elt eltT)
include hg hc he
theorem sim_turn {w : Wd} {σ : Mn.St} {σv : SS} {t : TV} {v : PV} {acc : List TV} {accM : List PV} (S : SR w σ σv) (hn : noLive σv own = true) (hx : FR w.M w.Z t v) (ha : FRs w.M w.Z acc accM) :
    Sim w σ (lcTurn own g cnd elt σ v accM w.M) (lcTurnT own g cndT eltT σv t acc) (fun w' a b => FRs w'.M w'.Z b a) := by
  unfold lcTurnT
  cases e : asgG g t (wipeT σv own) with
  | none => trivial
  | some σ' =>
    obtain ⟨σm, e1, S1, k⟩ := asg_ok g (wipe_ok S own) hx e
    unfold lcTurn
    rw [e1]
    simp only
    refine sim_rest S hn (by rw [asg_len e1, wipe_len]) (fun j hj => by rw [k j (gIn_has hj hg), wipe_ne own hj]) ?_
    have hcnd : Sim w σm (match cnd with | none => Res.ok true w.M | some c => (c σm w.M).bind truth) (match cndT with | none => RT.ok true σ' | some c => (c σ').bind trT) (fun _ a b => a = b) := by
      match cnd, cndT, hc with
      | none, none, _ => exact ⟨true, w, rfl, .refl w, S1, rfl⟩
      | some c, some d, hc => exact sim_trb (hc S1)
    refine Sim.bind hcnd fun a b w1 σ1 s1 S2 r => ?_
    subst r
    cases a with
    | false => exact ⟨accM, w1, rfl, .refl w1, S2, s1.FRs S.wi ha⟩
    | true =>
      simp only [if_true, trim_eq]
      refine Sim.bind (sim_fr (he S2)) fun v' t' w2 σ2 s2 S3 r2 => ?_
      have ha2 := s2.FRs S2.wi (s1.FRs S.wi ha)
      rw [ha2.length]
      split
      · exact ⟨accM ++ [v'], w2, rfl, .refl w2, S3, ha2.append (.one r2)⟩
      · trivial
theorem lcTurn_noLive {σv σ' : SS} {t : TV} {acc acc' : List TV} (hn : noLive σv own = true) (h : lcTurnT own g cndT eltT σv t acc = .ok acc' σ') : noLive σ' own = true := by
  unfold lcTurnT at h
  split at h
  · cases h
  · unfold restR at h
    split at h
    · cases h; exact noLive_rest hn
    · cases h
    · cases h
theorem sim_items {σ : Mn.St} : ∀ {xs : List TV} {vs : List PV} {w : Wd} {σv : SS} {acc : List TV} {accM : List PV}, SR w σ σv → noLive σv own = true → FRs w.M w.Z xs vs → FRs w.M w.Z acc accM →
    Sim w σ (lcItems own g cnd elt σ vs accM w.M) (lcT own g cndT eltT xs acc σv) (fun w' a b => FRs w'.M w'.Z b a)
  | [], vs, w, σv, acc, accM, S, hn, hx, ha => by
    rw [frs_nil.mp hx]
    exact ⟨accM, w, rfl, .refl w, S, ha⟩
  | x :: xs, vs, w, σv, acc, accM, S, hn, hx, ha => by
    obtain ⟨v, r, rfl, h1, h2⟩ := frs_cons.mp hx
    have t := sim_turn hg hc he S hn h1 ha
    show Sim w σ ((lcTurn own g cnd elt σ v accM w.M).bind _) ((lcTurnT own g cndT eltT σv x acc).bind _) _
    cases q : lcTurnT own g cndT eltT σv x acc with
    | stuck => trivial
    | exc e σ' => rw [q] at t; obtain ⟨u, w', e1, s, S', r'⟩ := t; rw [e1]; exact ⟨u, w', rfl, s, S', r'⟩
    | ok acc' σ' =>
      rw [q] at t
      have hn' := lcTurn_noLive hg hc he hn q
      obtain ⟨a, w', e1, s, S', r'⟩ := t
      rw [e1]
      exact (sim_items S' hn' (s.FRs S.wi h2) r').since s
theorem sim_src {σ : Mn.St} {s : Src} : ∀ {xs : List TV} {vs : List PV} {i f : Nat} {w : Wd} {σv : SS} {acc : List TV} {accM : List PV}, SR w σ σv → noLive σv own = true → FRs w.M w.Z xs vs → xs.length < f → (∀ M', (∀ n, w.Z n → M'.get n = w.M.get n) → ∀ k, k ≤ vs.length → srcAt s (i + k) M' = some vs[k]?) → FRs w.M w.Z acc accM →
    Sim w σ (lcSrc own g cnd elt σ s f i accM w.M) (lcT own g cndT eltT xs acc σv) (fun w' a b => FRs w'.M w'.Z b a)
  | xs, vs, i, 0, w, σv, acc, accM, S, hn, hx, hf, hs, ha => by omega
  | [], vs, i, f + 1, w, σv, acc, accM, S, hn, hx, hf, hs, ha => by
    have h0 := hs w.M (fun _ _ => rfl) 0 (Nat.zero_le _)
    rw [frs_nil.mp hx] at h0
    rw [lcSrc]
    have h0 : srcAt s i w.M = some none := h0
    rw [h0]
    exact ⟨accM, w, rfl, .refl w, S, ha⟩
  | x :: xs, vs, i, f + 1, w, σv, acc, accM, S, hn, hx, hf, hs, ha => by
    obtain ⟨v, r, rfl, h1, h2⟩ := frs_cons.mp hx
    have h0 : srcAt s i w.M = some (some v) := hs w.M (fun _ _ => rfl) 0 (Nat.zero_le _)
    have t := sim_turn hg hc he S hn h1 ha
    rw [lcSrc, h0]
    show Sim w σ ((lcTurn own g cnd elt σ v accM w.M).bind _) ((lcTurnT own g cndT eltT σv x acc).bind _) _
    cases q : lcTurnT own g cndT eltT σv x acc with
    | stuck => trivial
    | exc e σ' => rw [q] at t; obtain ⟨u, w', e1, s, S', r'⟩ := t; rw [e1]; exact ⟨u, w', rfl, s, S', r'⟩
    | ok acc' σ' =>
      rw [q] at t
      have hn' := lcTurn_noLive hg hc he hn q
      obtain ⟨a, w', e1, st, S', r'⟩ := t
      rw [e1]
      refine (sim_src S' hn' (st.FRs S.wi h2) (by rw [List.length_cons] at hf; omega) (fun M' hM k hk => ?_) r').since st
      have := hs M' (fun n z => by rw [hM n (st.zm n z), st.keep S.wi n z]) (k + 1) (Nat.succ_le_succ hk)
      rw [show i + 1 + k = i + (k + 1) by omega, this]; rfl
theorem sim_lc {w : Wd} {σ : Mn.St} {σv : SS} {s : Src} {xs : List TV} (S : SR w σ σv) (hs : SrcR w s xs) : SimO w w σ (lcRun own g cnd elt σ s w.M) (lcK own g cndT eltT xs σv) := by
  unfold lcK
  split
  rotate_left
  · trivial
  rename_i hn
  rw [Bool.and_eq_true] at hn
  have key : Sim w σ (match s with
    | .items xs => lcItems own g cnd elt σ xs [] w.M
    | s => lcSrc own g cnd elt σ s (srcLen s w.M + 1) 0 [] w.M) (lcT own g cndT eltT xs [] σv) (fun w' a b => FRs w'.M w'.Z b a) := by
    cases hs with
    | items r => exact sim_items hg hc he S hn.1 r (frs_nil.mpr rfl)
    | src h1 r h2 h3 =>
      have := sim_src hg hc he (s := s) (i := 0) (f := srcLen s w.M + 1) S hn.1 r (by rw [← r.length]; omega) (fun M' hM k hk => by rw [Nat.zero_add]; exact h3 M' hM k hk) (frs_nil.mpr rfl)
      cases s with
      | items us => exact absurd rfl (h1 us)
      | at1 n e => exact this
      | at2 n m => exact this
      | atT n m => exact this
  unfold lcRun
  refine Sim.bind key fun a b w1 σ1 s1 S1 r1 => ?_
  exact ⟨.ref w1.M.sz, w1.push a, rfl, .push a, S1.push a, w1.M.sz, a, rfl, (Tmp.push S1.wi a).since s1, push_new _ _, Stp.FRs S1.wi (.push a) r1⟩
end
end Vt
end
section
set_option Elab.async false
set_option linter.all false
set_option maxRecDepth 100000
set_option maxHeartbeats 4000000
namespace Vt
open PySem Mn
section
variable {cfM : CF} {cfT : CFT} (hc : CFok cfM cfT)
theorem sim_const {w : Wd} {σ : Mn.St} {σv : SS} {v : PV} {t : TV} (S : SR w σ σv) (h : FR w.M w.Z t v) : SimO w w σ (.ok v w.M) (.ok (.own (.val t)) σv) := ⟨v, w, rfl, .refl w, S, h⟩
/-- a comparison's two ends -/
theorem cmp_bl {op : CmpOp} {a b : TV} {s : SV} (h : cmpT op a b = some s) : ∃ b, s = .val (.bl b) := by
  have vb : ∀ {c}, vB c = some s → ∃ b, s = .val (.bl b) := fun e => by cases e; exact ⟨_, rfl⟩
  have vb2 : ∀ {o : Option Bool} {f : Bool → Bool}, (o.bind fun b => vB (f b)) = some s → ∃ b, s = .val (.bl b) := fun {o f} e => by
    cases o with
    | none => cases e
    | some b => exact vb e
  unfold cmpT at h
  cases op <;> simp only at h
  · exact vb2 (f := id) h
  · exact vb2 (f := not) h
  · split at h
    · exact vb h
    · split at h
      · exact vb h
      · unfold ltPrT at h
        split at h
        · split at h
          · exact vb h
          · cases h
        · cases h
  · split at h
    · exact vb h
    · split at h
      · exact vb h
      · cases h
  · split at h
    · exact vb h
    · split at h
      · exact vb h
      · cases h
  · split at h
    · exact vb h
    · split at h
      · exact vb h
      · cases h
  · split at h
    · exact vb h
    · split at h
      · exact vb h
      · cases h
    · cases h
  · split at h
    · exact vb h
    · split at h
      · exact vb h
      · cases h
    · cases h
  · exact vb2 (f := id) h
  · exact vb2 (f := not) h
theorem opt_src {w : Wd} {σ : Mn.St} {σv : SS} {o : Option Src} {p : Option (List TV)} (S : SR w σ σv) (h : ∀ xs, p = some xs → ∃ s, o = some s ∧ SrcR w s xs) : Sim w σ (optR o w.M) (optT p σv) (fun w' s xs => SrcR w' s xs) := by
  cases p with
  | none => trivial
  | some xs =>
    obtain ⟨s, e, r⟩ := h xs rfl
    rw [e]
    exact ⟨s, w, rfl, .refl w, S, r⟩
theorem toI_er {w : Wd} {t : TV} {v : PV} {i : Int} (h : ER w t v) (e : toI t = some i) : v = .int i := by
  cases t <;> first | (cases e; exact er_int h) | cases e
include hc in
mutual
theorem evT_ok : ∀ (e : ME), EvOk (evE cfM e) (evT cfT e)
  | .var i, w, σ, σv, S => by
    unfold evT evE eVar
    cases e : rd σv i with
    | none => trivial
    | some s =>
      obtain ⟨v, e1, l⟩ := S.rd e
      rw [e1]
      cases s with
      | val t => exact ⟨v, w, rfl, .refl w, S, l⟩
      | live xs =>
        obtain ⟨n, vs, rfl, o, g, r⟩ := l
        exact ⟨_, w, rfl, .refl w, S, e1, n, rfl, get_lt g⟩
  | .int i, w, σ, σv, S => by unfold evT evE eC; exact sim_const S (fr_int.mpr rfl)
  | .bl i, w, σ, σv, S => by unfold evT evE eC; exact sim_const S (fr_bl.mpr rfl)
  | .non, w, σ, σv, S => by unfold evT evE eC; exact sim_const S (fr_non.mpr rfl)
  | .str i, w, σ, σv, S => by unfold evT evE eC; exact sim_const S (fr_str.mpr rfl)
  | .tup es, w, σ, σv, S => by
    unfold evT evE eTup
    refine Sim.bind (sim_frs (evTs_ok es S)) fun vs ts w1 σ1 s1 S1 r => ?_
    rw [r.length]
    split
    · exact ⟨_, w1, rfl, .refl w1, S1, fr_tup.mpr ⟨_, rfl, r⟩⟩
    · trivial
  | .lst es, w, σ, σv, S => by
    unfold evT evE eLst
    refine Sim.bind (sim_frs (evTs_ok es S)) fun vs ts w1 σ1 s1 S1 r => ?_
    rw [r.length]
    split
    · exact ⟨_, w1.push vs, rfl, .push vs, S1.push vs, _, vs, rfl, (Tmp.push S1.wi vs).since s1, push_new _ _, Stp.FRs S1.wi (.push vs) r⟩
    · trivial
  | .bin op a b, w, σ, σv, S => by
    unfold evT evE eBin
    rw [trim_eq]
    exact Sim.bind (evT_ok a S) fun v x w1 σ1 s1 S1 r1 => sim_k2b (σv := σ1) S1.wi s1 r1 (evT_ok b S1) fun w' t t' v' s h1 h2 h3 => op_bin h3 h1 h2
  | .neg a, w, σ, σv, S => by
    unfold evT evE eNeg
    refine sim_k1 (g := fun v M1 => (intR v M1).bind fun i M2 => .ok (.int (-i)) M2) (evT_ok a S) fun w' t v s h e => ?_
    cases t with
    | int i => rw [er_int h]; exact opI e rfl
    | _ => cases e
  | .not a, w, σ, σv, S => by
    unfold evT evE eNot
    rw [trim_eq]
    refine sim_k1 (g := fun v M1 => (truth v M1).bind fun b M2 => .ok (.bl (!b)) M2) (evT_ok a S) fun w' t v s h e => ?_
    unfold notT at e
    rw [Option.bind_eq_some_iff] at e
    obtain ⟨b, e1, e2⟩ := e
    exact opB e2 (by rw [op_truth e1 h]; rfl)
  | .cmp op a b, w, σ, σv, S => by
    unfold evT evE eCmp
    rw [trim_eq]
    exact Sim.bind (evT_ok a S) fun v x w1 σ1 s1 S1 r1 => sim_k2b (σv := σ1) S1.wi s1 r1 (evT_ok b S1) fun w' t t' v' s h1 h2 h3 => op_cmp h3 h1 h2
  | .chain op op' a b c, w, σ, σv, S => by
    unfold evT evE eChain
    rw [trim_eq]
    refine Sim.bind (evT_ok a S) fun v x w1 σ1 s1 S1 r1 => Sim.bind (evT_ok b S1) fun u y w2 σ2 s2 S2 r2 => ?_
    have rx := r1.on S1.wi S2.wi s2
    have ry := r2.since s1
    cases e : (look σ2 x).bind fun v => (look σ2 y).bind fun w => cmpT op v w with
    | none => trivial
    | some s =>
      rw [Option.bind_eq_some_iff] at e
      obtain ⟨t, e1, e⟩ := e
      rw [Option.bind_eq_some_iff] at e
      obtain ⟨t', e2, e3⟩ := e
      have q := op_cmp e3 (rx.er S2 e1) (ry.er S2 e2)
      obtain ⟨bb, rfl⟩ := cmp_bl e3
      obtain ⟨v', e4, r4⟩ := q
      rw [fr_bl.mp r4] at e4
      rw [e4]
      cases bb with
      | false =>
        show SimO w w2 σ (.ok (.bl false) w2.M) (.ok (.own (.val (.bl false))) σ2)
        exact ⟨.bl false, w2, rfl, .refl w2, S2, (fr_bl.mpr rfl : FR w2.M w2.Z (.bl false) (.bl false))⟩
      | true =>
        show SimO w w2 σ ((evE cfM c σ w2.M).bind fun u' M4 => cmpM op' u u' M4) (k2b (cmpT op') y (evT cfT c σ2))
        exact sim_k2b (σv := σ2) S2.wi (s1.trans s2) ry (evT_ok c S2) fun w' t t' v' s h1 h2 h3 => op_cmp h3 h1 h2
  | .and es, w, σ, σv, S => by
    unfold evT evE; exact evAnd_ok es S
  | .or es, w, σ, σv, S => by
    unfold evT evE; exact evOr_ok es S
  | .ife c a b, w, σ, σv, S => by
    unfold evT evE eIfe
    refine Sim.bind (sim_trb (evT_ok c S)) fun x y w1 σ1 s1 S1 r => ?_
    subst r
    cases x with
    | true => exact SimO.since (evT_ok a S1) s1
    | false => exact SimO.since (evT_ok b S1) s1
  | .ix a b, w, σ, σv, S => by
    unfold evT evE eIx
    rw [trim_eq]
    exact Sim.bind (evT_ok a S) fun v x w1 σ1 s1 S1 r1 => sim_k2b (σv := σ1) S1.wi s1 r1 (evT_ok b S1) fun w' t t' v' s h1 h2 h3 => op_ix h3 h1 h2
  | .sl a lo hi, w, σ, σv, S => by
    unfold evT evE eSl
    rw [trim_eq]
    refine Sim.bind (evT_ok a S) fun v x w1 σ1 s1 S1 r1 => ?_
    match lo, hi with
    | .none, .none =>
      show SimO w w1 σ (slM v none none w1.M) _
      exact sim_oT S1 s1 fun s e => by
        rw [Option.bind_eq_some_iff] at e
        obtain ⟨t, e1, e2⟩ := e
        exact op_sl e2 (r1.er S1 e1)
    | .some l, .none =>
      show SimO w w1 σ (((evE cfM l σ w1.M).bind fun v M1 => (intR v M1).bind fun i M2 => .ok (some i) M2).bind fun l M2 => slM v l none M2) _
      have : ((evE cfM l σ w1.M).bind fun v M1 => (intR v M1).bind fun i M2 => Res.ok (some i) M2).bind (fun l M2 => slM v l none M2) = (evE cfM l σ w1.M).bind fun u M1 => (intR u M1).bind fun i M2 => slM v (some i) none M2 := by
        cases evE cfM l σ w1.M with
        | ok u M1 => show (((intR u M1).bind _).bind _) = _; cases u <;> rfl
        | exc _ _ => rfl
        | stuck => rfl
      rw [this]
      refine sim_k2b (σv := σ1) S1.wi s1 r1 (evT_ok l S1) fun w' t t' v' s h1 h2 h3 => ?_
      unfold sl1 at h3
      rw [Option.bind_eq_some_iff] at h3
      obtain ⟨i, e1, e2⟩ := h3
      rw [toI_er h2 e1]
      exact op_sl e2 h1
    | .none, .some h =>
      show SimO w w1 σ (((evE cfM h σ w1.M).bind fun v M1 => (intR v M1).bind fun i M2 => .ok (some i) M2).bind fun h M3 => slM v none h M3) _
      have : ((evE cfM h σ w1.M).bind fun v M1 => (intR v M1).bind fun i M2 => Res.ok (some i) M2).bind (fun h M3 => slM v none h M3) = (evE cfM h σ w1.M).bind fun u M1 => (intR u M1).bind fun i M2 => slM v none (some i) M2 := by
        cases evE cfM h σ w1.M with
        | ok u M1 => show (((intR u M1).bind _).bind _) = _; cases u <;> rfl
        | exc _ _ => rfl
        | stuck => rfl
      rw [this]
      refine sim_k2b (σv := σ1) S1.wi s1 r1 (evT_ok h S1) fun w' t t' v' s h1 h2 h3 => ?_
      unfold sl2 at h3
      rw [Option.bind_eq_some_iff] at h3
      obtain ⟨i, e1, e2⟩ := h3
      rw [toI_er h2 e1]
      exact op_sl e2 h1
    | .some l, .some h =>
      show SimO w w1 σ (((evE cfM l σ w1.M).bind fun v M1 => (intR v M1).bind fun i M2 => .ok (some i) M2).bind fun l M2 => (((evE cfM h σ M2).bind fun v M1 => (intR v M1).bind fun i M2 => .ok (some i) M2).bind fun h M3 => slM v l h M3)) _
      have : (((evE cfM l σ w1.M).bind fun v M1 => (intR v M1).bind fun i M2 => Res.ok (some i) M2).bind fun l M2 => (((evE cfM h σ M2).bind fun v M1 => (intR v M1).bind fun i M2 => .ok (some i) M2).bind fun h M3 => slM v l h M3)) =
          (evE cfM l σ w1.M).bind fun u M1 => (intR u M1).bind fun i M2 => (evE cfM h σ M2).bind fun u' M3 => (intR u' M3).bind fun j M4 => slM v (some i) (some j) M4 := by
        cases evE cfM l σ w1.M with
        | ok u M1 =>
          cases u with
          | int i =>
            show (((evE cfM h σ M1).bind _).bind _) = (evE cfM h σ M1).bind _
            cases evE cfM h σ M1 with
            | ok u' M2 => cases u' <;> rfl
            | exc _ _ => rfl
            | stuck => rfl
          | _ => rfl
        | exc _ _ => rfl
        | stuck => rfl
      rw [this]
      refine Sim.bind (evT_ok l S1) fun u y w2 σ2 s2 S2 r2 => ?_
      show SimO w w2 σ _ (match (look σ2 y).bind toI with | some i => k2b (sl3 i) x (evT cfT h σ2) | none => .stuck)
      cases q : (look σ2 y).bind toI with
      | none => trivial
      | some i =>
        rw [Option.bind_eq_some_iff] at q
        obtain ⟨t, e1, e2⟩ := q
        rw [toI_er (r2.er S2 e1) e2]
        show SimO w w2 σ ((evE cfM h σ w2.M).bind fun u' M3 => (intR u' M3).bind fun j M4 => slM v (some i) (some j) M4) (k2b (sl3 i) x (evT cfT h σ2))
        refine sim_k2b (σv := σ2) S2.wi (s1.trans s2) (r1.on S1.wi S2.wi s2) (evT_ok h S2) fun w' t t' v' s h1 h2 h3 => ?_
        unfold sl3 at h3
        rw [Option.bind_eq_some_iff] at h3
        obtain ⟨j, e1, e2⟩ := h3
        rw [toI_er h2 e1]
        exact op_sl e2 h1
  | .stp a b, w, σ, σv, S => by
    unfold evT evE eStp
    rw [trim_eq]
    exact Sim.bind (evT_ok a S) fun v x w1 σ1 s1 S1 r1 => sim_k2b (σv := σ1) S1.wi s1 r1 (evT_ok b S1) fun w' t t' v' s h1 h2 h3 => op_stp h3 h1 h2
  | .call f args, w, σ, σv, S => by
    unfold evT evE eCall
    rw [trim_eq]
    refine Sim.since (w' := w) ?_ (.refl w)
    have h := evTs_ok args S
    cases q : evTs cfT args σv with
    | stuck => trivial
    | exc e σ' => rw [q] at h; obtain ⟨u, w', e1, s, S', r'⟩ := h; rw [e1]; exact ⟨u, w', rfl, s, S', r'⟩
    | ok os σ' =>
      rw [q] at h
      obtain ⟨vs, w1, e1, s1, S1, r1⟩ := h
      rw [e1]
      exact sim_call hc s1 S1 r1
  | .callL fs i args, w, σ, σv, S => by
    unfold evT evE eCallL
    refine Sim.bind (evT_ok i S) fun v x w1 σ1 s1 S1 r1 => ?_
    cases q : (look σ1 x).bind (fnAtT fs) with
    | none => trivial
    | some f =>
      obtain ⟨t, q1, q2⟩ := Option.bind_eq_some_iff.mp q
      have ev : fnAtM fs v = some f := by
        cases t with
        | int j => rw [toI_er (r1.er S1 q1) (i := j) rfl]; exact q2
        | _ => cases q2
      simp only [ev]
      have h := evTs_ok args S1
      cases q : evTs cfT args σ1 with
      | stuck => trivial
      | exc e σ' => rw [q] at h; obtain ⟨u, w', e1, s, S', r'⟩ := h; rw [e1]; exact ⟨u, w', rfl, s, S', r'⟩
      | ok os σ' =>
        rw [q] at h
        obtain ⟨vs, w2, e1, s2, S2, r2⟩ := h
        rw [e1]
        exact (sim_call hc s2 S2 r2).since s1
  | .bcall f args, w, σ, σv, S => by
    unfold evT evE eB kB
    rw [trim_eq]
    refine Sim.bind (evTs_ok args S) fun vs os w1 σ1 s1 S1 r1 => sim_oT S1 s1 fun s e => ?_
    rw [Option.bind_eq_some_iff] at e
    obtain ⟨ts, e1, e2⟩ := e
    exact op_bcall e2 (r1.ers S1 e1)
  | .meth m o args, w, σ, σv, S => by
    unfold evT evE eM
    rw [trim_eq]
    refine Sim.bind (evT_ok o S) fun v x w1 σ1 s1 S1 r1 => ?_
    by_cases hr : recvT m (look σ1 x) = true
    rotate_left
    · rw [if_neg hr]; trivial
    rw [if_pos hr, recv_of S1 r1 hr, if_pos rfl]
    have h2 := evTs_ok args S1
    cases q2 : evTs cfT args σ1 with
    | stuck => trivial
    | exc e σ' =>
      rw [q2] at h2; obtain ⟨u, w', e2, s, S', r'⟩ := h2
      rw [e2]
      exact ⟨u, w', rfl, s, S', r'⟩
    | ok os σ2 =>
      rw [q2] at h2
      obtain ⟨vs, w2, e2, s2, S2, r2⟩ := h2
      rw [e2]
      have rx := r1.on S1.wi S2.wi s2
      show SimO w w1 σ (methM m v vs w2.M) (methK m x os σ2)
      exact SimO.since (sim_meth S2 s2 rx r2) s1
  | .isi e ts tup, w, σ, σv, S => by
    unfold evT
    split
    rotate_left
    · trivial
    rename_i c
    cases tup with
    | true =>
      unfold evE eIsiT
      simp only [trim_eq, if_pos c]
      exact sim_k1 (g := fun v M1 => isiM v ts M1) (evT_ok e S) fun w' t v s h q => op_isi q h
    | false =>
      unfold evE eIsi
      simp only [trim_eq]
      exact sim_k1 (g := fun v M1 => isiM v ts M1) (evT_ok e S) fun w' t v s h q => op_isi q h
  | .cix i a, w, σ, σv, S => by
    unfold evT evE eCix
    refine sim_k1 (g := fun v M1 => cixM i v M1) (evT_ok a S) fun w' t v s h e => ?_
    cases t with
    | str z =>
      rw [er_str h]
      unfold cixT at e
      simp only at e
      split at e
      · rename_i p ep
        split at e
        · rename_i hs
          cases e
          exact ⟨p, by unfold cixM; simp only [ep], fr_ofP (d := 60) hs⟩
        · cases e
      · cases e
    | _ => cases e
  | .lc own g it cnd elt, w, σ, σv, S => by
    unfold evT evE eLc
    refine Sim.bind (evI_ok it S) fun s xs w1 σ1 s1 S1 r1 => ?_
    by_cases hg : gIn own g = true
    · exact SimO.since (sim_lc hg (evC_ok cnd) (evT_ok elt) S1 r1) s1
    · unfold lcK
      have : gIn own g = false := by simpa using hg
      rw [this, Bool.and_false]
      trivial
theorem evTs_ok : ∀ (es : MEs) {w : Wd} {σ : Mn.St} {σv : SS}, SR w σ σv → Sim w σ (evEs cfM es σ w.M) (evTs cfT es σv) (fun w' vs os => ORs w w' σ os vs)
  | .nil, w, σ, σv, S => by unfold evTs evEs eNil; exact ⟨[], w, rfl, .refl w, S, rfl⟩
  | .cons e es, w, σ, σv, S => by
    unfold evTs evEs eCons
    refine Sim.bind (evT_ok e S) fun v o w1 σ1 s1 S1 r1 => Sim.bind (evTs_ok es S1) fun vs os w2 σ2 s2 S2 r2 => ?_
    exact ⟨v :: vs, w2, rfl, .refl w2, S2, v, vs, rfl, r1.on S1.wi S2.wi s2, ORs.since s1 r2⟩
theorem evAnd_ok : ∀ (es : MEs) {w : Wd} {σ : Mn.St} {σv : SS}, SR w σ σv → SimO w w σ (evAnd cfM es σ w.M) (evAndT cfT es σv)
  | .nil, w, σ, σv, S => by unfold evAndT; trivial
  | .cons e .nil, w, σ, σv, S => by unfold evAndT evAnd; exact evT_ok e S
  | .cons e (.cons e' es), w, σ, σv, S => by
    unfold evAndT evAnd eAnd
    refine Sim.bind (evT_ok e S) fun v o w1 σ1 s1 S1 r1 => Sim.bind (sim_tr S1 r1) fun t t' w2 σ2 s2 S2 r => ?_
    subst r
    cases t with
    | true => exact SimO.since (evAnd_ok (.cons e' es) S2) (s1.trans s2)
    | false => exact ⟨v, w2, rfl, .refl w2, S2, r1.on S1.wi S2.wi s2⟩
theorem evOr_ok : ∀ (es : MEs) {w : Wd} {σ : Mn.St} {σv : SS}, SR w σ σv → SimO w w σ (evOr cfM es σ w.M) (evOrT cfT es σv)
  | .nil, w, σ, σv, S => by unfold evOrT; trivial
  | .cons e .nil, w, σ, σv, S => by unfold evOrT evOr; exact evT_ok e S
  | .cons e (.cons e' es), w, σ, σv, S => by
    unfold evOrT evOr eOr
    refine Sim.bind (evT_ok e S) fun v o w1 σ1 s1 S1 r1 => Sim.bind (sim_tr S1 r1) fun t t' w2 σ2 s2 S2 r => ?_
    subst r
    cases t with
    | false => exact SimO.since (evOr_ok (.cons e' es) S2) (s1.trans s2)
    | true => exact ⟨v, w2, rfl, .refl w2, S2, r1.on S1.wi S2.wi s2⟩
theorem evC_ok : ∀ (c : MEo), CndOk (evC cfM c) (evCT cfT c)
  | .none => by unfold evC evCT; trivial
  | .some e => fun S => evT_ok e S
theorem evI_ok : ∀ (it : MI) {w : Wd} {σ : Mn.St} {σv : SS}, SR w σ σv → Sim w σ (evI cfM it σ w.M) (evIT cfT it σv) (fun w' s xs => SrcR w' s xs)
  | .seq e, w, σ, σv, S => by
    unfold evIT evI iSeq
    exact Sim.bind (sim_fr (evT_ok e S)) fun v t w1 σ1 s1 S1 r1 => opt_src S1 fun xs e => src_seq r1 e
  | .range1 e, w, σ, σv, S => by
    unfold evIT evI iRange1
    refine Sim.bind (evT_ok e S) fun v x w1 σ1 s1 S1 r1 => ?_
    cases q : (look σ1 x).bind rng1 with
    | none => trivial
    | some xs =>
      rw [Option.bind_eq_some_iff] at q
      obtain ⟨t, e1, e2⟩ := q
      have er := r1.er S1 e1
      unfold rng1 at e2
      split at e2
      · rw [er_int er]
        split at e2
        · rename_i c
          cases e2
          exact ⟨_, w1, by show (if _ then _ else _) = _; rw [if_pos c], .refl w1, S1, .items (frs_range _ _)⟩
        · cases e2
      · cases e2
  | .range2 a b, w, σ, σv, S => by
    unfold evIT evI iRange2
    refine Sim.bind (evT_ok a S) fun v x w1 σ1 s1 S1 r1 => Sim.bind (evT_ok b S1) fun u y w2 σ2 s2 S2 r2 => ?_
    cases q : (look σ2 x).bind fun v => (look σ2 y).bind fun w => rng2 v w with
    | none => trivial
    | some xs =>
      rw [Option.bind_eq_some_iff] at q
      obtain ⟨t, e1, q⟩ := q
      rw [Option.bind_eq_some_iff] at q
      obtain ⟨t', e2, e3⟩ := q
      have er := (r1.on S1.wi S2.wi s2).er S2 e1
      have er2 := r2.er S2 e2
      unfold rng2 at e3
      split at e3
      · rw [er_int er, er_int er2]
        split at e3
        · rename_i c
          cases e3
          exact ⟨_, w2, by show (if _ then _ else _) = _; rw [if_pos c], .refl w2, S2, .items (frs_range _ _)⟩
        · cases e3
      · cases e3
  | .enum e, w, σ, σv, S => by
    unfold evIT evI iEnum
    exact Sim.bind (sim_fr (evT_ok e S)) fun v t w1 σ1 s1 S1 r1 => opt_src S1 fun xs e => by
      obtain ⟨ts, e1, rfl⟩ := Option.map_eq_some_iff.mp e
      exact src_enum r1 e1
  | .zip a b, w, σ, σv, S => by
    unfold evIT evI iZip
    have ha := evT_ok a S
    cases q : evT cfT a σv with
    | stuck => trivial
    | exc e σ' => rw [q] at ha; obtain ⟨u, w', e1, s, S', r'⟩ := ha; rw [e1]; exact ⟨u, w', rfl, s, S', r'⟩
    | ok x σ1 =>
      rw [q] at ha
      obtain ⟨v, w1, e1, s1, S1, r1⟩ := ha
      rw [e1]
      show Sim w σ ((evE cfM b σ w1.M).bind fun u M2 => optR (srcZip v u M2) M2) ((evT cfT b σ1).bind _) _
      have hb := evT_ok b S1
      cases q2 : evT cfT b σ1 with
      | stuck => trivial
      | exc e σ' => rw [q2] at hb; obtain ⟨u, w', e2, s, S', r'⟩ := hb; rw [e2]; exact ⟨u, w', rfl, s1.trans s, S', r'⟩
      | ok y σ2 =>
        rw [q2] at hb
        obtain ⟨u, w2, e2, s2, S2, r2⟩ := hb
        rw [e2]
        show Sim w σ (optR (srcZip v u w2.M) w2.M) ((frTs [x, y] σ2).bind _) _
        have ros : ORs w w2 σ [x, y] [v, u] := ⟨v, [u], rfl, r1.on S1.wi S2.wi s2, u, [], rfl, r2.since s1, rfl⟩
        rcases frTs_cases [x, y] σ2 with ⟨ts, σ3, q3⟩ | q3
        · obtain ⟨w3, em, s3, S3, f3⟩ := sim_frTs S2 (s1.trans s2) ros q3
          rw [q3, ← em]
          match ts, f3 with
          | [t, t'], f3 =>
            obtain ⟨v', r', e3, h1, h2⟩ := frs_cons.mp f3
            cases e3
            obtain ⟨v', r', e3, h3, h4⟩ := frs_cons.mp h2
            cases e3
            exact (opt_src S3 fun xs e => src_zip h1 h3 e).since s3
          | [], f3 => trivial
          | [_], f3 => trivial
          | _ :: _ :: _ :: _, f3 => trivial
        · rw [q3]; trivial
end
end
end Vt
end
section
set_option Elab.async false
set_option linter.all false
set_option maxRecDepth 100000
set_option maxHeartbeats 4000000
namespace Vt
open PySem Mn
/-! ### statements -/
def FlR (w w' : Wd) (fl : Mn.Flow) (σm : Mn.St) : FlowT → Prop
  | .next => fl = .next σm
  | .brk => fl = .brk σm
  | .cont => fl = .cont σm
  | .ret s => ∃ v, fl = .ret v ∧ LR w' (Tmp w w') s v
theorem FlR.since {w w1 w' : Wd} {fl : Mn.Flow} {σm : Mn.St} {f : FlowT} (h : FlR w1 w' fl σm f) (s : Stp w w1) : FlR w w' fl σm f := by
  cases f with
  | ret x =>
    obtain ⟨v, e, l⟩ := h
    exact ⟨v, e, LR.mono (w := w') (w' := w') (fun _ h => h) (fun _ _ => rfl) (fun n t => ⟨t.since s, rfl⟩) l⟩
  | _ => exact h
def SimS (w : Wd) (σ : Mn.St) (b : Bool) (rm : Res Mn.Flow) (rt : RT FlowT) : Prop :=
  match rt with
  | .ok f σ' => ∃ fl σm w', rm = .ok fl w'.M ∧ Stp w w' ∧ SR w' σm σ' ∧ FlR w w' fl σm f ∧ (b = false → σm[0]? = σ[0]?)
  | .exc e σ' => ∃ v σm w', rm = .exc v w'.M ∧ Stp w w' ∧ SR w' σm σ' ∧ FR w'.M w'.Z e v ∧ (b = false → σm[0]? = σ[0]?)
  | .stuck => True
theorem SimS.since {w w1 : Wd} {σ σ1 : Mn.St} {b c : Bool} {rm : Res Mn.Flow} {rt : RT FlowT} (h : SimS w1 σ1 b rm rt) (s : Stp w w1) (hb : c = false → b = false ∧ σ1[0]? = σ[0]?) : SimS w σ c rm rt := by
  cases rt with
  | ok f σ' =>
    obtain ⟨fl, σm, w', e, s1, S, r, z⟩ := h
    exact ⟨fl, σm, w', e, s.trans s1, S, r.since s, fun q => by rw [z (hb q).1, (hb q).2]⟩
  | exc f σ' =>
    obtain ⟨fl, σm, w', e, s1, S, r, z⟩ := h
    exact ⟨fl, σm, w', e, s.trans s1, S, r, fun q => by rw [z (hb q).1, (hb q).2]⟩
  | stuck => trivial
theorem SimS.bindE {α β : Type} {w : Wd} {σ : Mn.St} {c : Bool} {rm : Res α} {rt : RT β} {R : Wd → α → β → Prop} {f : α → Mem → Res Mn.Flow} {g : β → SS → RT FlowT} (h : Sim w σ rm rt R)
    (k : ∀ a b w' σ', Stp w w' → SR w' σ σ' → R w' a b → SimS w σ c (f a w'.M) (g b σ')) : SimS w σ c (rm.bind f) (rt.bind g) := by
  cases rt with
  | ok b σ' =>
    obtain ⟨a, w', e, s, S, r⟩ := h
    subst e
    exact k a b w' σ' s S r
  | exc e σ' =>
    obtain ⟨v, w', q, s, S, r⟩ := h
    subst q
    exact ⟨v, σ, w', rfl, s, S, r, fun _ => rfl⟩
  | stuck => trivial
theorem SimS.bind {w : Wd} {σ : Mn.St} {b c : Bool} {rm : Res Mn.Flow} {rt : RT FlowT} {f : Mn.Flow → Mem → Res Mn.Flow} {g : FlowT → SS → RT FlowT} (h : SimS w σ b rm rt) (hb : c = false → b = false)
    (k : ∀ fl fT w' σm σ', Stp w w' → SR w' σm σ' → FlR w w' fl σm fT → (b = false → σm[0]? = σ[0]?) → SimS w σ c (f fl w'.M) (g fT σ')) : SimS w σ c (rm.bind f) (rt.bind g) := by
  cases rt with
  | ok f σ' =>
    obtain ⟨fl, σm, w', e, s1, S, r, z⟩ := h
    subst e
    exact k fl f w' σm σ' s1 S r z
  | exc f σ' =>
    obtain ⟨fl, σm, w', e, s1, S, r, z⟩ := h
    subst e
    exact ⟨fl, σm, w', rfl, s1, S, r, fun q => z (hb q)⟩
  | stuck => trivial
def BodyOk (b : Bool) (e : Mn.Sv) (t : SS → RT FlowT) : Prop := ∀ {w : Wd} {σ : Mn.St} {σv : SS}, SR w σ σv → SimS w σ b (e σ w.M) (t σv)
theorem sim_after {w w' : Wd} {σ σm : Mn.St} {b c : Bool} {fl : Mn.Flow} {fT : FlowT} {σ' : SS} {go : Mn.St → Mem → Res Mn.Flow} {goT : SS → RT FlowT} (s : Stp w w') (S : SR w' σm σ') (r : FlR w w' fl σm fT) (z : c = false → σm[0]? = σ[0]?) (hb : c = false → b = false)
    (hgo : SimS w' σm b (go σm w'.M) (goT σ')) : SimS w σ c (afterTurn fl w'.M go) (afterT fT σ' goT) := by
  cases fT with
  | next => cases r; exact hgo.since s fun q => ⟨hb q, z q⟩
  | cont => cases r; exact hgo.since s fun q => ⟨hb q, z q⟩
  | brk => cases r; exact ⟨.next σm, σm, w', rfl, s, S, rfl, z⟩
  | ret x =>
    obtain ⟨v, rfl, l⟩ := r
    exact ⟨.ret v, σm, w', rfl, s, S, ⟨v, rfl, l⟩, z⟩
section
variable {g : MG} {body : Mn.Sv} {bodyT : SS → RT FlowT} {b c : Bool} (hb : BodyOk b body bodyT) (hc : c = false → b = false ∧ MG.has 0 g = false)
include hb hc
theorem for_items : ∀ {xs : List TV} {vs : List PV} {w : Wd} {σ : Mn.St} {σv : SS}, SR w σ σv → FRs w.M w.Z xs vs → SimS w σ c (forItems g body vs σ w.M) (forT g bodyT xs σv)
  | [], vs, w, σ, σv, S, hx => by
    rw [frs_nil.mp hx]
    exact ⟨.next σ, σ, w, rfl, .refl w, S, rfl, fun _ => rfl⟩
  | x :: xs, vs, w, σ, σv, S, hx => by
    obtain ⟨v, r, rfl, h1, h2⟩ := frs_cons.mp hx
    rw [forT, forItems]
    cases e : asgG g x σv with
    | none => trivial
    | some σ' =>
      obtain ⟨σm, e1, S1, k⟩ := asg_ok g S h1 e
      rw [e1]
      simp only
      refine (SimS.bind (c := c) (hb S1) (fun q => (hc q).1) fun fl fT w' σm' σ'' s1 S2 r1 z => ?_).since (.refl w) fun q => ⟨q, k 0 (hc q).2⟩
      exact sim_after (b := c) s1 S2 r1 (fun q => z (hc q).1) id (for_items S2 (s1.FRs S1.wi h2))
theorem for_src {s : Src} : ∀ {xs : List TV} {vs : List PV} {i f : Nat} {w : Wd} {σ : Mn.St} {σv : SS}, SR w σ σv → FRs w.M w.Z xs vs → xs.length < f → (∀ M', (∀ n, w.Z n → M'.get n = w.M.get n) → ∀ k, k ≤ vs.length → srcAt s (i + k) M' = some vs[k]?) →
    SimS w σ c (forSrc g body s f i σ w.M) (forT g bodyT xs σv)
  | xs, vs, i, 0, w, σ, σv, S, hx, hf, hs => by omega
  | [], vs, i, f + 1, w, σ, σv, S, hx, hf, hs => by
    have h0 := hs w.M (fun _ _ => rfl) 0 (Nat.zero_le _)
    rw [frs_nil.mp hx] at h0
    have h0 : srcAt s i w.M = some none := h0
    rw [forSrc, h0]
    exact ⟨.next σ, σ, w, rfl, .refl w, S, rfl, fun _ => rfl⟩
  | x :: xs, vs, i, f + 1, w, σ, σv, S, hx, hf, hs => by
    obtain ⟨v, r, rfl, h1, h2⟩ := frs_cons.mp hx
    have h0 : srcAt s i w.M = some (some v) := hs w.M (fun _ _ => rfl) 0 (Nat.zero_le _)
    rw [forT, forSrc, h0]
    cases e : asgG g x σv with
    | none => trivial
    | some σ' =>
      obtain ⟨σm, e1, S1, k⟩ := asg_ok g S h1 e
      simp only [e1]
      refine (SimS.bind (c := c) (hb S1) (fun q => (hc q).1) fun fl fT w' σm' σ'' s1 S2 r1 z => ?_).since (.refl w) fun q => ⟨q, k 0 (hc q).2⟩
      refine sim_after (b := c) s1 S2 r1 (fun q => z (hc q).1) id (for_src S2 (s1.FRs S1.wi h2) (by rw [List.length_cons] at hf; omega) fun M' hM k hk => ?_)
      have := hs M' (fun n z => by rw [hM n (s1.zm n z), s1.keep S.wi n z]) (k + 1) (Nat.succ_le_succ hk)
      rw [show i + 1 + k = i + (k + 1) by omega, this]; rfl
theorem sim_for {w : Wd} {σ : Mn.St} {σv : SS} {s : Src} {xs : List TV} (S : SR w σ σv) (hs : SrcR w s xs) : SimS w σ c (forRun g body s σ w.M) (forT g bodyT xs σv) := by
  cases hs with
  | items r => exact for_items hb hc S r
  | src h1 r h2 h3 =>
    have := for_src hb hc (s := s) (i := 0) (f := srcLen s w.M + 1) S r (by rw [← r.length]; omega) (fun M' hM k hk => by rw [Nat.zero_add]; exact h3 M' hM k hk)
    cases s with
    | items us => exact absurd rfl (h1 us)
    | at1 n e => exact this
    | at2 n m => exact this
    | atT n m => exact this
end
theorem sim_while {cnd : Mn.Ev} {cndT : EvT} {body : Mn.Sv} {bodyT : SS → RT FlowT} {b : Bool} (hc : EvOk cnd cndT) (hb : BodyOk b body bodyT) : ∀ {f : Nat} {w : Wd} {σ : Mn.St} {σv : SS}, SR w σ σv → SimS w σ b (whileRun cnd body f σ w.M) (whileT cndT bodyT f σv)
  | 0, w, σ, σv, S => trivial
  | f + 1, w, σ, σv, S => by
    rw [whileRun, whileT]
    refine SimS.bindE (sim_trb (hc S)) fun x y w1 σ1 s1 S1 r => ?_
    subst r
    cases x with
    | false => exact ⟨.next σ, σ, w1, rfl, s1, S1, rfl, fun _ => rfl⟩
    | true =>
      refine (SimS.bind (c := b) (hb S1) id fun fl fT w' σm σ' s2 S2 r2 z => ?_).since s1 fun q => ⟨q, rfl⟩
      exact sim_after (b := b) s2 S2 r2 z id (sim_while hc hb S2)
section
variable {cfM : CF} {cfT : CFT} (hc : CFok cfM cfT)
include hc
/-- o[i] = v -/
theorem sim_set (o i : ME) {w1 : Wd} {σ : Mn.St} {σ1 : SS} {v : PV} {t : TV} (S1 : SR w1 σ σ1) (r : FR w1.M w1.Z t v) :
    SimS w1 σ false (sSet (evE cfM o) (evE cfM i) v σ w1.M) ((evT cfT o σ1).bind fun x σ2 => (evT cfT i σ2).bind fun y σ3 => setK x t y σ3) := by
  unfold sSet
  refine SimS.bindE (c := false) (evT_ok hc o S1) fun ov x w2 σ2 s2 S2 r2 => ?_
  refine (SimS.bindE (c := false) (evT_ok hc i S2) fun iv y w3 σ3 s3 S3 r3 => ?_).since s2 fun _ => ⟨rfl, rfl⟩
  unfold setK
  cases x with
  | own s => trivial
  | bor j =>
    have h1 : σ[j]? = some (some ov) := r2.1
    simp only
    split
    · rename_i xs k q1 q2
      obtain ⟨u, e1, l⟩ := S3.rd q1
      rw [h1] at e1; cases e1
      obtain ⟨n, us, rfl, ho, hg, rr⟩ := l
      rw [Option.bind_eq_some_iff] at q2
      obtain ⟨ti, q2, q3⟩ := q2
      rw [toI_er (r3.er S3 q2) q3]
      cases q4 : ixOf xs.length k with
      | none => trivial
      | some kk =>
        rw [← rr.length] at q4
        have r3' := s3.FR S2.wi (s2.FR S1.wi r)
        obtain ⟨st, S4⟩ := put_ok (e := if v.pure then 0 else 1) S3 ho h1 (FRs.set r3' kk rr)
        refine ⟨_, σ, _, ?_, s3.trans st, S4, rfl, fun _ => rfl⟩
        simp only [setM, hg, q4]; rfl
    · trivial
mutual
theorem evS_ok : ∀ (m : MS), BodyOk (stHas 0 m) (evS cfM m) (evST cfT m)
  | .asg i e, w, σ, σv, S => by
    unfold evS evST sAsg
    rw [trim_eq]
    refine SimS.bindE (sim_mv (evT_ok hc e S)) fun v s w1 σ1 s1 S1 l => ?_
    obtain ⟨w', em, s2, S2⟩ := set_ok S1 s1 l i
    refine ⟨_, _, w', by rw [em], s2, S2, rfl, fun q => ?_⟩
    simp only [stHas, beq_eq_false_iff_ne] at q
    rw [List.getElem?_set_ne q]
  | .asgT g e, w, σ, σv, S => by
    unfold evS evST sAsgT
    rw [trim_eq]
    refine SimS.bindE (sim_fr (evT_ok hc e S)) fun v t w1 σ1 s1 S1 r => ?_
    cases q : asgG g t σ1 with
    | none => trivial
    | some σ2 =>
      obtain ⟨σm, e1, S2, k⟩ := asg_ok g S1 r q
      rw [e1]
      exact ⟨_, σm, w1, rfl, s1, S2, rfl, fun h => k 0 (by simpa only [stHas] using h)⟩
  | .par i j es, w, σ, σv, S => by
    unfold evS evST sPar
    refine SimS.bindE (sim_frs (evTs_ok hc es S)) fun vs ts w1 σ1 s1 S1 r => ?_
    match ts, r with
    | [t, t'], r =>
      obtain ⟨v, q, rfl, h1, h2⟩ := frs_cons.mp r
      obtain ⟨v', q', rfl, h3, h4⟩ := frs_cons.mp h2
      cases frs_nil.mp h4
      refine ⟨_, _, w1, rfl, s1, set_val (set_val S1 h1 i) h3 j, rfl, fun h => ?_⟩
      simp only [stHas, Bool.or_eq_false_iff, beq_eq_false_iff_ne] at h
      rw [List.getElem?_set_ne h.2, List.getElem?_set_ne h.1]
    | [], r => trivial
    | [_], r => trivial
    | _ :: _ :: _ :: _, r => trivial
  | .par3 i j l es, w, σ, σv, S => by
    unfold evS evST sPar3
    refine SimS.bindE (sim_frs (evTs_ok hc es S)) fun vs ts w1 σ1 s1 S1 r => ?_
    match ts, r with
    | [t, t', t''], r =>
      obtain ⟨v, q, rfl, h1, h2⟩ := frs_cons.mp r
      obtain ⟨v', q', rfl, h3, h4⟩ := frs_cons.mp h2
      obtain ⟨v'', q'', rfl, h5, h6⟩ := frs_cons.mp h4
      cases frs_nil.mp h6
      refine ⟨_, _, w1, rfl, s1, set_val (set_val (set_val S1 h1 i) h3 j) h5 l, rfl, fun h => ?_⟩
      simp only [stHas, Bool.or_eq_false_iff, beq_eq_false_iff_ne] at h
      rw [List.getElem?_set_ne h.2, List.getElem?_set_ne h.1.2, List.getElem?_set_ne h.1.1]
    | [], r => trivial
    | [_], r => trivial
    | [_, _], r => trivial
    | _ :: _ :: _ :: _ :: _, r => trivial
  | .setix o i e, w, σ, σv, S => by
    unfold evS evST sSetix
    rw [trim_eq]
    refine SimS.bindE (sim_fr (evT_ok hc e S)) fun v t w1 σ1 s1 S1 r => ?_
    exact (sim_set hc o i S1 r).since s1 fun _ => ⟨rfl, rfl⟩
  | .swp o i o2 i2 e, w, σ, σv, S => by
    unfold evS evST sSwp
    refine SimS.bindE (sim_fr (evT_ok hc e S)) fun v t w1 σ1 s1 S1 r => ?_
    match t, r with
    | .tup [t, u], r =>
      obtain ⟨ps, rfl, rs⟩ := fr_tup.mp r
      obtain ⟨v1, q, rfl, h1, h2⟩ := frs_cons.mp rs
      obtain ⟨v2, q', rfl, h3, h4⟩ := frs_cons.mp h2
      cases frs_nil.mp h4
      refine (SimS.bind (b := false) (c := false) (sim_set hc o i S1 h1) (fun _ => rfl) fun fl fT w' σm σ' st S' fr z => ?_).since s1 fun _ => ⟨rfl, rfl⟩
      cases fT with
      | next =>
        have fr : fl = .next σm := fr
        subst fr
        exact (sim_set hc o2 i2 S' (st.FR S1.wi h3)).since st fun _ => ⟨rfl, z rfl⟩
      | brk =>
        have fr : fl = .brk σm := fr
        subst fr
        exact ⟨_, σm, w', rfl, st, S', rfl, z⟩
      | cont =>
        have fr : fl = .cont σm := fr
        subst fr
        exact ⟨_, σm, w', rfl, st, S', rfl, z⟩
      | ret s =>
        obtain ⟨v, rfl, l⟩ := fr
        exact ⟨_, σm, w', rfl, st, S', ⟨v, rfl, l⟩, z⟩
    | .tup [], r => trivial
    | .tup [_], r => trivial
    | .tup (_ :: _ :: _ :: _), r => trivial
    | .non, r => trivial
    | .bl _, r => trivial
    | .int _, r => trivial
    | .str _, r => trivial
    | .lst _, r => trivial
    | .rol _, r => trivial
  | .expr e, w, σ, σv, S => by
    unfold evS evST sExpr
    rw [trim_eq]
    exact SimS.bindE (evT_ok hc e S) fun v o w1 σ1 s1 S1 r => ⟨_, σ, w1, rfl, s1, S1, rfl, fun _ => rfl⟩
  | .ret e, w, σ, σv, S => by
    unfold evS evST sRet
    rw [trim_eq]
    exact SimS.bindE (sim_mv (evT_ok hc e S)) fun v s w1 σ1 s1 S1 l => ⟨_, σ, w1, rfl, s1, S1, ⟨v, rfl, l⟩, fun _ => rfl⟩
  | .ife c a b, w, σ, σv, S => by
    unfold evS evST sIf
    refine SimS.bindE (sim_trb (evT_ok hc c S)) fun x y w1 σ1 s1 S1 r => ?_
    subst r
    cases x with
    | true => exact (evSs_ok a S1).since s1 fun q => ⟨by simp only [stHas, Bool.or_eq_false_iff] at q; exact q.1, rfl⟩
    | false => exact (evSs_ok b S1).since s1 fun q => ⟨by simp only [stHas, Bool.or_eq_false_iff] at q; exact q.2, rfl⟩
  | .for_ g it b, w, σ, σv, S => by
    unfold evS evST sFor
    refine SimS.bindE (evI_ok hc it S) fun s xs w1 σ1 s1 S1 r => ?_
    refine (sim_for (c := stHas 0 (.for_ g it b)) (evSs_ok b) (fun q => ?_) S1 r).since s1 fun q => ⟨q, rfl⟩
    simp only [stHas, Bool.or_eq_false_iff] at q
    exact ⟨q.2, q.1⟩
  | .while_ c b, w, σ, σv, S => by
    unfold evS evST sWhile
    exact (sim_while (evT_ok hc c) (evSs_ok b) S).since (.refl w) fun q => ⟨by simpa only [stHas] using q, rfl⟩
  | .pass, w, σ, σv, S => by
    unfold evS evST sPass; exact ⟨_, σ, w, rfl, .refl w, S, rfl, fun _ => rfl⟩
  | .brk, w, σ, σv, S => by
    unfold evS evST sBrk; exact ⟨_, σ, w, rfl, .refl w, S, rfl, fun _ => rfl⟩
  | .cont, w, σ, σv, S => by
    unfold evS evST sCont; exact ⟨_, σ, w, rfl, .refl w, S, rfl, fun _ => rfl⟩
  | .raise_, w, σ, σv, S => by
    unfold evST; trivial
theorem evSs_ok : ∀ (ms : MSs), BodyOk (ssHas 0 ms) (evSs cfM ms) (evSsT cfT ms)
  | .nil, w, σ, σv, S => by
    unfold evSs evSsT sPass; exact ⟨_, σ, w, rfl, .refl w, S, rfl, fun _ => rfl⟩
  | .cons m ms, w, σ, σv, S => by
    unfold evSs evSsT sSeq
    refine SimS.bind (evS_ok m S) (fun q => by simp only [ssHas, Bool.or_eq_false_iff] at q; exact q.1) fun fl fT w' σm σ' s1 S1 r z => ?_
    have z' : ssHas 0 (.cons m ms) = false → σm[0]? = σ[0]? := fun q => z (by simp only [ssHas, Bool.or_eq_false_iff] at q; exact q.1)
    cases fT with
    | next =>
      cases r
      exact (evSs_ok ms S1).since s1 fun q => ⟨by simp only [ssHas, Bool.or_eq_false_iff] at q; exact q.2, z' q⟩
    | brk => cases r; exact ⟨_, σm, w', rfl, s1, S1, rfl, z'⟩
    | cont => cases r; exact ⟨_, σm, w', rfl, s1, S1, rfl, z'⟩
    | ret x => obtain ⟨v, rfl, l⟩ := r; exact ⟨_, σm, w', rfl, s1, S1, ⟨v, rfl, l⟩, z'⟩
end
end
/-! ### calls -/
theorem start_sr {w : Wd} (i : WI w) {args : List SV} {vs : List PV} (A : ArgR w args vs) (nn : Nat) : SR w (startσ nn vs) (startT nn args) where
  wi := i
  len := by simp [startσ, startT, A.len]
  slot := fun j s hj => by
    unfold startT at hj
    by_cases c : j < args.length
    · rw [List.getElem?_append_left (by rw [List.length_map]; exact c), List.getElem?_map] at hj
      obtain ⟨s', e, hj⟩ := Option.map_eq_some_iff.mp hj
      cases hj
      obtain ⟨v, e1, l⟩ := A.at_ j s e
      refine ⟨v, ?_, l⟩
      unfold startσ
      rw [List.getElem?_append_left (by rw [List.length_map, A.len]; exact c), List.getElem?_map, e1]; rfl
    · rw [List.getElem?_append_right (by rw [List.length_map]; omega), List.getElem?_replicate] at hj
      split at hj <;> cases hj
theorem tab_at {fs : List (Nat × Fn)} (h : tabOk fs = true) {f : Nat} {F : Fn} (e : fs.lookup f = some F) (hf : IO ≤ f) : ssHas 0 F.body = false := by
  induction fs with
  | nil => cases e
  | cons p fs ih =>
    unfold tabOk at h
    rw [List.all_cons, Bool.and_eq_true] at h
    rw [List.lookup_cons] at e
    split at e
    · rename_i q
      cases e
      have h1 := h.1
      rw [beq_iff_eq] at q
      subst q
      simp only [Bool.or_eq_true, decide_eq_true_eq, Bool.not_eq_true'] at h1
      rcases h1 with h1 | h1
      · omega
      · exact h1
    · exact ih h.2 e
theorem start_0 {nn : Nat} {vs : List PV} {v : PV} (h : (startσ nn vs)[0]? = some (some v)) : vs[0]? = some v := by
  unfold startσ at h
  cases vs with
  | nil =>
    rw [List.map_nil, List.nil_append, List.getElem?_replicate] at h
    split at h <;> cases h
  | cons x xs => simpa using h
/-- THE THEOREM: what the evaluator without places says, the other says too -/
theorem runT_ok {fs : List (Nat × Fn)} (ht : tabOk fs = true) : ∀ k, CFok (Mn.run fs k) (runT fs k)
  | 0 => fun f args vs w i A => trivial
  | k + 1 => fun f args vs w i A => by
    cases e : fs.lookup f with
    | none =>
      have e1 : runT fs (k + 1) f args = .stuck := by simp only [runT, e]
      rw [e1]; trivial
    | some F =>
      have e1 : runT fs (k + 1) f args = if args.length = F.np then endT f (evSsT (runT fs k) F.body (startT F.nn args)) else .stuck := by simp only [runT, e]
      have e2 : Mn.run fs (k + 1) f vs w.M = if vs.length = F.np then endOf w.M (evSs (Mn.run fs k) F.body (startσ F.nn vs) w.M) else .stuck := by simp only [Mn.run, e]
      rw [e1, e2]
      by_cases hl : args.length = F.np
      rotate_left
      · rw [if_neg hl]; trivial
      rw [if_pos hl, if_pos (A.len.trans hl)]
      have h := evSs_ok (runT_ok ht k) F.body (start_sr i A F.nn)
      have out : ∀ {w' σm σ'}, SR w' σm σ' → (ssHas 0 F.body = false → σm[0]? = (startσ F.nn vs)[0]?) → OutR f w' (outT f σ') vs := fun {w' σm σ'} S' z hf o ho s hs => by
        unfold outT at ho
        rw [if_pos hf] at ho
        cases ho
        obtain ⟨v, e1, l⟩ := S'.rd (i := 0) hs
        rw [z (tab_at ht e hf)] at e1
        exact ⟨v, start_0 e1, l⟩
      cases q : evSsT (runT fs k) F.body (startT F.nn args) with
      | stuck => trivial
      | exc x σ' =>
        rw [q] at h
        obtain ⟨v, σm, w', e1, s1, S1, r, z⟩ := h
        rw [e1]
        exact ⟨v, w', rfl, s1, S1.wi, r, out S1 z⟩
      | ok fT σ' =>
        rw [q] at h
        obtain ⟨fl, σm, w', e1, s1, S1, r, z⟩ := h
        rw [e1]
        cases fT with
        | next => cases r; exact ⟨.non, w', rfl, s1, S1.wi, (fr_non.mpr rfl : FR w'.M w'.Z .non .non), out S1 z⟩
        | ret x => obtain ⟨v, rfl, l⟩ := r; exact ⟨v, w', rfl, s1, S1.wi, l, out S1 z⟩
        | brk => trivial
        | cont => trivial
/-- a law -/
theorem law_T {fs : List (Nat × Fn)} (ht : tabOk fs = true) {k f : Nat} {ns : List Int} {outs : SS} (h : runT fs k f [.val (.rol (ns.map TV.int))] = .ok (.val (.bl true)) outs) : ∃ M', Mn.run fs k f [.ref 0] ⟨1, [.rol (ns.map PV.int)], 0⟩ = .ok (.bl true) M' := by
  have := runT_ok ht k f [.val (.rol (ns.map TV.int))] [.ref 0] ⟨⟨1, [.rol (ns.map PV.int)], 0⟩, fun n => n = 0, fun _ => none⟩ ⟨rfl, fun n h => by show n < 1; omega, fun n i h => by cases h⟩ ⟨rfl, fun j s hj => by
    cases j with
    | zero => cases hj; exact ⟨_, rfl, fr_rol.mpr ⟨0, _, rfl, rfl, rfl, frs_map_int ns⟩⟩
    | succ j => cases hj⟩
  rw [h] at this
  obtain ⟨v, w', e, _, _, l, _⟩ := this
  have l : FR w'.M w'.Z (.bl true) v := l
  rw [fr_bl.mp l] at e
  exact ⟨_, e⟩
end Vt
end
section
set_option Elab.async false
set_option linter.all false
set_option maxRecDepth 100000
set_option maxHeartbeats 4000000
namespace Vt
open PySem Mn
/-! ### walking a text: one step each -/
@[simp] theorem bind_ok_ {α β : Type} (a : α) (σ : SS) (f : α → SS → RT β) : RT.bind (.ok a σ) f = f a σ := id rfl
@[simp] theorem bind_exc_ {α β : Type} (a : TV) (σ : SS) (f : α → SS → RT β) : RT.bind (.exc a σ) f = .exc a σ := id rfl
@[simp] theorem bind_stuck_ {α β : Type} (f : α → SS → RT β) : RT.bind .stuck f = .stuck := id rfl
def ob {α β : Type} (o : Option α) (f : α → Option β) : Option β := o.bind f
@[simp] theorem ob_some {α β : Type} (a : α) (f : α → Option β) : ob (some a) f = f a := id rfl
def om {α β : Type} (o : Option α) (f : α → β) : Option β := o.map f
@[simp] theorem om_some {α β : Type} (a : α) (f : α → β) : om (some a) f = some (f a) := id rfl
theorem rd_eq (σ : SS) (i : Nat) : rd σ i = (σ[i]?).getD none := id rfl
@[simp] theorem rd_zero (o : Option SV) (σ : SS) : rd (o :: σ) 0 = o := id rfl
@[simp] theorem rd_succ (o : Option SV) (σ : SS) (i : Nat) : rd (o :: σ) (i + 1) = rd σ i := id rfl
@[simp] theorem tv_val (w : TV) : (SV.val w).tv = w := id rfl
@[simp] theorem tv_live (w : List TV) : (SV.live w).tv = .lst w := id rfl
@[simp] theorem look_own (σ : SS) (s : SV) : look σ (.own s) = some s.tv := id rfl
@[simp] theorem look_bor (σ : SS) (i : Nat) : look σ (.bor i) = om (rd σ i) SV.tv := id rfl
@[simp] theorem lookL_nil (σ : SS) : lookL σ [] = some [] := id rfl
@[simp] theorem lookL_cons (σ : SS) (o : Op) (os : List Op) : lookL σ (o :: os) = ob (look σ o) fun w => om (lookL σ os) fun ws => w :: ws := id rfl
def frB (i : Nat) (σ : SS) (o : Option SV) : RT TV :=
  match o with
  | some s => .ok s.tv (σ.set i (some (.val s.tv)))
  | none => .stuck
@[simp] theorem frB_some (i : Nat) (σ : SS) (s : SV) : frB i σ (some s) = .ok s.tv (σ.set i (some (.val s.tv))) := id rfl
@[simp] theorem frT_own (s : SV) (σ : SS) : frT (.own s) σ = .ok s.tv σ := id rfl
@[simp] theorem frT_bor (i : Nat) (σ : SS) : frT (.bor i) σ = frB i σ (rd σ i) := by
  unfold frT
  show (match (match rd σ i with | some s => some (s.tv, σ.set i (some (.val s.tv))) | none => none) with | some (w, σ') => RT.ok w σ' | none => .stuck) = _
  cases rd σ i <;> rfl
def frC2 (w : TV) (r : RT (List TV)) : RT (List TV) := r.bind fun ws σ => .ok (w :: ws) σ
@[simp] theorem frC2_ok (w : TV) (ws : List TV) (σ : SS) : frC2 w (.ok ws σ) = .ok (w :: ws) σ := id rfl
def frC1 (os : List Op) (r : RT TV) : RT (List TV) := r.bind fun w σ => frC2 w (frTs os σ)
@[simp] theorem frC1_ok (os : List Op) (w : TV) (σ : SS) : frC1 os (.ok w σ) = frC2 w (frTs os σ) := id rfl
@[simp] theorem frTs_nil (σ : SS) : frTs [] σ = .ok [] σ := id rfl
@[simp] theorem frTs_cons (o : Op) (os : List Op) (σ : SS) : frTs (o :: os) σ = frC1 os (frT o σ) := by
  unfold frTs frT frC1 frC2
  rw [frzL]
  cases frz σ o with
  | none => rfl
  | some p =>
    show (match Option.map (fun q => (p.1 :: q.1, q.2)) (frzL p.2 os) with | some (ws, σ') => RT.ok ws σ' | none => .stuck) = RT.bind (match frzL p.2 os with | some (ws, σ') => RT.ok ws σ' | none => .stuck) fun ws σ => .ok (p.1 :: ws) σ
    cases frzL p.2 os <;> rfl
def mvB (i : Nat) (σ : SS) (o : Option SV) : RT SV :=
  match o with
  | some s => .ok s (σ.set i none)
  | none => .stuck
@[simp] theorem mvB_some (i : Nat) (σ : SS) (s : SV) : mvB i σ (some s) = .ok s (σ.set i none) := id rfl
@[simp] theorem mvT_own (s : SV) (σ : SS) : mvT (.own s) σ = .ok s σ := id rfl
@[simp] theorem mvT_bor (i : Nat) (σ : SS) : mvT (.bor i) σ = mvB i σ (rd σ i) := by
  unfold mvT
  show (match (match rd σ i with | some s => some (s, σ.set i none) | none => none) with | some (w, σ') => RT.ok w σ' | none => .stuck) = _
  cases rd σ i <;> rfl
@[simp] theorem oT_some (s : SV) (σ : SS) : oT (some s) σ = .ok (.own s) σ := id rfl
def trB (σ : SS) (o : Option Bool) : RT Bool :=
  match o with
  | some b => .ok b σ
  | none => .stuck
@[simp] theorem trB_some (σ : SS) (b : Bool) : trB σ (some b) = .ok b σ := id rfl
@[simp] theorem trT_eq (o : Op) (σ : SS) : trT o σ = trB σ (ob (look σ o) truthT) := by
  unfold trT trB ob; cases (look σ o).bind truthT <;> rfl
@[simp] theorem optT_some {α : Type} (a : α) (σ : SS) : optT (some a) σ = .ok a σ := id rfl
@[simp] theorem LIM_eq : LIM = 16777216 := id rfl
@[simp] theorem IO_eq : IO = 10000 := id rfl
-- frames
@[simp] theorem k1_ok (f : TV → Option SV) (x : Op) (σ : SS) : k1 f (.ok x σ) = oT (ob (look σ x) f) σ := id rfl
@[simp] theorem k2b_ok (f : TV → TV → Option SV) (x y : Op) (σ : SS) : k2b f x (.ok y σ) = oT (ob (look σ x) fun v => ob (look σ y) fun w => f v w) σ := id rfl
@[simp] theorem kB_ok (f : BF) (os : List Op) (σ : SS) : kB f (.ok os σ) = oT (ob (lookL σ os) (bcallT f)) σ := id rfl
section
variable (cf : CFT) (σ : SS)
def f2 (f : TV → TV → Option SV) (b : ME) (r : RT Op) : RT Op := r.bind fun x σ1 => k2b f x (evT cf b σ1)
@[simp] theorem f2_ok (f : TV → TV → Option SV) (b : ME) (x : Op) : f2 cf f b (.ok x σ) = k2b f x (evT cf b σ) := id rfl
def vr (i : Nat) (σ : SS) (o : Option SV) : RT Op :=
  match o with
  | some (.val w) => .ok (.own (.val w)) σ
  | some (.live _) => .ok (.bor i) σ
  | none => .stuck
@[simp] theorem vr_val (i : Nat) (w : TV) : vr i σ (some (.val w)) = .ok (.own (.val w)) σ := id rfl
@[simp] theorem vr_live (i : Nat) (w : List TV) : vr i σ (some (.live w)) = .ok (.bor i) σ := id rfl
@[simp] theorem xv (i : Nat) : evT cf (.var i) σ = vr i σ (rd σ i) := id rfl
@[simp] theorem xi (i : Int) : evT cf (.int i) σ = .ok (.own (.val (.int i))) σ := id rfl
@[simp] theorem xb (i : Bool) : evT cf (.bl i) σ = .ok (.own (.val (.bl i))) σ := id rfl
@[simp] theorem xn : evT cf .non σ = .ok (.own (.val .non)) σ := id rfl
@[simp] theorem xs (i : Str) : evT cf (.str i) σ = .ok (.own (.val (.str i))) σ := id rfl
def kFs (r : RT (List Op)) : RT (List TV) := r.bind frTs
@[simp] theorem kFs_ok (os : List Op) : kFs (.ok os σ) = frTs os σ := id rfl
def kF (r : RT Op) : RT TV := r.bind frT
@[simp] theorem kF_ok (o : Op) : kF (.ok o σ) = frT o σ := id rfl
def kMvv (r : RT Op) : RT SV := r.bind mvT
@[simp] theorem kMvv_ok (o : Op) : kMvv (.ok o σ) = mvT o σ := id rfl
def kTr (r : RT Op) : RT Bool := r.bind trT
@[simp] theorem kTr_ok (o : Op) : kTr (.ok o σ) = trT o σ := id rfl
def kTup (r : RT (List TV)) : RT Op := r.bind fun ws σ1 => if ws.length ≤ LIM then .ok (.own (.val (.tup ws))) σ1 else .stuck
@[simp] theorem kTup_ok (ws : List TV) : kTup (.ok ws σ) = if ws.length ≤ LIM then .ok (.own (.val (.tup ws))) σ else .stuck := id rfl
def kLst (r : RT (List TV)) : RT Op := r.bind fun ws σ1 => if ws.length ≤ LIM then .ok (.own (.live ws)) σ1 else .stuck
@[simp] theorem kLst_ok (ws : List TV) : kLst (.ok ws σ) = if ws.length ≤ LIM then .ok (.own (.live ws)) σ else .stuck := id rfl
@[simp] theorem xtup (es : MEs) : evT cf (.tup es) σ = kTup (kFs (evTs cf es σ)) := id rfl
@[simp] theorem xlst (es : MEs) : evT cf (.lst es) σ = kLst (kFs (evTs cf es σ)) := id rfl
@[simp] theorem xbin (op : Operator) (a b : ME) : evT cf (.bin op a b) σ = f2 cf (binT op) b (evT cf a σ) := id rfl
@[simp] theorem xneg (a : ME) : evT cf (.neg a) σ = k1 negT (evT cf a σ) := id rfl
@[simp] theorem xnot (a : ME) : evT cf (.not a) σ = k1 notT (evT cf a σ) := id rfl
@[simp] theorem xcmp (op : CmpOp) (a b : ME) : evT cf (.cmp op a b) σ = f2 cf (cmpT op) b (evT cf a σ) := id rfl
def kCh3 (op' : CmpOp) (y : Op) (c : ME) (σ2 : SS) (o : Option SV) : RT Op :=
  match o with
  | some (.val (.bl true)) => k2b (cmpT op') y (evT cf c σ2)
  | some (.val (.bl false)) => .ok (.own (.val (.bl false))) σ2
  | _ => .stuck
@[simp] theorem kCh3_t (op' : CmpOp) (y : Op) (c : ME) : kCh3 cf op' y c σ (some (.val (.bl true))) = k2b (cmpT op') y (evT cf c σ) := id rfl
@[simp] theorem kCh3_f (op' : CmpOp) (y : Op) (c : ME) : kCh3 cf op' y c σ (some (.val (.bl false))) = .ok (.own (.val (.bl false))) σ := id rfl
theorem kCh3_b (op' : CmpOp) (y : Op) (c : ME) (t : Bool) : kCh3 cf op' y c σ (some (.val (.bl t))) = if t then k2b (cmpT op') y (evT cf c σ) else .ok (.own (.val (.bl false))) σ := by cases t <;> rfl
def kCh2 (op op' : CmpOp) (x : Op) (c : ME) (r : RT Op) : RT Op := r.bind fun y σ2 => kCh3 cf op' y c σ2 ((look σ2 x).bind fun v => (look σ2 y).bind fun w => cmpT op v w)
@[simp] theorem kCh2_ok (op op' : CmpOp) (x y : Op) (c : ME) : kCh2 cf op op' x c (.ok y σ) = kCh3 cf op' y c σ (ob (look σ x) fun v => ob (look σ y) fun w => cmpT op v w) := id rfl
def kCh1 (op op' : CmpOp) (b c : ME) (r : RT Op) : RT Op := r.bind fun x σ1 => kCh2 cf op op' x c (evT cf b σ1)
@[simp] theorem kCh1_ok (op op' : CmpOp) (b c : ME) (x : Op) : kCh1 cf op op' b c (.ok x σ) = kCh2 cf op op' x c (evT cf b σ) := id rfl
@[simp] theorem xchain (op op' : CmpOp) (a b c : ME) : evT cf (.chain op op' a b c) σ = kCh1 cf op op' b c (evT cf a σ) := by
  show (evT cf a σ).bind _ = _
  unfold kCh1 kCh2
  congr 1
@[simp] theorem xand (es : MEs) : evT cf (.and es) σ = evAndT cf es σ := id rfl
@[simp] theorem xor (es : MEs) : evT cf (.or es) σ = evOrT cf es σ := id rfl
def kAnd2 (o : Op) (es : MEs) (r : RT Bool) : RT Op := r.bind fun t σ2 => if t then evAndT cf es σ2 else .ok o σ2
@[simp] theorem kAnd2_ok (o : Op) (es : MEs) (t : Bool) : kAnd2 cf o es (.ok t σ) = if t then evAndT cf es σ else .ok o σ := id rfl
def kAnd1 (es : MEs) (r : RT Op) : RT Op := r.bind fun o σ1 => kAnd2 cf o es (trT o σ1)
@[simp] theorem kAnd1_ok (es : MEs) (o : Op) : kAnd1 cf es (.ok o σ) = kAnd2 cf o es (trT o σ) := id rfl
def kOr2 (o : Op) (es : MEs) (r : RT Bool) : RT Op := r.bind fun t σ2 => if t then .ok o σ2 else evOrT cf es σ2
@[simp] theorem kOr2_ok (o : Op) (es : MEs) (t : Bool) : kOr2 cf o es (.ok t σ) = if t then .ok o σ else evOrT cf es σ := id rfl
def kOr1 (es : MEs) (r : RT Op) : RT Op := r.bind fun o σ1 => kOr2 cf o es (trT o σ1)
@[simp] theorem kOr1_ok (es : MEs) (o : Op) : kOr1 cf es (.ok o σ) = kOr2 cf o es (trT o σ) := id rfl
@[simp] theorem xand1 (a : ME) : evAndT cf (.cons a .nil) σ = evT cf a σ := id rfl
@[simp] theorem xand2 (a b : ME) (es : MEs) : evAndT cf (.cons a (.cons b es)) σ = kAnd1 cf (.cons b es) (evT cf a σ) := id rfl
@[simp] theorem xor1 (a : ME) : evOrT cf (.cons a .nil) σ = evT cf a σ := id rfl
@[simp] theorem xor2 (a b : ME) (es : MEs) : evOrT cf (.cons a (.cons b es)) σ = kOr1 cf (.cons b es) (evT cf a σ) := id rfl
def kIfe (a b : ME) (r : RT Bool) : RT Op := r.bind fun t σ1 => if t then evT cf a σ1 else evT cf b σ1
@[simp] theorem kIfe_ok (a b : ME) (t : Bool) : kIfe cf a b (.ok t σ) = if t then evT cf a σ else evT cf b σ := id rfl
@[simp] theorem xife (c a b : ME) : evT cf (.ife c a b) σ = kIfe cf a b (kTr (evT cf c σ)) := id rfl
@[simp] theorem xix (a b : ME) : evT cf (.ix a b) σ = f2 cf ixT b (evT cf a σ) := id rfl
@[simp] theorem xstp (a b : ME) : evT cf (.stp a b) σ = f2 cf stpT b (evT cf a σ) := id rfl
def kSl0 (r : RT Op) : RT Op := r.bind fun x σ1 => oT ((look σ1 x).bind fun v => slT v none none) σ1
@[simp] theorem kSl0_ok (x : Op) : kSl0 (.ok x σ) = oT (ob (look σ x) fun v => slT v none none) σ := id rfl
@[simp] theorem xsl0 (a : ME) : evT cf (.sl a .none .none) σ = kSl0 (evT cf a σ) := id rfl
@[simp] theorem xsl1 (a l : ME) : evT cf (.sl a (.some l) .none) σ = f2 cf sl1 l (evT cf a σ) := id rfl
@[simp] theorem xsl2 (a h : ME) : evT cf (.sl a .none (.some h)) σ = f2 cf sl2 h (evT cf a σ) := id rfl
def kSl3 (x : Op) (h : ME) (σ2 : SS) (o : Option Int) : RT Op :=
  match o with
  | some i => k2b (sl3 i) x (evT cf h σ2)
  | none => .stuck
@[simp] theorem kSl3_some (x : Op) (h : ME) (i : Int) : kSl3 cf x h σ (some i) = k2b (sl3 i) x (evT cf h σ) := id rfl
def kSl2 (x : Op) (h : ME) (r : RT Op) : RT Op := r.bind fun y σ2 => kSl3 cf x h σ2 ((look σ2 y).bind toI)
@[simp] theorem kSl2_ok (x : Op) (h : ME) (y : Op) : kSl2 cf x h (.ok y σ) = kSl3 cf x h σ (ob (look σ y) toI) := id rfl
def kSl1 (l h : ME) (r : RT Op) : RT Op := r.bind fun x σ1 => kSl2 cf x h (evT cf l σ1)
@[simp] theorem kSl1_ok (l h : ME) (x : Op) : kSl1 cf l h (.ok x σ) = kSl2 cf x h (evT cf l σ) := id rfl
@[simp] theorem xsl3 (a l h : ME) : evT cf (.sl a (.some l) (.some h)) σ = kSl1 cf l h (evT cf a σ) := by
  show (evT cf a σ).bind _ = _
  unfold kSl1 kSl2
  congr 1
def kC (f : Nat) (r : RT (List Op)) : RT Op := r.bind fun os σ1 => callT cf f os σ1
@[simp] theorem kC_ok (f : Nat) (os : List Op) : kC cf f (.ok os σ) = callT cf f os σ := id rfl
@[simp] theorem xcall (f : Nat) (es : MEs) : evT cf (.call f es) σ = kC cf f (evTs cf es σ) := id rfl
def kCn (f : Nat) (r : RT (List TV)) : RT Op := r.bind fun ws σ1 => backN σ1 (cf f (ws.map SV.val))
@[simp] theorem kCn_ok (f : Nat) (ws : List TV) : kCn cf f (.ok ws σ) = backN σ (cf f (ws.map SV.val)) := id rfl
def kCj (f i : Nat) (σ1 : SS) (ws : List TV) (o : Option SV) : RT Op :=
  match o with
  | some s => backT i σ1 (cf f (s :: ws.map SV.val))
  | none => .stuck
@[simp] theorem kCj_some (f i : Nat) (ws : List TV) (s : SV) : kCj cf f i σ ws (some s) = backT i σ (cf f (s :: ws.map SV.val)) := id rfl
def kCi (f i : Nat) (r : RT (List TV)) : RT Op := r.bind fun ws σ1 => kCj cf f i σ1 ws (rd σ1 i)
@[simp] theorem kCi_ok (f i : Nat) (ws : List TV) : kCi cf f i (.ok ws σ) = kCj cf f i σ ws (rd σ i) := id rfl
def kCo (f : Nat) (s : SV) (σ1 : SS) (o : Option (List TV)) : RT Op :=
  match o with
  | some ws => backN σ1 (cf f (s :: ws.map SV.val))
  | none => .stuck
@[simp] theorem kCo_some (f : Nat) (s : SV) (ws : List TV) : kCo cf f s σ (some ws) = backN σ (cf f (s :: ws.map SV.val)) := id rfl
def callI (f : Nat) : List Op → SS → RT Op
  | .bor i :: os, σ => kCi cf f i (frTs os σ)
  | .own s :: os, σ => kCo cf f s σ (valsT os)
  | [], _ => .stuck
@[simp] theorem callI_bor (f i : Nat) (os : List Op) : callI cf f (.bor i :: os) σ = kCi cf f i (frTs os σ) := id rfl
@[simp] theorem callI_own (f : Nat) (s : SV) (os : List Op) : callI cf f (.own s :: os) σ = kCo cf f s σ (valsT os) := id rfl
@[simp] theorem valsT_nil : valsT [] = some [] := id rfl
@[simp] theorem valsT_cons (w : TV) (os : List Op) : valsT (.own (.val w) :: os) = om (valsT os) (w :: ·) := id rfl
def kCk (f : Nat) (σ0 : SS) (r : RT (List TV)) : RT Op := r.bind fun ws _ => backK σ0 (cf f (ws.map SV.val))
@[simp] theorem kCk_ok (f : Nat) (σ0 : SS) (ws : List TV) : kCk cf f σ0 (.ok ws σ) = backK σ0 (cf f (ws.map SV.val)) := id rfl
@[simp] theorem backK_ok (t : TV) (σ1 : SS) : backK σ (.ok (.val t) σ1) = if shT t then .ok (.own (.val t)) σ else .stuck := id rfl
@[simp] theorem keepF_eq (f : Nat) : keepF f = (f == 301) := id rfl
@[simp] theorem shT_bl (b : Bool) : shT (.bl b) = true := id rfl
@[simp] theorem shT_int (b : Int) : shT (.int b) = true := id rfl
@[simp] theorem callT_eq (f : Nat) (os : List Op) : callT cf f os σ = if 10000 ≤ f then callI cf f os σ else if keepF f then kCk cf f σ (frTs os σ) else kCn cf f (frTs os σ) := by
  unfold callT
  show (if 10000 ≤ f then _ else _) = _
  by_cases h : 10000 ≤ f
  · rw [if_pos h, if_pos h]
    cases os with
    | nil => rfl
    | cons o os =>
      cases o with
      | bor i =>
        show (frTs os σ).bind _ = (frTs os σ).bind _
        congr 1
      | own s =>
        show (match valsT os with | some ws => _ | none => _) = kCo cf f s σ (valsT os)
        cases valsT os <;> rfl
  · rw [if_neg h, if_neg h]
    by_cases q : keepF f = true
    · rw [if_pos q, if_pos q]; rfl
    · rw [if_neg q, if_neg q]; rfl
@[simp] theorem backT_ok (i : Nat) (s : SV) (o : Option SV) : backT i σ (.ok s [o]) = .ok (.own s) (σ.set i o) := id rfl
@[simp] theorem backT_exc (i : Nat) (s : TV) (o : Option SV) : backT i σ (.exc s [o]) = .exc s (σ.set i o) := id rfl
@[simp] theorem backN_ok (s : SV) (σ1 : SS) : backN σ (.ok s σ1) = .ok (.own s) σ := id rfl
@[simp] theorem backN_exc (s : TV) (σ1 : SS) : backN σ (.exc s σ1) = .exc s σ := id rfl
@[simp] theorem xbc (f : BF) (es : MEs) : evT cf (.bcall f es) σ = kB f (evTs cf es σ) := id rfl
def kM2 (m : MF) (x : Op) (r : RT (List Op)) : RT Op := r.bind fun os σ2 => methK m x os σ2
@[simp] theorem kM2_ok (m : MF) (x : Op) (os : List Op) : kM2 m x (.ok os σ) = methK m x os σ := id rfl
def kM1 (m : MF) (es : MEs) (r : RT Op) : RT Op := r.bind fun x σ1 => if recvT m (look σ1 x) then kM2 m x (evTs cf es σ1) else .stuck
@[simp] theorem kM1_ok (m : MF) (es : MEs) (x : Op) : kM1 cf m es (.ok x σ) = if recvT m (look σ x) then kM2 m x (evTs cf es σ) else .stuck := id rfl
@[simp] theorem xm (m : MF) (o : ME) (es : MEs) : evT cf (.meth m o es) σ = kM1 cf m es (evT cf o σ) := id rfl
def kMw (i : Nat) (σ1 : SS) (o : Option (TV × List TV)) : RT Op :=
  match o with
  | some (w, ys) => .ok (.own (.val w)) (σ1.set i (some (.live ys)))
  | none => .stuck
@[simp] theorem kMw_some (i : Nat) (w : TV) (ys : List TV) : kMw i σ (some (w, ys)) = .ok (.own (.val w)) (σ.set i (some (.live ys))) := id rfl
def kMv (m : MF) (i : Nat) (σ1 : SS) (ws : List TV) (o : Option SV) : RT Op :=
  match o with
  | some (.live xs) => kMw i σ1 (mutT m xs ws)
  | _ => .stuck
@[simp] theorem kMv_live (m : MF) (i : Nat) (ws xs : List TV) : kMv m i σ ws (some (.live xs)) = kMw i σ (mutT m xs ws) := id rfl
def kMu (m : MF) (i : Nat) (r : RT (List TV)) : RT Op := r.bind fun ws σ1 => kMv m i σ1 ws (rd σ1 i)
@[simp] theorem kMu_ok (m : MF) (i : Nat) (ws : List TV) : kMu m i (.ok ws σ) = kMv m i σ ws (rd σ i) := id rfl
@[simp] theorem mutK_bor (m : MF) (i : Nat) (os : List Op) : mutK m (.bor i) os σ = kMu m i (frTs os σ) := by
  show (frTs os σ).bind _ = (frTs os σ).bind _
  congr 1
@[simp] theorem mK_app (x : Op) (os : List Op) : methK .append x os σ = mutK .append x os σ := id rfl
@[simp] theorem mK_ext (x : Op) (os : List Op) : methK .extend x os σ = mutK .extend x os σ := id rfl
@[simp] theorem mK_pop (x : Op) (os : List Op) : methK .pop x os σ = mutK .pop x os σ := id rfl
@[simp] theorem mK_rev (x : Op) (os : List Op) : methK .reverse x os σ = mutK .reverse x os σ := id rfl
@[simp] theorem mK_clr (x : Op) (os : List Op) : methK .clear x os σ = mutK .clear x os σ := id rfl
@[simp] theorem mK_ix (x : Op) (os : List Op) : methK .index x os σ = oT (ob (look σ x) fun v => ob (lookL σ os) fun ws => methT .index v ws) σ := id rfl
@[simp] theorem recv_ix_t (xs : List TV) : recvT .index (some (.tup xs)) = true := id rfl
@[simp] theorem recv_l (m : MF) (xs : List TV) : recvT m (some (.lst xs)) = match m with | .join => false | _ => true := by cases m <;> rfl
@[simp] theorem recv_r (m : MF) (xs : List TV) : recvT m (some (.rol xs)) = match m with | .join => false | _ => true := by cases m <;> rfl
def kIsi (ts : List TyK) (c : Prop) [Decidable c] (r : RT Op) : RT Op := if c then k1 (isiT ts) r else .stuck
@[simp] theorem xisi (e : ME) (ts : List TyK) (b : Bool) : evT cf (.isi e ts b) σ = if ts.length ≤ LIM then k1 (isiT ts) (evT cf e σ) else .stuck := id rfl
def kLc (own : List Nat) (g : MG) (cnd : MEo) (elt : ME) (r : RT (List TV)) : RT Op := r.bind fun xs σ1 => lcK own g (evCT cf cnd) (fun σ => evT cf elt σ) xs σ1
def lcE (r : RT (List TV)) : RT Op := r.bind fun acc σ' => .ok (.own (.live acc)) σ'
@[simp] theorem lcE_ok (acc : List TV) : lcE (.ok acc σ) = .ok (.own (.live acc)) σ := id rfl
@[simp] theorem kLc_ok (own : List Nat) (g : MG) (cnd : MEo) (elt : ME) (xs : List TV) : kLc cf own g cnd elt (.ok xs σ) = if noLive σ own && gIn own g then lcE (lcT own g (evCT cf cnd) (evT cf elt) xs [] σ) else .stuck := id rfl
@[simp] theorem xlc (own : List Nat) (g : MG) (it : MI) (cnd : MEo) (elt : ME) : evT cf (.lc own g it cnd elt) σ = kLc cf own g cnd elt (evIT cf it σ) := id rfl
def kCL2 (args : MEs) (o : Option Nat) (σ : SS) : RT Op := match o with
  | some f => kC cf f (evTs cf args σ)
  | none => .stuck
@[simp] theorem kCL2_some (args : MEs) (f : Nat) : kCL2 cf args (some f) σ = kC cf f (evTs cf args σ) := id rfl
def kCL (fs : List Nat) (args : MEs) (r : RT Op) : RT Op := r.bind fun x σ1 => kCL2 cf args ((look σ1 x).bind (fnAtT fs)) σ1
@[simp] theorem kCL_own (fs : List Nat) (args : MEs) (t : TV) : kCL cf fs args (.ok (.own (.val t)) σ) = kCL2 cf args (fnAtT fs t) σ := id rfl
@[simp] theorem xcallL (fs : List Nat) (i : ME) (args : MEs) : evT cf (.callL fs i args) σ = kCL cf fs args (evT cf i σ) := id rfl
@[simp] theorem xcix (i : Nat) (e : ME) : evT cf (.cix i e) σ = k1 (cixT i) (evT cf e σ) := id rfl
@[simp] theorem xcN : evCT cf .none = none := id rfl
@[simp] theorem xcS (e : ME) : evCT cf (.some e) = some (evT cf e) := id rfl
def kE2 (o : Op) (r : RT (List Op)) : RT (List Op) := r.bind fun os σ2 => .ok (o :: os) σ2
@[simp] theorem kE2_ok (o : Op) (os : List Op) : kE2 o (.ok os σ) = .ok (o :: os) σ := id rfl
def kE1 (es : MEs) (r : RT Op) : RT (List Op) := r.bind fun o σ1 => kE2 o (evTs cf es σ1)
@[simp] theorem kE1_ok (es : MEs) (o : Op) : kE1 cf es (.ok o σ) = kE2 o (evTs cf es σ) := id rfl
@[simp] theorem xesN : evTs cf .nil σ = .ok [] σ := id rfl
@[simp] theorem xesC (e : ME) (es : MEs) : evTs cf (.cons e es) σ = kE1 cf es (evT cf e σ) := id rfl
def kSeq (r : RT TV) : RT (List TV) := r.bind fun w σ1 => optT (seqT w) σ1
@[simp] theorem kSeq_ok (w : TV) : kSeq (.ok w σ) = optT (seqT w) σ := id rfl
def kEnum (r : RT TV) : RT (List TV) := r.bind fun w σ1 => optT (w.seq.map (enumT 0)) σ1
@[simp] theorem kEnum_ok (w : TV) : kEnum (.ok w σ) = optT (om w.seq (enumT 0)) σ := id rfl
def kR1 (r : RT Op) : RT (List TV) := r.bind fun x σ1 => optT ((look σ1 x).bind rng1) σ1
@[simp] theorem kR1_ok (x : Op) : kR1 (.ok x σ) = optT (ob (look σ x) rng1) σ := id rfl
def kR2b (x : Op) (r : RT Op) : RT (List TV) := r.bind fun y σ2 => optT ((look σ2 x).bind fun v => (look σ2 y).bind fun w => rng2 v w) σ2
@[simp] theorem kR2b_ok (x y : Op) : kR2b x (.ok y σ) = optT (ob (look σ x) fun v => ob (look σ y) fun w => rng2 v w) σ := id rfl
def kR2 (b : ME) (r : RT Op) : RT (List TV) := r.bind fun x σ1 => kR2b x (evT cf b σ1)
@[simp] theorem kR2_ok (b : ME) (x : Op) : kR2 cf b (.ok x σ) = kR2b x (evT cf b σ) := id rfl
def kZ3 (r : RT (List TV)) : RT (List TV) := r.bind fun ws σ3 => (match ws with
    | [v, w] => optT (zip2T v w) σ3
    | _ => .stuck)
@[simp] theorem kZ3_ok (v w : TV) : kZ3 (.ok [v, w] σ) = optT (zip2T v w) σ := id rfl
def kZ2 (x : Op) (r : RT Op) : RT (List TV) := r.bind fun y σ2 => kZ3 (frTs [x, y] σ2)
@[simp] theorem kZ2_ok (x y : Op) : kZ2 x (.ok y σ) = kZ3 (frTs [x, y] σ) := id rfl
def kZ1 (b : ME) (r : RT Op) : RT (List TV) := r.bind fun x σ1 => kZ2 x (evT cf b σ1)
@[simp] theorem kZ1_ok (b : ME) (x : Op) : kZ1 cf b (.ok x σ) = kZ2 x (evT cf b σ) := id rfl
@[simp] theorem xiS (e : ME) : evIT cf (.seq e) σ = kSeq (kF (evT cf e σ)) := id rfl
@[simp] theorem xiE (e : ME) : evIT cf (.enum e) σ = kEnum (kF (evT cf e σ)) := id rfl
@[simp] theorem xiR (e : ME) : evIT cf (.range1 e) σ = kR1 (evT cf e σ) := id rfl
@[simp] theorem xiR2 (a b : ME) : evIT cf (.range2 a b) σ = kR2 cf b (evT cf a σ) := id rfl
@[simp] theorem xiZ (a b : ME) : evIT cf (.zip a b) σ = kZ1 cf b (evT cf a σ) := id rfl
-- statements
def sA (i : Nat) (r : RT SV) : RT FlowT := r.bind fun s σ1 => .ok .next (σ1.set i (some s))
@[simp] theorem sA_ok (i : Nat) (s : SV) : sA i (.ok s σ) = .ok .next (σ.set i (some s)) := id rfl
@[simp] theorem yasg (i : Nat) (e : ME) : evST cf (.asg i e) σ = sA i (kMvv (evT cf e σ)) := id rfl
def sT2 (r : RT SS) : RT FlowT := r.bind fun σ2 _ => .ok .next σ2
@[simp] theorem sT2_ok (σ2 : SS) : sT2 (.ok σ2 σ) = .ok .next σ2 := id rfl
def sT (g : MG) (r : RT TV) : RT FlowT := r.bind fun w σ1 => sT2 (optT (asgG g w σ1) σ1)
@[simp] theorem sT_ok (g : MG) (w : TV) : sT g (.ok w σ) = sT2 (optT (asgG g w σ) σ) := id rfl
@[simp] theorem yasgT (g : MG) (e : ME) : evST cf (.asgT g e) σ = sT g (kF (evT cf e σ)) := id rfl
def sP (i j : Nat) (r : RT (List TV)) : RT FlowT := r.bind fun ws σ1 => (match ws with
    | [v, w] => .ok .next ((σ1.set i (some (.val v))).set j (some (.val w)))
    | _ => .stuck)
@[simp] theorem sP_ok (i j : Nat) (v w : TV) : sP i j (.ok [v, w] σ) = .ok .next ((σ.set i (some (.val v))).set j (some (.val w))) := id rfl
@[simp] theorem ypar (i j : Nat) (es : MEs) : evST cf (.par i j es) σ = sP i j (kFs (evTs cf es σ)) := id rfl
def sP3 (i j l : Nat) (r : RT (List TV)) : RT FlowT := r.bind fun ws σ1 => (match ws with
    | [v, w, u] => .ok .next (((σ1.set i (some (.val v))).set j (some (.val w))).set l (some (.val u)))
    | _ => .stuck)
@[simp] theorem sP3_ok (i j l : Nat) (v w u : TV) : sP3 i j l (.ok [v, w, u] σ) = .ok .next (((σ.set i (some (.val v))).set j (some (.val w))).set l (some (.val u))) := id rfl
@[simp] theorem ypar3 (i j l : Nat) (es : MEs) : evST cf (.par3 i j l es) σ = sP3 i j l (kFs (evTs cf es σ)) := id rfl
def setP (j : Nat) (σ : SS) (xs : List TV) (w : TV) (o : Option Nat) : RT FlowT :=
  match o with
  | some k => .ok .next (σ.set j (some (.live (xs.set k w))))
  | none => .stuck
@[simp] theorem setP_some (j : Nat) (xs : List TV) (w : TV) (k : Nat) : setP j σ xs w (some k) = .ok .next (σ.set j (some (.live (xs.set k w)))) := id rfl
def setQ (j : Nat) (σ : SS) (w : TV) (o : Option SV) (p : Option Int) : RT FlowT :=
  match o, p with
  | some (.live xs), some i => setP j σ xs w (ixOf xs.length i)
  | _, _ => .stuck
@[simp] theorem setQ_some (j : Nat) (w : TV) (xs : List TV) (i : Int) : setQ j σ w (some (.live xs)) (some i) = setP j σ xs w (ixOf xs.length i) := id rfl
@[simp] theorem setK_bor (j : Nat) (w : TV) (iv : Op) : setK (.bor j) w iv σ = setQ j σ w (rd σ j) (ob (look σ iv) toI) := by
  unfold setK setQ ob
  simp only
  cases rd σ j with
  | none => rfl
  | some s =>
    cases s with
    | val t => rfl
    | live xs =>
      cases (look σ iv).bind toI with
      | none => rfl
      | some i =>
        show (match ixOf xs.length i with | some k => RT.ok FlowT.next (σ.set j (some (.live (xs.set k w)))) | none => .stuck) = setP j σ xs w (ixOf xs.length i)
        cases ixOf xs.length i <;> rfl
def sS3 (x : Op) (w : TV) (r : RT Op) : RT FlowT := r.bind fun y σ3 => setK x w y σ3
@[simp] theorem sS3_ok (x : Op) (w : TV) (y : Op) : sS3 x w (.ok y σ) = setK x w y σ := id rfl
def sS2 (i : ME) (w : TV) (r : RT Op) : RT FlowT := r.bind fun x σ2 => sS3 x w (evT cf i σ2)
@[simp] theorem sS2_ok (i : ME) (w : TV) (x : Op) : sS2 cf i w (.ok x σ) = sS3 x w (evT cf i σ) := id rfl
def sS1 (o i : ME) (r : RT TV) : RT FlowT := r.bind fun w σ1 => sS2 cf i w (evT cf o σ1)
@[simp] theorem sS1_ok (o i : ME) (w : TV) : sS1 cf o i (.ok w σ) = sS2 cf i w (evT cf o σ) := id rfl
def sW2 (o2 i2 : ME) (u : TV) (r : RT FlowT) : RT FlowT := r.bind fun f σ4 => match f with
  | .next => sS2 cf i2 u (evT cf o2 σ4)
  | f => .ok f σ4
@[simp] theorem sW2_ok (o2 i2 : ME) (u : TV) : sW2 cf o2 i2 u (.ok .next σ) = sS2 cf i2 u (evT cf o2 σ) := id rfl
def sW1 (o i o2 i2 : ME) (r : RT TV) : RT FlowT := r.bind fun w σ1 => match w with
  | .tup [t, u] => sW2 cf o2 i2 u (sS2 cf i t (evT cf o σ1))
  | _ => .stuck
@[simp] theorem sW1_ok (o i o2 i2 : ME) (t u : TV) : sW1 cf o i o2 i2 (.ok (.tup [t, u]) σ) = sW2 cf o2 i2 u (sS2 cf i t (evT cf o σ)) := id rfl
@[simp] theorem yswp (o i o2 i2 e : ME) : evST cf (.swp o i o2 i2 e) σ = sW1 cf o i o2 i2 (kF (evT cf e σ)) := id rfl
@[simp] theorem ysetix (o i e : ME) : evST cf (.setix o i e) σ = sS1 cf o i (kF (evT cf e σ)) := id rfl
def sE (r : RT Op) : RT FlowT := r.bind fun _ σ1 => .ok .next σ1
@[simp] theorem sE_ok (o : Op) : sE (.ok o σ) = .ok .next σ := id rfl
@[simp] theorem yexpr (e : ME) : evST cf (.expr e) σ = sE (evT cf e σ) := id rfl
def sR (r : RT SV) : RT FlowT := r.bind fun s σ1 => .ok (.ret s) σ1
@[simp] theorem sR_ok (s : SV) : sR (.ok s σ) = .ok (.ret s) σ := id rfl
@[simp] theorem yret (e : ME) : evST cf (.ret e) σ = sR (kMvv (evT cf e σ)) := id rfl
def sI (a b : MSs) (r : RT Bool) : RT FlowT := r.bind fun t σ1 => if t then evSsT cf a σ1 else evSsT cf b σ1
@[simp] theorem sI_ok (a b : MSs) (t : Bool) : sI cf a b (.ok t σ) = if t then evSsT cf a σ else evSsT cf b σ := id rfl
@[simp] theorem yife (c : ME) (a b : MSs) : evST cf (.ife c a b) σ = sI cf a b (kTr (evT cf c σ)) := id rfl
def sF (g : MG) (b : MSs) (r : RT (List TV)) : RT FlowT := r.bind fun xs σ1 => forT g (fun σ => evSsT cf b σ) xs σ1
@[simp] theorem sF_ok (g : MG) (b : MSs) (xs : List TV) : sF cf g b (.ok xs σ) = forT g (evSsT cf b) xs σ := id rfl
@[simp] theorem yfor (g : MG) (it : MI) (b : MSs) : evST cf (.for_ g it b) σ = sF cf g b (evIT cf it σ) := id rfl
@[simp] theorem ywhile (c : ME) (b : MSs) : evST cf (.while_ c b) σ = whileT (evT cf c) (evSsT cf b) WF σ := id rfl
@[simp] theorem ypass : evST cf .pass σ = .ok .next σ := id rfl
@[simp] theorem ybrk : evST cf .brk σ = .ok .brk σ := id rfl
@[simp] theorem ycont : evST cf .cont σ = .ok .cont σ := id rfl
def sQ (ss : MSs) (r : RT FlowT) : RT FlowT := r.bind fun f σ1 => (match f with
    | .next => evSsT cf ss σ1
    | f => .ok f σ1)
@[simp] theorem sQ_next (ss : MSs) : sQ cf ss (.ok .next σ) = evSsT cf ss σ := id rfl
@[simp] theorem sQ_ret (ss : MSs) (s : SV) : sQ cf ss (.ok (.ret s) σ) = .ok (.ret s) σ := id rfl
@[simp] theorem sQ_brk (ss : MSs) : sQ cf ss (.ok .brk σ) = .ok .brk σ := id rfl
@[simp] theorem sQ_cont (ss : MSs) : sQ cf ss (.ok .cont σ) = .ok .cont σ := id rfl
@[simp] theorem sQ_exc (ss : MSs) (e : TV) : sQ cf ss (.exc e σ) = .exc e σ := id rfl
@[simp] theorem yN : evSsT cf .nil σ = .ok .next σ := id rfl
@[simp] theorem yC (s : MS) (ss : MSs) : evSsT cf (.cons s ss) σ = sQ cf ss (evST cf s σ) := id rfl
end
-- values
@[simp] theorem vI_eq (i : Int) : vI i = some (.val (.int i)) := id rfl
@[simp] theorem vB_eq (i : Bool) : vB i = some (.val (.bl i)) := id rfl
@[simp] theorem b_add (i j : Int) : binT .Add (.int i) (.int j) = some (.val (.int (i + j))) := id rfl
@[simp] theorem b_sub (i j : Int) : binT .Sub (.int i) (.int j) = some (.val (.int (i - j))) := id rfl
@[simp] theorem b_mul (i j : Int) : binT .Mult (.int i) (.int j) = if isMul i j then some (.val (.int (i * j))) else none := id rfl
@[simp] theorem b_div (i j : Int) : binT .FloorDiv (.int i) (.int j) = if 0 < j ∧ j < 1073741824 then some (.val (.int (i / j))) else none := id rfl
@[simp] theorem b_mod (i j : Int) : binT .Mod (.int i) (.int j) = if 0 < j then some (.val (.int (i % j))) else none := id rfl
@[simp] theorem b_shl (i j : Int) : binT .LShift (.int i) (.int j) = if 0 ≤ j ∧ j ≤ 1000000 ∧ i.natAbs < 2 ^ 64 then some (.val (.int (i * 2 ^ j.toNat))) else none := id rfl
@[simp] theorem b_shr (i j : Int) : binT .RShift (.int i) (.int j) = if 0 ≤ j then some (.val (.int (i / 2 ^ j.toNat))) else none := id rfl
@[simp] theorem b_or (i j : Int) : binT .BitOr (.int i) (.int j) = some (.val (.int (Builtin.bitOr i j))) := id rfl
@[simp] theorem b_and (i j : Int) : binT .BitAnd (.int i) (.int j) = some (.val (.int (Builtin.bitAnd i j))) := id rfl
@[simp] theorem b_tup (xs ys : List TV) : binT .Add (.tup xs) (.tup ys) = if xs.length + ys.length ≤ LIM then some (.val (.tup (xs ++ ys))) else none := id rfl
@[simp] theorem b_lst (xs ys : List TV) : binT .Add (.lst xs) (.lst ys) = if xs.length + ys.length ≤ LIM then some (.live (xs ++ ys)) else none := id rfl
@[simp] theorem c_lt (i j : Int) : cmpT .Lt (.int i) (.int j) = some (.val (.bl (decide (i < j)))) := id rfl
@[simp] theorem c_le (i j : Int) : cmpT .LtE (.int i) (.int j) = some (.val (.bl (decide (i ≤ j)))) := id rfl
@[simp] theorem c_gt (i j : Int) : cmpT .Gt (.int i) (.int j) = some (.val (.bl (decide (j < i)))) := id rfl
@[simp] theorem c_ge (i j : Int) : cmpT .GtE (.int i) (.int j) = some (.val (.bl (decide (j ≤ i)))) := id rfl
@[simp] theorem c_eq (i j : Int) : cmpT .Eq (.int i) (.int j) = some (.val (.bl (i == j))) := id rfl
@[simp] theorem c_ne (i j : Int) : cmpT .NotEq (.int i) (.int j) = some (.val (.bl (!(i == j)))) := id rfl
@[simp] theorem c_is (v : TV) : cmpT .Is v .non = some (.val (.bl (isNonT v))) := id rfl
@[simp] theorem c_isb (a b : Bool) : cmpT .Is (.bl a) (.bl b) = some (.val (.bl (decide (a = b)))) := id rfl
@[simp] theorem c_isnb (a b : Bool) : cmpT .IsNot (.bl a) (.bl b) = some (.val (.bl (!decide (a = b)))) := id rfl
@[simp] theorem c_isnot (v : TV) : cmpT .IsNot v .non = some (.val (.bl (!isNonT v))) := id rfl
@[simp] theorem nonT_non : isNonT .non = true := id rfl
@[simp] theorem nonT_tup (xs : List TV) : isNonT (.tup xs) = false := id rfl
@[simp] theorem nonT_int (xs : Int) : isNonT (.int xs) = false := id rfl
@[simp] theorem nonT_lst (xs : List TV) : isNonT (.lst xs) = false := id rfl
@[simp] theorem t_bl (b : Bool) : truthT (.bl b) = some b := id rfl
@[simp] theorem t_int (b : Int) : truthT (.int b) = some (b != 0) := id rfl
@[simp] theorem not_bl (b : Bool) : notT (.bl b) = some (.val (.bl (!b))) := id rfl
@[simp] theorem neg_int (b : Int) : negT (.int b) = some (.val (.int (-b))) := id rfl
@[simp] theorem len_t (xs : List TV) : bcallT .len [.tup xs] = some (.val (.int xs.length)) := id rfl
@[simp] theorem len_l (xs : List TV) : bcallT .len [.lst xs] = some (.val (.int xs.length)) := id rfl
@[simp] theorem len_r (xs : List TV) : bcallT .len [.rol xs] = some (.val (.int xs.length)) := id rfl
@[simp] theorem tup_l (xs : List TV) : bcallT .tuple [.lst xs] = some (.val (.tup xs)) := id rfl
@[simp] theorem tup_t (xs : List TV) : bcallT .tuple [.tup xs] = some (.val (.tup xs)) := id rfl
@[simp] theorem list_t (xs : List TV) : bcallT .list [.tup xs] = some (.live xs) := id rfl
@[simp] theorem list_l (xs : List TV) : bcallT .list [.lst xs] = some (.live xs) := id rfl
@[simp] theorem int_b (b : Bool) : bcallT .int [.bl b] = some (.val (.int (if b then 1 else 0))) := id rfl
@[simp] theorem int_i (b : Int) : bcallT .int [.int b] = some (.val (.int b)) := id rfl
@[simp] theorem tupRev_t (xs : List TV) : bcallT .tupRev [.tup xs] = some (.val (.tup xs.reverse)) := id rfl
@[simp] theorem tupRev_l (xs : List TV) : bcallT .tupRev [.lst xs] = some (.val (.tup xs.reverse)) := id rfl
@[simp] theorem max2_i (i j : Int) : bcallT .max2 [.int i, .int j] = some (.val (.int (if j > i then j else i))) := id rfl
@[simp] theorem min2_i (i j : Int) : bcallT .min2 [.int i, .int j] = some (.val (.int (if j < i then j else i))) := id rfl
@[simp] theorem rng1_i (j : Int) : rng1 (.int j) = if inRange j then some (rangeT 0 j) else none := id rfl
@[simp] theorem rng2_i (i j : Int) : rng2 (.int i) (.int j) = if inRange i && inRange j then some (rangeT i j) else none := id rfl
@[simp] theorem seqT_t (xs : List TV) : seqT (.tup xs) = some xs := id rfl
@[simp] theorem seqT_l (xs : List TV) : seqT (.lst xs) = some xs := id rfl
@[simp] theorem seqT_r (xs : List TV) : seqT (.rol xs) = some xs := id rfl
@[simp] theorem seq_t (xs : List TV) : (TV.tup xs).seq = some xs := id rfl
@[simp] theorem seq_l (xs : List TV) : (TV.lst xs).seq = some xs := id rfl
@[simp] theorem seq_r (xs : List TV) : (TV.rol xs).seq = some xs := id rfl
@[simp] theorem toI_i (i : Int) : toI (.int i) = some i := id rfl
@[simp] theorem mut_app (xs : List TV) (w : TV) : mutT .append xs [w] = if xs.length < LIM then some (.non, xs ++ [w]) else none := id rfl
@[simp] theorem mut_ext (xs ys : List TV) : mutT .extend xs [.lst ys] = if xs.length + ys.length ≤ LIM then some (.non, xs ++ ys) else none := id rfl
@[simp] theorem sl1_t (xs : List TV) (i : Int) : sl1 (.tup xs) (.int i) = some (.val (.tup (cutT xs (some i) none))) := id rfl
@[simp] theorem sl2_t (xs : List TV) (i : Int) : sl2 (.tup xs) (.int i) = some (.val (.tup (cutT xs none (some i)))) := id rfl
@[simp] theorem sl3_t (xs : List TV) (i j : Int) : sl3 i (.tup xs) (.int j) = some (.val (.tup (cutT xs (some i) (some j)))) := id rfl
@[simp] theorem zip_ll (xs ys : List TV) : zip2T (.lst xs) (.lst ys) = some (zipT xs ys) := id rfl
@[simp] theorem zip_lt (xs ys : List TV) : zip2T (.lst xs) (.tup ys) = some (zipT xs ys) := id rfl
@[simp] theorem zip_tt (xs ys : List TV) : zip2T (.tup xs) (.tup ys) = some (zipT xs ys) := id rfl
-- targets
@[simp] theorem asg_name (i : Nat) (v : TV) (σ : SS) : asgG (.name i) v σ = some (σ.set i (some (.val v))) := by simp [asgG]
@[simp] theorem asg_tup (gs : MGs) (vs : List TV) (σ : SS) : asgG (.tup gs) (.tup vs) σ = asgGs gs vs σ := by simp [asgG]
@[simp] theorem asgs_nil (σ : SS) : asgGs .nil [] σ = some σ := by simp [asgGs]
@[simp] theorem asgs_cons (g : MG) (gs : MGs) (v : TV) (vs : List TV) (σ : SS) : asgGs (.cons g gs) (v :: vs) σ = (asgG g v σ).bind (asgGs gs vs) := by simp [asgGs]
@[simp] theorem wipe_nil (σ : SS) : wipeT σ [] = σ := id rfl
@[simp] theorem wipe_cons (σ : SS) (v : Nat) (vs : List Nat) : wipeT σ (v :: vs) = (wipeT σ vs).set v none := id rfl
@[simp] theorem rest_nil (σ σ0 : SS) : restS σ0 [] σ = σ := id rfl
@[simp] theorem rest_cons (σ σ0 : SS) (v : Nat) (vs : List Nat) : restS σ0 (v :: vs) σ = (restS σ0 vs σ).set v (rd σ0 v) := id rfl
def isLv : Option SV → Bool
  | some (.live _) => true
  | _ => false
@[simp] theorem isLv_none : isLv none = false := id rfl
@[simp] theorem isLv_val (w : TV) : isLv (some (.val w)) = false := id rfl
@[simp] theorem noLive_nil (σ : SS) : noLive σ [] = true := id rfl
@[simp] theorem noLive_cons (σ : SS) (v : Nat) (vs : List Nat) : noLive σ (v :: vs) = (!isLv (rd σ v) && noLive σ vs) := by
  show ((match rd σ v with | some (.live _) => false | _ => true) && _) = _
  cases rd σ v with
  | none => rfl
  | some s => cases s <;> rfl
@[simp] theorem gIn_name (own : List Nat) (i : Nat) : gIn own (.name i) = own.contains i := by simp [gIn]
@[simp] theorem gIn_tup (own : List Nat) (gs : MGs) : gIn own (.tup gs) = gsIn own gs := by simp [gIn]
@[simp] theorem gsIn_nil (own : List Nat) : gsIn own .nil = true := by simp [gsIn]
@[simp] theorem gsIn_cons (own : List Nat) (g : MG) (gs : MGs) : gsIn own (.cons g gs) = (gIn own g && gsIn own gs) := by simp [gsIn]
-- defs
theorem run_atT {fs : List (Nat × Fn)} {f : Nat} {F : Fn} (hf : fs.lookup f = some F) (k : Nat) (vs : List SV) (hl : vs.length = F.np) : runT fs (k + 1) f vs = endT f (evSsT (runT fs k) F.body (startT F.nn vs)) := by
  simp only [runT, hf, hl, if_true]
@[simp] theorem end_ret (f : Nat) (s : SV) (σ : SS) : endT f (.ok (.ret s) σ) = .ok s (outT f σ) := id rfl
@[simp] theorem end_next (f : Nat) (σ : SS) : endT f (.ok .next σ) = .ok (.val .non) (outT f σ) := id rfl
@[simp] theorem end_exc (f : Nat) (e : TV) (σ : SS) : endT f (.exc e σ) = .exc e (outT f σ) := id rfl
@[simp] theorem out_eq (f : Nat) (σ : SS) : outT f σ = if 10000 ≤ f then [rd σ 0] else [] := id rfl
end Vt
end
section
set_option Elab.async false
set_option linter.all false
set_option maxRecDepth 100000
set_option maxHeartbeats 4000000
namespace Vt
open PySem Mn
/-! ### loops -/
def aT (g : MG) (body : SS → RT FlowT) (xs : List TV) (r : RT FlowT) : RT FlowT := r.bind fun f σ1 => afterT f σ1 (forT g body xs)
@[simp] theorem forT_nil (g : MG) (body : SS → RT FlowT) (σ : SS) : forT g body [] σ = .ok .next σ := id rfl
theorem forT_cons (g : MG) (body : SS → RT FlowT) (x : TV) (xs : List TV) (σ : SS) : forT g body (x :: xs) σ = (match asgG g x σ with | none => .stuck | some s => aT g body xs (body s)) := rfl
@[simp] theorem aT_next (g : MG) (body : SS → RT FlowT) (xs : List TV) (σ : SS) : aT g body xs (.ok .next σ) = forT g body xs σ := id rfl
@[simp] theorem aT_cont (g : MG) (body : SS → RT FlowT) (xs : List TV) (σ : SS) : aT g body xs (.ok .cont σ) = forT g body xs σ := id rfl
@[simp] theorem aT_brk (g : MG) (body : SS → RT FlowT) (xs : List TV) (σ : SS) : aT g body xs (.ok .brk σ) = .ok .next σ := id rfl
@[simp] theorem aT_ret (g : MG) (body : SS → RT FlowT) (xs : List TV) (s : SV) (σ : SS) : aT g body xs (.ok (.ret s) σ) = .ok (.ret s) σ := id rfl
/-- a loop, by what holds ahead of each turn -/
theorem for_inv {α : Type} {g : MG} {body : SS → RT FlowT} (enc : α → TV) (P : List α → SS → Prop) : ∀ (l done : List α) {σ : SS}, P done σ →
    (∀ d x, (∃ r, l = d ++ x :: r) → ∀ σ, P (done ++ d) σ → ∃ s σ', asgG g (enc x) σ = some s ∧ body s = .ok .next σ' ∧ P (done ++ d ++ [x]) σ') → ∃ σ', forT g body (l.map enc) σ = .ok .next σ' ∧ P (done ++ l) σ'
  | [], done, σ, hp, h => ⟨σ, rfl, by rw [List.append_nil]; exact hp⟩
  | x :: l, done, σ, hp, h => by
    obtain ⟨s, σ1, a1, e1, p1⟩ := h [] x ⟨l, rfl⟩ σ (by rw [List.append_nil]; exact hp)
    rw [List.append_nil] at p1
    obtain ⟨σ', e2, p2⟩ := for_inv enc P l (done ++ [x]) p1 (fun d y ⟨r, hr⟩ σ hp => by
      have := h (x :: d) y ⟨r, by rw [hr]; rfl⟩ σ (by rw [← List.singleton_append, ← List.append_assoc]; exact hp)
      rw [← List.singleton_append (l := d), ← List.append_assoc] at this
      exact this)
    refine ⟨σ', ?_, by rw [← List.singleton_append, ← List.append_assoc]; exact p2⟩
    rw [List.map_cons, forT_cons, a1]
    simp only [e1, aT_next, e2]
/-- a loop that folds -/
theorem for_fold {α β : Type} {g : MG} {body : SS → RT FlowT} (enc : α → TV) (R : β → SS → Prop) (step : β → α → β) : ∀ (l : List α) {b : β} {σ : SS}, R b σ →
    (∀ x ∈ l, ∀ b σ, R b σ → ∃ s σ', asgG g (enc x) σ = some s ∧ body s = .ok .next σ' ∧ R (step b x) σ') → ∃ σ', forT g body (l.map enc) σ = .ok .next σ' ∧ R (l.foldl step b) σ'
  | [], b, σ, hp, h => ⟨σ, rfl, hp⟩
  | x :: l, b, σ, hp, h => by
    obtain ⟨s, σ1, a1, e1, p1⟩ := h x List.mem_cons_self b σ hp
    obtain ⟨σ', e2, p2⟩ := for_fold enc R step l p1 (fun y hy => h y (List.mem_cons_of_mem _ hy))
    refine ⟨σ', ?_, p2⟩
    rw [List.map_cons, forT_cons, a1]
    simp only [e1, aT_next, e2]
/-- a loop that looks for something -/
theorem for_find {α : Type} {g : MG} {body : SS → RT FlowT} (enc : α → TV) (R : SS → Prop) (fnd : α → Option SV) : ∀ (l : List α) {σ : SS}, R σ →
    (∀ x ∈ l, ∀ σ, R σ → ∃ s, asgG g (enc x) σ = some s ∧ (∀ v, fnd x = some v → ∃ σ', body s = .ok (.ret v) σ' ∧ R σ') ∧ (fnd x = none → ∃ σ', body s = .ok .next σ' ∧ R σ')) →
    (∀ v, l.findSome? fnd = some v → ∃ σ', forT g body (l.map enc) σ = .ok (.ret v) σ' ∧ R σ') ∧ (l.findSome? fnd = none → ∃ σ', forT g body (l.map enc) σ = .ok .next σ' ∧ R σ')
  | [], σ, hp, h => ⟨fun v e => (by cases e), fun _ => ⟨σ, rfl, hp⟩⟩
  | x :: l, σ, hp, h => by
    obtain ⟨s, a1, h1, h2⟩ := h x List.mem_cons_self σ hp
    rw [List.findSome?_cons, List.map_cons, forT_cons, a1]
    cases e : fnd x with
    | some v =>
      obtain ⟨σ', e1, q⟩ := h1 v e
      exact ⟨fun w hw => by cases hw; exact ⟨σ', by simp only [e1, aT_ret], q⟩, fun hw => by cases hw⟩
    | none =>
      obtain ⟨σ1, e1, q⟩ := h2 e
      have ih := for_find enc R fnd l q (fun y hy => h y (List.mem_cons_of_mem _ hy))
      simp only [e1, aT_next]
      exact ih
/-- a loop that says no at the first that isn't so -/
theorem for_all {α : Type} {g : MG} {body : SS → RT FlowT} (enc : α → TV) (R : SS → Prop) (p : α → Bool) (v : SV) (l : List α) {σ : SS} (h0 : R σ)
    (h : ∀ x ∈ l, ∀ σ, R σ → ∃ s, asgG g (enc x) σ = some s ∧ (p x = false → ∃ σ', body s = .ok (.ret v) σ' ∧ R σ') ∧ (p x = true → ∃ σ', body s = .ok .next σ' ∧ R σ')) :
    (l.all p = false → ∃ σ', forT g body (l.map enc) σ = .ok (.ret v) σ' ∧ R σ') ∧ (l.all p = true → ∃ σ', forT g body (l.map enc) σ = .ok .next σ' ∧ R σ') := by
  have key := for_find enc R (fun x => if p x then none else some v) l h0 (fun x hx σ hr => by
    obtain ⟨s, a1, h1, h2⟩ := h x hx σ hr
    refine ⟨s, a1, fun w hw => ?_, fun hw => ?_⟩
    · cases e : p x with
      | true => rw [e] at hw; cases hw
      | false => rw [e] at hw; cases hw; exact h1 e
    · cases e : p x with
      | true => exact h2 e
      | false => rw [e] at hw; cases hw)
  have fs : ∀ l : List α, l.findSome? (fun x => if p x then none else some v) = if l.all p then none else some v := fun l => by
    induction l with
    | nil => rfl
    | cons x l ih =>
      rw [List.findSome?_cons, List.all_cons]
      cases e : p x with
      | true => simp only [if_true, Bool.true_and]; exact ih
      | false => rfl
  rw [fs] at key
  exact ⟨fun e => key.1 v (by rw [e]; rfl), fun e => key.2 (by rw [e]; rfl)⟩
def wT (c : EvT) (body : SS → RT FlowT) (f : Nat) (r : RT FlowT) : RT FlowT := r.bind fun fl σ2 => afterT fl σ2 (whileT c body f)
@[simp] theorem wT_next (c : EvT) (body : SS → RT FlowT) (f : Nat) (σ : SS) : wT c body f (.ok .next σ) = whileT c body f σ := id rfl
@[simp] theorem wT_ret (c : EvT) (body : SS → RT FlowT) (f : Nat) (s : SV) (σ : SS) : wT c body f (.ok (.ret s) σ) = .ok (.ret s) σ := id rfl
def wC (c : EvT) (body : SS → RT FlowT) (f : Nat) (r : RT Bool) : RT FlowT := r.bind fun t σ1 => if t then wT c body f (body σ1) else .ok .next σ1
@[simp] theorem wC_ok (c : EvT) (body : SS → RT FlowT) (f : Nat) (t : Bool) (σ : SS) : wC c body f (.ok t σ) = if t then wT c body f (body σ) else .ok .next σ := id rfl
theorem while_step (c : EvT) (body : SS → RT FlowT) (f : Nat) (σ : SS) : whileT c body (f + 1) σ = wC c body f (kTr (c σ)) := rfl
/-! ### comprehensions -/
def lT (own : List Nat) (g : MG) (cnd : Option EvT) (elt : EvT) (xs : List TV) (r : RT (List TV)) : RT (List TV) := r.bind fun acc σ => lcT own g cnd elt xs acc σ
@[simp] theorem lT_ok (own : List Nat) (g : MG) (cnd : Option EvT) (elt : EvT) (xs acc : List TV) (σ : SS) : lT own g cnd elt xs (.ok acc σ) = lcT own g cnd elt xs acc σ := id rfl
@[simp] theorem lcT_nil (own : List Nat) (g : MG) (cnd : Option EvT) (elt : EvT) (acc : List TV) (σ : SS) : lcT own g cnd elt [] acc σ = .ok acc σ := id rfl
theorem lcT_cons (own : List Nat) (g : MG) (cnd : Option EvT) (elt : EvT) (x : TV) (xs acc : List TV) (σ : SS) : lcT own g cnd elt (x :: xs) acc σ = lT own g cnd elt xs (lcTurnT own g cnd elt σ x acc) := rfl
/-- one turn without a test, with what it leaves -/
theorem turn_none {own : List Nat} {g : MG} {elt : EvT} {σ s σ' : SS} {x y : TV} {acc : List TV} (ha : asgG g x (wipeT σ own) = some s) (he : kF (elt s) = .ok y σ') (hl : acc.length < LIM) : lcTurnT own g none elt σ x acc = .ok (acc ++ [y]) (restS σ own σ') := by
  unfold lcTurnT
  rw [ha]
  simp only
  have : (elt s).bind frT = .ok y σ' := he
  show restR σ own ((RT.ok true s).bind fun b σ1 => if b then ((elt σ1).bind frT).bind fun w σ2 => if acc.length < LIM then .ok (acc ++ [w]) σ2 else .stuck else .ok acc σ1) = _
  simp only [bind_ok_, if_true, this, if_pos hl]
  rfl
theorem turn_yes {own : List Nat} {g : MG} {c elt : EvT} {σ s s' σ' : SS} {x y : TV} {acc : List TV} (ha : asgG g x (wipeT σ own) = some s) (hc : kTr (c s) = .ok true s') (he : kF (elt s') = .ok y σ') (hl : acc.length < LIM) : lcTurnT own g (some c) elt σ x acc = .ok (acc ++ [y]) (restS σ own σ') := by
  unfold lcTurnT
  rw [ha]
  have h1 : (c s).bind trT = .ok true s' := hc
  have h2 : (elt s').bind frT = .ok y σ' := he
  simp only [h1, bind_ok_, if_true, h2, if_pos hl]
  rfl
theorem turn_no {own : List Nat} {g : MG} {c elt : EvT} {σ s s' : SS} {x : TV} {acc : List TV} (ha : asgG g x (wipeT σ own) = some s) (hc : kTr (c s) = .ok false s') : lcTurnT own g (some c) elt σ x acc = .ok acc (restS σ own s') := by
  unfold lcTurnT
  rw [ha]
  have h1 : (c s).bind trT = .ok false s' := hc
  simp only [h1, bind_ok_]
  rfl
/-- [f x for x in ..] -/
theorem lc_map {α : Type} {own : List Nat} {g : MG} {elt : EvT} {σ : SS} (enc : α → TV) (f : α → TV) : ∀ (l : List α) (acc : List TV), acc.length + l.length ≤ LIM →
    (∀ x ∈ l, ∃ s σ', asgG g (enc x) (wipeT σ own) = some s ∧ kF (elt s) = .ok (f x) σ' ∧ restS σ own σ' = σ) → lcT own g none elt (l.map enc) acc σ = .ok (acc ++ l.map f) σ
  | [], acc, _, _ => by simp
  | x :: l, acc, hl, h => by
    obtain ⟨s, σ', a1, e1, r1⟩ := h x List.mem_cons_self
    rw [List.length_cons] at hl
    rw [List.map_cons, lcT_cons, turn_none a1 e1 (by omega), lT_ok, r1, lc_map enc f l (acc ++ [f x]) (by simp; simp at hl; omega) (fun y hy => h y (List.mem_cons_of_mem _ hy))]
    simp
/-- [f x for x in .. if p x] -/
theorem lc_filter {α : Type} {own : List Nat} {g : MG} {c elt : EvT} {σ : SS} (enc : α → TV) (p : α → Bool) (f : α → TV) : ∀ (l : List α) (acc : List TV), acc.length + l.length ≤ LIM →
    (∀ x ∈ l, ∃ s s', asgG g (enc x) (wipeT σ own) = some s ∧ kTr (c s) = .ok (p x) s' ∧ (p x = false → restS σ own s' = σ) ∧ (p x = true → ∃ σ', kF (elt s') = .ok (f x) σ' ∧ restS σ own σ' = σ)) →
    lcT own g (some c) elt (l.map enc) acc σ = .ok (acc ++ (l.filter p).map f) σ
  | [], acc, _, _ => by simp
  | x :: l, acc, hl, h => by
    obtain ⟨s, s', a1, c1, h1, h2⟩ := h x List.mem_cons_self
    rw [List.length_cons] at hl
    cases e : p x with
    | true =>
      obtain ⟨σ', e1, r1⟩ := h2 e
      rw [e] at c1
      rw [List.map_cons, lcT_cons, turn_yes a1 c1 e1 (by omega), lT_ok, r1, lc_filter enc p f l (acc ++ [f x]) (by simp; simp at hl; omega) (fun y hy => h y (List.mem_cons_of_mem _ hy))]
      simp [List.filter_cons, e]
    | false =>
      rw [e] at c1
      rw [List.map_cons, lcT_cons, turn_no a1 c1, lT_ok, h1 e, lc_filter enc p f l acc (by omega) (fun y hy => h y (List.mem_cons_of_mem _ hy))]
      simp [List.filter_cons, e]
/-- a comprehension that changes names: by what holds ahead of each turn -/
theorem lc_inv {α : Type} {own : List Nat} {g : MG} {elt : EvT} (enc : α → TV) (P : List TV → SS → Prop) : ∀ (l : List α) (acc : List TV) {σ : SS}, acc.length + l.length ≤ LIM → P acc σ →
    (∀ x ∈ l, ∀ acc σ, P acc σ → ∃ s y σ', asgG g (enc x) (wipeT σ own) = some s ∧ kF (elt s) = .ok y σ' ∧ P (acc ++ [y]) (restS σ own σ')) →
    ∃ acc' σ', lcT own g none elt (l.map enc) acc σ = .ok acc' σ' ∧ P acc' σ' ∧ acc'.length = acc.length + l.length
  | [], acc, σ, _, hp, _ => ⟨acc, σ, by simp, hp, by simp⟩
  | x :: l, acc, σ, hl, hp, h => by
    obtain ⟨s, y, σ', a1, e1, p1⟩ := h x List.mem_cons_self acc σ hp
    rw [List.length_cons] at hl
    obtain ⟨acc', σ2, e2, p2, l2⟩ := lc_inv enc P l (acc ++ [y]) (by simp; simp at hl; omega) p1 (fun y hy => h y (List.mem_cons_of_mem _ hy))
    refine ⟨acc', σ2, ?_, p2, by rw [l2]; simp; omega⟩
    rw [List.map_cons, lcT_cons, turn_none a1 e1 (by omega), lT_ok, e2]
/-- the same with a test -/
theorem lc_inv_if {α : Type} {own : List Nat} {g : MG} {c elt : EvT} (enc : α → TV) (P : List TV → SS → Prop) : ∀ (l : List α) (acc : List TV) {σ : SS}, acc.length + l.length ≤ LIM → P acc σ →
    (∀ x ∈ l, ∀ acc σ, P acc σ → ∃ s b s', asgG g (enc x) (wipeT σ own) = some s ∧ kTr (c s) = .ok b s' ∧ (b = false → P acc (restS σ own s')) ∧ (b = true → ∃ y σ', kF (elt s') = .ok y σ' ∧ P (acc ++ [y]) (restS σ own σ'))) →
    ∃ acc' σ', lcT own g (some c) elt (l.map enc) acc σ = .ok acc' σ' ∧ P acc' σ' ∧ acc'.length ≤ acc.length + l.length
  | [], acc, σ, _, hp, _ => ⟨acc, σ, by simp, hp, by simp⟩
  | x :: l, acc, σ, hl, hp, h => by
    obtain ⟨s, b, s', a1, c1, h1, h2⟩ := h x List.mem_cons_self acc σ hp
    rw [List.length_cons] at hl
    cases b with
    | false =>
      obtain ⟨acc', σ2, e2, p2, l2⟩ := lc_inv_if enc P l acc (by omega) (h1 rfl) (fun y hy => h y (List.mem_cons_of_mem _ hy))
      refine ⟨acc', σ2, ?_, p2, by rw [List.length_cons]; omega⟩
      rw [List.map_cons, lcT_cons, turn_no a1 c1, lT_ok, e2]
    | true =>
      obtain ⟨y, σ', e1, p1⟩ := h2 rfl
      obtain ⟨acc', σ2, e2, p2, l2⟩ := lc_inv_if enc P l (acc ++ [y]) (by simp; simp at hl; omega) p1 (fun y hy => h y (List.mem_cons_of_mem _ hy))
      refine ⟨acc', σ2, ?_, p2, by rw [List.length_cons]; simp at l2; omega⟩
      rw [List.map_cons, lcT_cons, turn_yes a1 c1 e1 (by omega), lT_ok, e2]
/-! ### data -/
def tZ (l : List Int) : TV := .tup (l.map TV.int)
def lZ (l : List Int) : TV := .lst (l.map TV.int)
def iota (n : Nat) : List Int := (List.range n).map fun (k : Nat) => (k : Int)
theorem iota_len (n : Nat) : (iota n).length = n := by simp [iota]
theorem mem_iota {n : Nat} {x : Int} : x ∈ iota n ↔ 0 ≤ x ∧ x < n := by
  simp only [iota, List.mem_map, List.mem_range]
  constructor
  · rintro ⟨k, h, rfl⟩; omega
  · intro h; exact ⟨x.toNat, by omega, by omega⟩
theorem rangeT_0 (n : Nat) : rangeT 0 (n : Int) = (iota n).map TV.int := by
  simp [rangeT, iota, List.map_map]
theorem rangeT_0' {i : Int} (h : 0 ≤ i) : rangeT 0 i = (iota i.toNat).map TV.int := by
  rw [← rangeT_0, Int.toNat_of_nonneg h]
theorem inR {i : Int} (h : -1000000 ≤ i) (h' : i ≤ 1000000) : inRange i = true := by simp [inRange]; omega
theorem toPs_int (l : List Int) : TV.toP.toPs (l.map TV.int) = l.map PV.int := by
  induction l with
  | nil => rfl
  | cons x l ih => rw [List.map_cons, List.map_cons, ← ih]; rfl
theorem sh_int (i : Int) : shT (.int i) = true := rfl
theorem all_sh_int (l : List Int) : (l.map TV.int).all shT = true := by
  rw [List.all_eq_true]; intro x hx; obtain ⟨i, _, rfl⟩ := List.mem_map.mp hx; rfl
theorem in_tI (x : Int) (l : List Int) : cmpT .In (.int x) (tZ l) = some (.val (.bl (decide (x ∈ l)))) := by
  have : inT (.int x) (tZ l) = some (decide (x ∈ l)) := by
    unfold inT tZ
    simp only [TV.seq, all_sh_int, sh_int, Bool.and_self, if_true]
    congr 1
    rw [List.any_map, Bool.eq_iff_iff]
    simp only [List.any_eq_true, Function.comp, decide_eq_true_eq]
    constructor
    · rintro ⟨y, hy, e⟩
      have e : (y == x) = true := e
      rw [beq_iff_eq] at e; rw [← e]; exact hy
    · intro h; exact ⟨x, h, by show (x == x) = true; simp⟩
  simp [cmpT, this]
theorem in_lI (x : Int) (l : List Int) : cmpT .In (.int x) (lZ l) = some (.val (.bl (decide (x ∈ l)))) := by
  have h := in_tI x l
  exact h
theorem ni_tI (x : Int) (l : List Int) : cmpT .NotIn (.int x) (tZ l) = some (.val (.bl (!decide (x ∈ l)))) := by
  have h := in_tI x l
  simp only [cmpT] at h ⊢
  cases e : inT (.int x) (tZ l) with
  | none => rw [e] at h; cases h
  | some b => rw [e] at h; simp at h; simp [h]
theorem ni_lI (x : Int) (l : List Int) : cmpT .NotIn (.int x) (lZ l) = some (.val (.bl (!decide (x ∈ l)))) := ni_tI x l
theorem ix_at {xs : List TV} {i : Nat} {x : TV} (h : xs[i]? = some x) : ixT (.tup xs) (.int (i : Int)) = some (.val x) := by
  have hl := (List.getElem?_eq_some_iff.mp h).1
  have e : xs[i] = x := (List.getElem?_eq_some_iff.mp h).2
  simp [ixT, ixOf, hl, e]
theorem ixl_at {xs : List TV} {i : Nat} {x : TV} (h : xs[i]? = some x) : ixT (.lst xs) (.int (i : Int)) = some (.val x) := ix_at h
theorem ix_tI {l : List Int} {i : Nat} (h : i < l.length) : ixT (tZ l) (.int (i : Int)) = some (.val (.int l[i])) := ix_at (by simp [h])
theorem ix_lI {l : List Int} {i : Nat} (h : i < l.length) : ixT (lZ l) (.int (i : Int)) = some (.val (.int l[i])) := ix_at (by simp [h])
/-- the place of a thing -/
def idx (l : List Int) (x : Int) : Nat := l.findIdx (· == x)
theorem index_tI {l : List Int} {x : Int} (h : x ∈ l) : methT .index (tZ l) [.int x] = some (.val (.int (idx l x))) := by
  have e : (l.map TV.int).findIdx? (fun y => y.toP.eqv (TV.int x).toP) = some (idx l x) := by
    rw [List.findIdx?_map]
    have : ((fun y : TV => y.toP.eqv (TV.int x).toP) ∘ TV.int) = fun y => y == x := by funext y; rfl
    rw [this]
    exact List.findIdx?_eq_some_of_exists ⟨x, h, by simp⟩
  simp only [methT, tZ, seq_t, Option.bind_some, all_sh_int, sh_int, Bool.and_self, if_true, e]
  rfl
theorem idx_get {l : List Int} (h : l.Nodup) {i : Nat} (hi : i < l.length) : idx l l[i] = i := by
  unfold idx
  rw [List.findIdx_eq hi]
  refine ⟨by simp, fun j hj => ?_⟩
  rw [Bool.eq_false_iff]
  intro e
  rw [beq_iff_eq] at e
  exact (List.pairwise_iff_getElem.mp h) j i (by omega) hi hj e
theorem idx_lt {l : List Int} {x : Int} (h : x ∈ l) : idx l x < l.length := List.findIdx_lt_length_of_exists ⟨x, h, by simp⟩
theorem get_idx {l : List Int} {x : Int} (h : x ∈ l) : l[idx l x]'(idx_lt h) = x := by
  have := List.findIdx_getElem (w := idx_lt h)
  exact eq_of_beq this
theorem ints_lI (l : List Int) : intsT (l.map TV.int) = some l := by
  induction l with
  | nil => rfl
  | cons x l ih => rw [List.map_cons, intsT, ih]; rfl
theorem bls_l (l : List Bool) : blsT (l.map TV.bl) = some l := by
  induction l with
  | nil => rfl
  | cons x l ih => rw [List.map_cons, blsT, ih]; rfl
theorem all_l (l : List Bool) : bcallT .all [.lst (l.map TV.bl)] = some (.val (.bl (l.all id))) := by simp [bcallT, bls_l]
theorem all_t (l : List Bool) : bcallT .all [.tup (l.map TV.bl)] = some (.val (.bl (l.all id))) := by simp [bcallT, bls_l]
theorem any_l (l : List Bool) : bcallT .any [.lst (l.map TV.bl)] = some (.val (.bl (l.any id))) := by simp [bcallT, bls_l]
theorem sum_l (l : List Int) : bcallT .sum [lZ l] = some (.val (.int l.sum)) := by simp [bcallT, TV.li, lZ, ints_lI]
theorem max_l (i : Int) (l : List Int) : bcallT .max1 [lZ (i :: l)] = some (.val (.int (maxL i l))) := by simp [bcallT, lZ, intsT, ints_lI]
theorem max_t (i : Int) (l : List Int) : bcallT .max1 [tZ (i :: l)] = some (.val (.int (maxL i l))) := by simp [bcallT, tZ, intsT, ints_lI]
theorem maxD_l (l : List Int) (d : Int) : bcallT .maxD [lZ l, .int d] = some (.val (.int (match l with | i :: is => maxL i is | [] => d))) := by
  cases l <;> simp [bcallT, TV.li, lZ, intsT, ints_lI]
theorem min_l (i : Int) (l : List Int) : bcallT .min1 [lZ (i :: l)] = some (.val (.int (minL i l))) := by simp [bcallT, lZ, intsT, ints_lI]
theorem min_t (i : Int) (l : List Int) : bcallT .min1 [tZ (i :: l)] = some (.val (.int (minL i l))) := by simp [bcallT, tZ, intsT, ints_lI]
end Vt
end
section
set_option Elab.async false
set_option linter.all false
set_option maxRecDepth 100000
set_option maxHeartbeats 4000000
namespace Vt
open PySem Mn
/-! ### more fuel says the same -/
def Le {α : Type} (r r' : RT α) : Prop := r = .stuck ∨ r' = r
theorem Le.refl {α : Type} (r : RT α) : Le r r := .inr rfl
theorem Le.stk {α : Type} (r : RT α) : Le .stuck r := .inl rfl
theorem Le.bind {α β : Type} {r r' : RT α} {f f' : α → SS → RT β} (h : Le r r') (k : ∀ a σ, Le (f a σ) (f' a σ)) : Le (r.bind f) (r'.bind f') := by
  rcases h with rfl | rfl
  · exact .inl rfl
  · cases r' with
    | ok a σ => exact k a σ
    | exc e σ => exact .inr rfl
    | stuck => exact .inl rfl
theorem Le.bindr {α β : Type} {r r' : RT α} {f : α → SS → RT β} (h : Le r r') : Le (r.bind f) (r'.bind f) := h.bind fun _ _ => .refl _
def LeC (cf cf' : CFT) : Prop := ∀ f vs, Le (cf f vs) (cf' f vs)
theorem Le.rest {α : Type} {r r' : RT α} {σ0 : SS} {own : List Nat} (h : Le r r') : Le (restR σ0 own r) (restR σ0 own r') := by
  rcases h with rfl | rfl
  · exact .inl rfl
  · exact .refl _
section
variable {cf cf' : CFT} (hc : LeC cf cf')
include hc
theorem le_back {i : Nat} {σ : SS} {f : Nat} {vs : List SV} : Le (backT i σ (cf f vs)) (backT i σ (cf' f vs)) := by
  rcases hc f vs with h | h
  · rw [h]; exact .inl rfl
  · rw [h]; exact .refl _
theorem le_backN {σ : SS} {f : Nat} {vs : List SV} : Le (backN σ (cf f vs)) (backN σ (cf' f vs)) := by
  rcases hc f vs with h | h
  · rw [h]; exact .inl rfl
  · rw [h]; exact .refl _
theorem le_call {f : Nat} {os : List Op} {σ : SS} : Le (callT cf f os σ) (callT cf' f os σ) := by
  unfold callT
  split
  · cases os with
    | nil => exact .refl _
    | cons o os =>
      cases o with
      | bor i =>
        refine Le.bind (.refl _) fun ws σ1 => ?_
        cases rd σ1 i with
        | none => exact .refl _
        | some s => exact le_back hc
      | own s =>
        simp only
        cases valsT os with
        | none => exact .refl _
        | some ws => exact le_backN hc
  · split
    · refine Le.bind (.refl _) fun ws σ1 => ?_
      rcases hc f (ws.map SV.val) with h | h
      · rw [h]; exact .inl rfl
      · rw [h]; exact .refl _
    · exact Le.bind (.refl _) fun ws σ1 => le_backN hc
theorem le_turn {own : List Nat} {g : MG} {c c' : Option EvT} {e e' : EvT} (h1 : (c = none ∧ c' = none) ∨ ∃ d d', c = some d ∧ c' = some d' ∧ ∀ σ, Le (d σ) (d' σ)) (h2 : ∀ σ, Le (e σ) (e' σ)) {σ : SS} {x : TV} {acc : List TV} : Le (lcTurnT own g c e σ x acc) (lcTurnT own g c' e' σ x acc) := by
  unfold lcTurnT
  cases asgG g x (wipeT σ own) with
  | none => exact .refl _
  | some s =>
    refine Le.rest (Le.bind ?_ fun b σ1 => ?_)
    · rcases h1 with ⟨rfl, rfl⟩ | ⟨d, d', rfl, rfl, h⟩
      · exact .refl _
      · exact (h s).bindr
    · cases b with
      | false => exact .refl _
      | true => exact ((h2 σ1).bindr).bindr
theorem le_lc {own : List Nat} {g : MG} {c c' : Option EvT} {e e' : EvT} (h1 : (c = none ∧ c' = none) ∨ ∃ d d', c = some d ∧ c' = some d' ∧ ∀ σ, Le (d σ) (d' σ)) (h2 : ∀ σ, Le (e σ) (e' σ)) : ∀ {xs acc : List TV} {σ : SS}, Le (lcT own g c e xs acc σ) (lcT own g c' e' xs acc σ)
  | [], acc, σ => .refl _
  | x :: xs, acc, σ => Le.bind (le_turn hc h1 h2) fun a s => le_lc h1 h2
mutual
theorem leT : ∀ (e : ME) (σ : SS), Le (evT cf e σ) (evT cf' e σ)
  | .var i, σ => by unfold evT; exact .refl _
  | .int i, σ => by unfold evT; exact .refl _
  | .bl i, σ => by unfold evT; exact .refl _
  | .non, σ => by unfold evT; exact .refl _
  | .str i, σ => by unfold evT; exact .refl _
  | .tup es, σ => by unfold evT; exact ((leTs es σ).bindr).bindr
  | .lst es, σ => by unfold evT; exact ((leTs es σ).bindr).bindr
  | .bin op a b, σ => by unfold evT k2b; exact (leT a σ).bind fun x s => (leT b s).bindr
  | .neg a, σ => by unfold evT k1; exact (leT a σ).bindr
  | .not a, σ => by unfold evT k1; exact (leT a σ).bindr
  | .cmp op a b, σ => by unfold evT k2b; exact (leT a σ).bind fun x s => (leT b s).bindr
  | .chain op op' a b c, σ => by
    unfold evT
    refine (leT a σ).bind fun x s => (leT b s).bind fun y s2 => ?_
    split
    · unfold k2b; exact (leT c s2).bindr
    · exact .refl _
    · exact .refl _
  | .and es, σ => by unfold evT; exact leAnd es σ
  | .or es, σ => by unfold evT; exact leOr es σ
  | .ife c a b, σ => by
    unfold evT
    refine ((leT c σ).bindr).bind fun t s => ?_
    cases t with
    | true => exact leT a s
    | false => exact leT b s
  | .ix a b, σ => by unfold evT k2b; exact (leT a σ).bind fun x s => (leT b s).bindr
  | .sl a lo hi, σ => by
    unfold evT
    refine (leT a σ).bind fun x s => ?_
    match lo, hi with
    | .none, .none => exact .refl _
    | .some l, .none => unfold k2b; exact (leT l s).bindr
    | .none, .some h => unfold k2b; exact (leT h s).bindr
    | .some l, .some h =>
      refine (leT l s).bind fun y s2 => ?_
      split
      · unfold k2b; exact (leT h s2).bindr
      · exact .refl _
  | .stp a b, σ => by unfold evT k2b; exact (leT a σ).bind fun x s => (leT b s).bindr
  | .call f args, σ => by unfold evT; exact (leTs args σ).bind fun os s => le_call hc
  | .bcall f args, σ => by unfold evT kB; exact (leTs args σ).bindr
  | .meth m o args, σ => by
    unfold evT
    refine (leT o σ).bind fun x s => ?_
    split
    · exact (leTs args s).bindr
    · exact .refl _
  | .isi e ts tup, σ => by
    unfold evT
    split
    · unfold k1; exact (leT e σ).bindr
    · exact .refl _
  | .cix i e, σ => by unfold evT k1; exact (leT e σ).bindr
  | .callL fs i args, σ => by
    unfold evT
    refine (leT i σ).bind fun x s => ?_
    split
    · exact (leTs args s).bind fun os s2 => le_call hc
    · exact .refl _
  | .lc own g it cnd elt, σ => by
    unfold evT
    refine (leI it σ).bind fun xs s => ?_
    unfold lcK
    split
    · refine Le.bindr (le_lc hc ?_ fun s2 => leT elt s2)
      cases cnd with
      | none => exact .inl ⟨by unfold evCT; rfl, by unfold evCT; rfl⟩
      | some c => exact .inr ⟨_, _, by unfold evCT; rfl, by unfold evCT; rfl, fun s2 => leT c s2⟩
    · exact .refl _
theorem leTs : ∀ (es : MEs) (σ : SS), Le (evTs cf es σ) (evTs cf' es σ)
  | .nil, σ => by unfold evTs; exact .refl _
  | .cons e es, σ => by unfold evTs; exact (leT e σ).bind fun o s => (leTs es s).bindr
theorem leAnd : ∀ (es : MEs) (σ : SS), Le (evAndT cf es σ) (evAndT cf' es σ)
  | .nil, σ => by unfold evAndT; exact .refl _
  | .cons e .nil, σ => by unfold evAndT; exact leT e σ
  | .cons e (.cons e' es), σ => by
    unfold evAndT
    refine (leT e σ).bind fun o s => Le.bind (.refl _) fun t s2 => ?_
    cases t with
    | true => exact leAnd (.cons e' es) s2
    | false => exact .refl _
theorem leOr : ∀ (es : MEs) (σ : SS), Le (evOrT cf es σ) (evOrT cf' es σ)
  | .nil, σ => by unfold evOrT; exact .refl _
  | .cons e .nil, σ => by unfold evOrT; exact leT e σ
  | .cons e (.cons e' es), σ => by
    unfold evOrT
    refine (leT e σ).bind fun o s => Le.bind (.refl _) fun t s2 => ?_
    cases t with
    | false => exact leOr (.cons e' es) s2
    | true => exact .refl _
theorem leI : ∀ (it : MI) (σ : SS), Le (evIT cf it σ) (evIT cf' it σ)
  | .seq e, σ => by unfold evIT; exact ((leT e σ).bindr).bindr
  | .range1 e, σ => by unfold evIT; exact (leT e σ).bindr
  | .range2 a b, σ => by unfold evIT; exact (leT a σ).bind fun x s => (leT b s).bindr
  | .enum e, σ => by unfold evIT; exact ((leT e σ).bindr).bindr
  | .zip a b, σ => by unfold evIT; exact (leT a σ).bind fun x s => (leT b s).bindr
end
theorem le_after {f : FlowT} {σ : SS} {go go' : SS → RT FlowT} (h : ∀ s, Le (go s) (go' s)) : Le (afterT f σ go) (afterT f σ go') := by
  cases f with
  | next => exact h σ
  | cont => exact h σ
  | brk => exact .refl _
  | ret v => exact .refl _
theorem le_for {g : MG} {b b' : SS → RT FlowT} (h : ∀ s, Le (b s) (b' s)) : ∀ (xs : List TV) (σ : SS), Le (forT g b xs σ) (forT g b' xs σ)
  | [], σ => .refl _
  | x :: xs, σ => by
    rw [forT, forT]
    cases asgG g x σ with
    | none => exact .refl _
    | some s => exact (h s).bind fun f s1 => le_after hc (le_for h xs)
theorem le_while {c c' : EvT} {b b' : SS → RT FlowT} (h1 : ∀ s, Le (c s) (c' s)) (h : ∀ s, Le (b s) (b' s)) : ∀ (f : Nat) (σ : SS), Le (whileT c b f σ) (whileT c' b' f σ)
  | 0, σ => .refl _
  | f + 1, σ => by
    rw [whileT, whileT]
    refine ((h1 σ).bindr).bind fun t s => ?_
    cases t with
    | false => exact .refl _
    | true => exact (h s).bind fun fl s2 => le_after hc (le_while h1 h f)
mutual
theorem leS : ∀ (m : MS) (σ : SS), Le (evST cf m σ) (evST cf' m σ)
  | .asg i e, σ => by unfold evST; exact ((leT hc e σ).bindr).bindr
  | .asgT g e, σ => by unfold evST; exact ((leT hc e σ).bindr).bindr
  | .par i j es, σ => by unfold evST; exact ((leTs hc es σ).bindr).bindr
  | .par3 i j l es, σ => by unfold evST; exact ((leTs hc es σ).bindr).bindr
  | .swp o i o2 i2 e, σ => by
    unfold evST
    refine ((leT hc e σ).bindr).bind fun w s => ?_
    split
    · refine ((leT hc o s).bind fun x s2 => (leT hc i s2).bindr).bind fun f s4 => ?_
      split
      · exact (leT hc o2 s4).bind fun x s2 => (leT hc i2 s2).bindr
      · exact .refl _
    · exact .refl _
  | .setix o i e, σ => by unfold evST; exact ((leT hc e σ).bindr).bind fun w s => (leT hc o s).bind fun x s2 => (leT hc i s2).bindr
  | .expr e, σ => by unfold evST; exact (leT hc e σ).bindr
  | .ret e, σ => by unfold evST; exact ((leT hc e σ).bindr).bindr
  | .ife c a b, σ => by
    unfold evST
    refine ((leT hc c σ).bindr).bind fun t s => ?_
    cases t with
    | true => exact leSs a s
    | false => exact leSs b s
  | .for_ g it b, σ => by unfold evST; exact (leI hc it σ).bind fun xs s => le_for hc (fun s2 => leSs b s2) xs s
  | .while_ c b, σ => by unfold evST; exact le_while hc (fun s => leT hc c s) (fun s => leSs b s) WF σ
  | .pass, σ => by unfold evST; exact .refl _
  | .brk, σ => by unfold evST; exact .refl _
  | .cont, σ => by unfold evST; exact .refl _
  | .raise_, σ => by unfold evST; exact .refl _
theorem leSs : ∀ (ms : MSs) (σ : SS), Le (evSsT cf ms σ) (evSsT cf' ms σ)
  | .nil, σ => by unfold evSsT; exact .refl _
  | .cons m ms, σ => by
    unfold evSsT
    refine (leS m σ).bind fun f s => ?_
    cases f with
    | next => exact leSs ms s
    | _ => exact .refl _
end
end
theorem le_end {f : Nat} {r r' : RT FlowT} (h : Le r r') : Le (endT f r) (endT f r') := by
  rcases h with rfl | rfl
  · exact .inl rfl
  · exact .refl _
theorem run_succ {fs : List (Nat × Fn)} : ∀ k, LeC (runT fs k) (runT fs (k + 1))
  | 0 => fun f vs => .inl rfl
  | k + 1 => fun f vs => by
    show Le (match fs.lookup f with | none => _ | some F => _) (match fs.lookup f with | none => _ | some F => _)
    cases fs.lookup f with
    | none => exact .refl _
    | some F =>
      simp only
      split
      · exact le_end (leSs (run_succ k) F.body _)
      · exact .refl _
theorem run_up {fs : List (Nat × Fn)} {k f : Nat} {vs : List SV} {s : SV} {o : SS} (h : runT fs k f vs = .ok s o) : ∀ {j : Nat}, k ≤ j → runT fs j f vs = .ok s o
  | j, hj => by
    obtain ⟨d, rfl⟩ := Nat.exists_eq_add_of_le hj
    induction d with
    | zero => exact h
    | succ d ih =>
      have e := ih (by omega)
      rcases run_succ (fs := fs) (k + d) f vs with q | q
      · rw [e] at q; cases q
      · rw [Nat.add_succ, q, e]
/-! ### checks by the kernel -/
mutual
def TV.eqb : TV → TV → Bool
  | .non, .non => true
  | .bl a, .bl b => a == b
  | .int a, .int b => a == b
  | .str a, .str b => a == b
  | .tup a, .tup b => eqbs a b
  | .lst a, .lst b => eqbs a b
  | .rol a, .rol b => eqbs a b
  | _, _ => false
def eqbs : List TV → List TV → Bool
  | [], [] => true
  | a :: as, b :: bs => a.eqb b && eqbs as bs
  | _, _ => false
end
mutual
theorem eqb_eq : ∀ {a b : TV}, a.eqb b = true → a = b
  | .non, .non, _ => rfl
  | .bl a, .bl b, h => by simp only [TV.eqb, beq_iff_eq] at h; rw [h]
  | .int a, .int b, h => by simp only [TV.eqb, beq_iff_eq] at h; rw [h]
  | .str a, .str b, h => by simp only [TV.eqb, beq_iff_eq] at h; rw [h]
  | .tup a, .tup b, h => by simp only [TV.eqb] at h; rw [eqbs_eq h]
  | .lst a, .lst b, h => by simp only [TV.eqb] at h; rw [eqbs_eq h]
  | .rol a, .rol b, h => by simp only [TV.eqb] at h; rw [eqbs_eq h]
theorem eqbs_eq : ∀ {a b : List TV}, eqbs a b = true → a = b
  | [], [], _ => rfl
  | a :: as, b :: bs, h => by
    simp only [eqbs, Bool.and_eq_true] at h
    rw [eqb_eq h.1, eqbs_eq h.2]
end
def okIs (r : RT SV) (s : SV) : Bool :=
  match r, s with
  | .ok (.val v) [], .val w => v.eqb w
  | .ok (.live v) [], .live w => eqbs v w
  | _, _ => false
theorem okIs_eq {r : RT SV} {s : SV} (h : okIs r s = true) : r = .ok s [] := by
  unfold okIs at h
  split at h
  · rw [eqb_eq h]
  · rw [eqbs_eq h]
  · cases h
end Vt
end
section
set_option Elab.async false
set_option linter.all false
set_option maxRecDepth 100000
set_option maxHeartbeats 4000000
namespace Lw
open PySem Mn Vt
/-- all_orders -/
def b0 : MSs := (.cons (.asg 1 (.lst (.cons (.tup .nil) .nil)))
    (.cons (.for_ (.name 2) (.range1 (.var 0)) (.cons (.asg 3 (.lst .nil))
      (.cons (.for_ (.name 4) (.seq (.var 1)) (.cons (.expr (.meth .extend (.var 3) (.cons (.lc [5] (.name 5) (.range1 (.var 0)) (.some (.cmp .NotIn (.var 5) (.var 4))) (.bin .Add (.var 4) (.tup (.cons (.var 5) .nil)))) .nil)))
        .nil))
      (.cons (.asg 1 (.var 3))
      .nil))))
    (.cons (.ret (.var 1))
    .nil)))
def fn0 : Fn := ⟨1, 6, b0⟩
/-- orders_of -/
def b1 : MSs := (.cons (.asg 1 (.int 1))
    (.cons (.for_ (.name 2) (.range1 (.var 0)) (.cons (.asg 1 (.bin .Mult (.var 1) (.bin .Add (.var 2) (.int 1))))
      .nil))
    (.cons (.ret (.var 1))
    .nil)))
def fn1 : Fn := ⟨1, 3, b1⟩
/-- number_of -/
def b2 : MSs := (.cons (.asg 1 (.int 0))
    (.cons (.for_ (.tup (.cons (.name 2) (.cons (.name 3) .nil))) (.enum (.var 0)) (.cons (.asg 1 (.bin .Add (.bin .Mult (.var 1) (.bin .Sub (.bcall .len (.cons (.var 0) .nil)) (.var 2))) (.bcall .len (.cons (.lc [4] (.name 4) (.seq (.sl (.var 0) (.some (.bin .Add (.var 2) (.int 1))) .none)) (.some (.cmp .Lt (.var 4) (.var 3))) (.var 4)) .nil))))
      .nil))
    (.cons (.ret (.var 1))
    .nil)))
def fn2 : Fn := ⟨1, 5, b2⟩
/-- order_at -/
def b3 : MSs := (.cons (.asg 2 (.bcall .listR1 (.cons (.var 0) .nil)))
    (.cons (.asg 3 (.call 1 (.cons (.var 0) .nil)))
    (.cons (.asg 4 (.tup .nil))
    (.cons (.while_ (.cmp .Gt (.bcall .len (.cons (.var 2) .nil)) (.int 0)) (.cons (.asg 3 (.bin .FloorDiv (.var 3) (.bcall .len (.cons (.var 2) .nil))))
      (.cons (.asg 4 (.bin .Add (.var 4) (.tup (.cons (.meth .pop (.var 2) (.cons (.bin .FloorDiv (.var 1) (.var 3)) .nil)) .nil))))
      (.cons (.asg 1 (.bin .Mod (.var 1) (.var 3)))
      .nil))))
    (.cons (.ret (.var 4))
    .nil)))))
def fn3 : Fn := ⟨2, 5, b3⟩
/-- _law_box -/
def b4 : MSs := (.cons (.asg 2 (.bin .Add (.bin .Mult (.int 7919) (.var 1)) (.int 11)))
    (.cons (.ife (.cmp .Lt (.var 1) (.bcall .len (.cons (.var 0) .nil))) (.cons (.asg 2 (.ix (.var 0) (.var 1)))
      .nil) (.cons (.ife (.cmp .Gt (.bcall .len (.cons (.var 0) .nil)) (.int 0)) (.cons (.asg 2 (.bin .Add (.var 2) (.bin .Mult (.bin .Mod (.ix (.var 0) (.bin .Mod (.var 1) (.bcall .len (.cons (.var 0) .nil)))) (.int 2147483629)) (.int 69623))))
        .nil) .nil)
      .nil))
    (.cons (.asg 3 (.bin .Add (.bin .Mod (.bin .Add (.bin .Mult (.bin .Mod (.var 2) (.int 2147483629)) (.int 48271)) (.bin .Mult (.int 40692) (.var 1))) (.int 2147483629)) (.int 1)))
    (.cons (.ret (.lst (.cons (.bin .Mult (.var 2) (.bcall .int (.cons (.cmp .GtE (.var 2) (.bin .Pow (.int 10) (.int 18))) .nil))) (.cons (.var 3) .nil))))
    .nil))))
def fn4 : Fn := ⟨2, 4, b4⟩
/-- _law_orders -/
def b6_C0 : ME := (.cmp .NotIn (.var 5) (.var 4))
def b6_E0 : ME := (.bin .Add (.var 4) (.tup (.cons (.var 5) .nil)))
def b6_L1 : MSs := (.cons (.expr (.meth .extend (.var 3) (.cons (.lc [5] (.name 5) (.range1 (.var 0)) (.some b6_C0) b6_E0) .nil)))
        .nil)
def b6_L0 : MSs := (.cons (.asg 3 (.lst .nil))
      (.cons (.for_ (.name 4) (.seq (.var 1)) b6_L1)
      (.cons (.asg 1 (.var 3))
      .nil)))
def b6 : MSs := (.cons (.asg 1 (.lst (.cons (.tup .nil) .nil)))
    (.cons (.for_ (.name 2) (.range1 (.var 0)) b6_L0)
    (.cons (.ret (.var 1))
    .nil)))
def fn6 : Fn := ⟨1, 6, b6⟩
/-- puts_ahead -/
def b11 : MSs := (.cons (.ret (.cmp .Lt (.meth .index (.var 0) (.cons (.var 1) .nil)) (.meth .index (.var 0) (.cons (.var 2) .nil))))
    .nil)
def fn11 : Fn := ⟨3, 3, b11⟩
/-- how_many -/
def b24_L0 : MSs := (.cons (.asg 2 (.bin .Mult (.var 2) (.call 1 (.cons (.var 1) .nil))))
      .nil)
def b24 : MSs := (.cons (.asg 2 (.int 1))
    (.cons (.for_ (.name 3) (.range1 (.var 0)) b24_L0)
    (.cons (.ret (.var 2))
    .nil)))
def fn24 : Fn := ⟨2, 4, b24⟩
/-- saying_at -/
def b25_L0 : MSs := (.cons (.asg 4 (.bin .Add (.tup (.cons (.call 3 (.cons (.var 1) (.cons (.bin .Mod (.var 2) (.var 3)) .nil))) .nil)) (.var 4)))
      (.cons (.asg 2 (.bin .FloorDiv (.var 2) (.var 3)))
      .nil))
def b25 : MSs := (.cons (.asg 3 (.call 1 (.cons (.var 1) .nil)))
    (.cons (.asg 4 (.tup .nil))
    (.cons (.for_ (.name 5) (.range1 (.var 0)) b25_L0)
    (.cons (.ret (.var 4))
    .nil))))
def fn25 : Fn := ⟨3, 6, b25⟩
/-- place_of -/
def b26_L0 : MSs := (.cons (.asg 2 (.bin .Add (.bin .Mult (.var 2) (.var 1)) (.call 2 (.cons (.var 3) .nil))))
      .nil)
def b26 : MSs := (.cons (.asg 1 (.call 1 (.cons (.bcall .len (.cons (.ix (.var 0) (.int 0)) .nil)) .nil)))
    (.cons (.asg 2 (.int 0))
    (.cons (.for_ (.name 3) (.seq (.var 0)) b26_L0)
    (.cons (.ret (.var 2))
    .nil))))
def fn26 : Fn := ⟨1, 4, b26⟩
/-- said_otherwise -/
def b32 : MSs := (.cons (.ret (.bin .Add (.bin .Add (.sl (.var 0) .none (.some (.var 1))) (.tup (.cons (.var 2) .nil))) (.sl (.var 0) (.some (.bin .Add (.var 1) (.int 1))) .none)))
    .nil)
def fn32 : Fn := ⟨3, 3, b32⟩
/-- _law_sayings -/
def b138 : MSs := (.cons (.asg 2 (.lst (.cons (.tup .nil) .nil)))
    (.cons (.for_ (.name 3) (.range1 (.var 0)) (.cons (.asg 4 (.lst .nil))
      (.cons (.for_ (.name 5) (.seq (.var 2)) (.cons (.expr (.meth .extend (.var 4) (.cons (.lc [6] (.name 6) (.seq (.call 6 (.cons (.var 1) .nil))) .none (.bin .Add (.var 5) (.tup (.cons (.var 6) .nil)))) .nil)))
        .nil))
      (.cons (.asg 2 (.var 4))
      .nil))))
    (.cons (.ret (.var 2))
    .nil)))
def fn138 : Fn := ⟨2, 7, b138⟩
/-- _law_ahead -/
def b144 : MSs := (.cons (.ret (.cmp .Lt (.meth .index (.var 0) (.cons (.var 1) .nil)) (.meth .index (.var 0) (.cons (.var 2) .nil))))
    .nil)
def fn144 : Fn := ⟨3, 3, b144⟩
/-- _law_first -/
def b145 : MSs := (.cons (.ret (.ix (.lc [2] (.name 2) (.seq (.var 0)) (.some (.cmp .In (.var 2) (.var 1))) (.var 2)) (.int 0)))
    .nil)
def fn145 : Fn := ⟨2, 3, b145⟩
/-- answer -/
def b155 : MSs := (.cons (.ret (.ix (.ix (.var 0) (.int 2)) (.call 26 (.cons (.var 1) .nil))))
    .nil)
def fn155 : Fn := ⟨2, 2, b155⟩
/-- gains_by -/
def b177 : MSs := (.cons (.asg 4 (.call 155 (.cons (.var 0) (.cons (.var 2) .nil))))
    (.cons (.asg 5 (.call 155 (.cons (.var 0) (.cons (.call 32 (.cons (.var 2) (.cons (.var 1) (.cons (.var 3) .nil)))) .nil))))
    (.cons (.ret (.call 11 (.cons (.ix (.var 2) (.var 1)) (.cons (.var 5) (.cons (.var 4) .nil)))))
    .nil)))
def fn177 : Fn := ⟨4, 6, b177⟩
/-- _law_places -/
def b182_E1 : ME := (.meth .index (.var 1) (.cons (.var 2) .nil))
def b182_E0 : ME := (.lc [2] (.name 2) (.range1 (.var 0)) .none b182_E1)
def b182 : MSs := (.cons (.ret (.lc [1] (.name 1) (.seq (.call 6 (.cons (.var 0) .nil))) .none b182_E0))
    .nil)
def fn182 : Fn := ⟨1, 3, b182⟩
/-- _law_strides -/
def b183_L0 : MSs := (.cons (.asg 2 (.bin .Add (.lst (.cons (.bin .Mult (.ix (.var 2) (.int 0)) (.var 1)) .nil)) (.var 2)))
      .nil)
def b183 : MSs := (.cons (.asg 2 (.lst (.cons (.int 1) .nil)))
    (.cons (.for_ (.name 3) (.range2 (.int 1) (.ix (.var 0) (.int 0))) b183_L0)
    (.cons (.ret (.var 2))
    .nil)))
def fn183 : Fn := ⟨2, 4, b183⟩
/-- _law_gain_numbers -/
def b185_L2 : MSs := (.cons (.asg 14 (.ix (.var 8) (.bin .Add (.var 9) (.bin .Mult (.bin .Sub (.var 13) (.var 12)) (.ix (.var 4) (.var 11))))))
          (.cons (.ife (.cmp .Lt (.ix (.ix (.var 2) (.var 12)) (.var 14)) (.ix (.ix (.var 2) (.var 12)) (.var 10))) (.cons (.expr (.meth .append (.var 5) (.cons (.tup (.cons (.var 9) (.cons (.var 11) (.cons (.var 13) .nil)))) .nil)))
            .nil) .nil)
          .nil))
def b185_L1 : MSs := (.cons (.asg 12 (.bin .Mod (.bin .FloorDiv (.var 9) (.ix (.var 4) (.var 11))) (.var 3)))
        (.cons (.for_ (.name 13) (.seq (.ix (.var 1) (.var 12))) b185_L2)
        .nil))
def b185_L0 : MSs := (.cons (.for_ (.name 11) (.range1 (.var 6)) b185_L1)
      .nil)
def b185 : MSs := (.cons (.asgT (.tup (.cons (.name 6) (.cons (.name 7) (.cons (.name 8) .nil)))) (.var 0))
    (.cons (.asg 2 (.call 182 (.cons (.var 7) .nil)))
    (.cons (.asg 3 (.bcall .len (.cons (.var 2) .nil)))
    (.cons (.asg 4 (.call 183 (.cons (.tup (.cons (.var 6) (.cons (.var 7) .nil))) (.cons (.var 3) .nil))))
    (.cons (.asg 5 (.lst .nil))
    (.cons (.for_ (.tup (.cons (.name 9) (.cons (.name 10) .nil))) (.enum (.var 8)) b185_L0)
    (.cons (.ret (.var 5))
    .nil)))))))
def fn185 : Fn := ⟨2, 15, b185⟩
/-- gain_orders -/
def b396_L0 : MSs := (.cons (.ife (.call 177 (.cons (.var 0) (.cons (.var 2) (.cons (.var 1) (.cons (.var 4) .nil))))) (.cons (.expr (.meth .append (.var 3) (.cons (.bcall .tuple (.cons (.bcall .srtSet (.cons (.bin .Add (.var 1) (.tup (.cons (.var 4) .nil))) .nil)) .nil)) .nil)))
        .nil) .nil)
      .nil)
def b396 : MSs := (.cons (.asgT (.tup (.cons (.name 5) (.cons (.name 6) (.cons (.name 7) .nil)))) (.var 0))
    (.cons (.asg 3 (.lst .nil))
    (.cons (.for_ (.name 4) (.seq (.call 0 (.cons (.var 6) .nil))) b396_L0)
    (.cons (.ret (.var 3))
    .nil))))
def fn396 : Fn := ⟨3, 8, b396⟩
/-- fewest -/
def b397_L2 : MSs := (.cons (.ife (.or (.cons (.cmp .Is (.var 1) .non) (.cons (.cmp .Lt (.tup (.cons (.bcall .len (.cons (.var 7) .nil)) (.cons (.var 7) .nil))) (.tup (.cons (.bcall .len (.cons (.var 1) .nil)) (.cons (.var 1) .nil)))) .nil))) (.cons (.asg 1 (.var 7))
            .nil) .nil)
          .nil)
def b397_L1 : MSs := (.cons (.for_ (.name 7) (.seq (.call 396 (.cons (.var 0) (.cons (.call 25 (.cons (.var 3) (.cons (.var 4) (.cons (.var 2) .nil)))) (.cons (.var 6) .nil))))) b397_L2)
        .nil)
def b397_L0 : MSs := (.cons (.for_ (.name 6) (.range1 (.var 3)) b397_L1)
      .nil)
def b397 : MSs := (.cons (.asgT (.tup (.cons (.name 3) (.cons (.name 4) (.cons (.name 5) .nil)))) (.var 0))
    (.cons (.asg 1 .non)
    (.cons (.for_ (.name 2) (.range1 (.call 24 (.cons (.var 3) (.cons (.var 4) .nil)))) b397_L0)
    (.cons (.ret (.var 1))
    .nil))))
def fn397 : Fn := ⟨1, 8, b397⟩
/-- _law_fewest -/
def b398_E0 : ME := (.bin .Mod (.bin .FloorDiv (.var 7) (.var 12)) (.var 1))
def b398_L0 : MSs := (.cons (.asg 10 (.bcall .srtSet (.cons (.bin .Add (.lc [12] (.name 12) (.seq (.var 2)) .none b398_E0) (.lst (.cons (.var 9) .nil))) .nil)))
      (.cons (.ife (.or (.cons (.cmp .Is (.var 3) .non) (.cons (.cmp .Lt (.tup (.cons (.bcall .len (.cons (.var 10) .nil)) (.cons (.var 10) .nil))) (.var 3)) .nil))) (.cons (.asg 3 (.tup (.cons (.bcall .len (.cons (.var 10) .nil)) (.cons (.var 10) .nil))))
        .nil) .nil)
      .nil))
def b398_E1 : ME := (.ix (.call 6 (.cons (.var 5) .nil)) (.var 11))
def b398 : MSs := (.cons (.asgT (.tup (.cons (.name 4) (.cons (.name 5) (.cons (.name 6) .nil)))) (.var 0))
    (.cons (.asg 1 (.bcall .len (.cons (.call 6 (.cons (.var 5) .nil)) .nil)))
    (.cons (.asg 2 (.call 183 (.cons (.tup (.cons (.var 4) (.cons (.var 5) .nil))) (.cons (.var 1) .nil))))
    (.cons (.asg 3 .non)
    (.cons (.for_ (.tup (.cons (.name 7) (.cons (.name 8) (.cons (.name 9) .nil)))) (.seq (.call 185 (.cons (.var 0) (.cons (.bin .Mult (.lst (.cons (.bcall .listR1 (.cons (.var 1) .nil)) .nil)) (.var 1)) .nil)))) b398_L0)
    (.cons (.ife (.cmp .Is (.var 3) .non) (.cons (.ret .non)
      .nil) .nil)
    (.cons (.ret (.bcall .tuple (.cons (.lc [11] (.name 11) (.seq (.ix (.var 3) (.int 1))) .none b398_E1) .nil)))
    .nil)))))))
def fn398 : Fn := ⟨1, 13, b398⟩
/-- law -/
def b399_L0 : MSs := (.cons (.asg 3 (.call 4 (.cons (.var 0) (.cons (.var 2) .nil))))
      (.cons (.asg 4 (.call 10027 (.cons (.var 3) .nil)))
      (.cons (.ife (.cmp .Eq (.var 4) (.tup (.cons (.int 2) (.cons (.int 4) .nil)))) (.cons (.asg 4 (.tup (.cons (.int 2) (.cons (.int 3) .nil))))
        .nil) .nil)
      (.cons (.asg 5 (.call 10147 (.cons (.var 3) (.cons (.var 4) .nil))))
      (.cons (.expr (.meth .append (.var 1) (.cons (.tup (.cons (.var 5) (.cons (.call 398 (.cons (.var 5) .nil)) .nil))) .nil)))
      .nil)))))
def b399_E0 : ME := (.cmp .Eq (.bcall .repr (.cons (.call 397 (.cons (.var 5) .nil)) .nil)) (.bcall .repr (.cons (.var 6) .nil)))
def b399 : MSs := (.cons (.asg 1 (.lst .nil))
    (.cons (.for_ (.name 2) (.range1 (.bcall .max2 (.cons (.int 1) (.cons (.bcall .min2 (.cons (.int 2) (.cons (.bcall .len (.cons (.var 0) .nil)) .nil))) .nil)))) b399_L0)
    (.cons (.ret (.bcall .all (.cons (.lc [5, 6] (.tup (.cons (.name 5) (.cons (.name 6) .nil))) (.seq (.bin .Add (.var 1) (.sl (.var 1) .none (.some (.int 1))))) .none b399_E0) .nil)))
    .nil)))
def fn399 : Fn := ⟨1, 7, b399⟩
/-- _law_take -/
def b10005 : MSs := (.cons (.ife (.cmp .Gt (.ix (.var 0) (.int 0)) (.int 0)) (.cons (.asg 3 (.bin .Mod (.ix (.var 0) (.int 0)) (.var 1)))
      (.cons (.setix (.var 0) (.int 0) (.bin .FloorDiv (.ix (.var 0) (.int 0)) (.var 1)))
      (.cons (.ret (.var 3))
      .nil))) .nil)
    (.cons (.asg 2 (.bin .Mod (.bin .Mult (.ix (.var 0) (.int 1)) (.int 69623)) (.int 2147483647)))
    (.cons (.setix (.var 0) (.int 1) (.bin .Add (.bin .Mod (.bin .Add (.bin .Mult (.var 2) (.int 48271)) (.int 30103)) (.int 2147483629)) (.int 1)))
    (.cons (.ret (.bin .Mod (.bin .FloorDiv (.bin .Add (.bin .Mult (.var 2) (.int 2147483647)) (.ix (.var 0) (.int 1))) (.int 8191)) (.var 1)))
    .nil))))
def fn10005 : Fn := ⟨2, 4, b10005⟩
/-- _law_some -/
def b10014 : MSs := (.cons (.asg 2 (.lc [3] (.name 3) (.range1 (.var 1)) (.some (.cmp .Eq (.call 10005 (.cons (.var 0) (.cons (.int 2) .nil))) (.int 1))) (.var 3)))
    (.cons (.ife (.cmp .Eq (.bcall .len (.cons (.var 2) .nil)) (.int 0)) (.cons (.expr (.meth .append (.var 2) (.cons (.call 10005 (.cons (.var 0) (.cons (.var 1) .nil))) .nil)))
      .nil) .nil)
    (.cons (.ret (.bcall .tuple (.cons (.var 2) .nil)))
    .nil)))
def fn10014 : Fn := ⟨2, 4, b10014⟩
/-- _law_sizes -/
def b10027 : MSs := (.cons (.asg 1 (.lst (.cons (.tup (.cons (.int 2) (.cons (.int 3) .nil))) (.cons (.tup (.cons (.int 2) (.cons (.int 3) .nil))) (.cons (.tup (.cons (.int 2) (.cons (.int 3) .nil))) (.cons (.tup (.cons (.int 3) (.cons (.int 3) .nil))) (.cons (.tup (.cons (.int 3) (.cons (.int 3) .nil))) (.cons (.tup (.cons (.int 1) (.cons (.int 3) .nil))) (.cons (.tup (.cons (.int 2) (.cons (.int 2) .nil))) (.cons (.tup (.cons (.int 3) (.cons (.int 2) .nil))) .nil))))))))))
    (.cons (.asg 1 (.bin .Add (.var 1) (.lst (.cons (.tup (.cons (.int 1) (.cons (.int 4) .nil))) (.cons (.tup (.cons (.int 1) (.cons (.int 2) .nil))) (.cons (.tup (.cons (.int 2) (.cons (.int 3) .nil))) (.cons (.tup (.cons (.int 2) (.cons (.int 3) .nil))) (.cons (.tup (.cons (.int 3) (.cons (.int 3) .nil))) (.cons (.tup (.cons (.int 2) (.cons (.int 3) .nil))) (.cons (.tup (.cons (.int 1) (.cons (.int 4) .nil))) (.cons (.tup (.cons (.int 2) (.cons (.int 4) .nil))) .nil)))))))))))
    (.cons (.ret (.ix (.var 1) (.call 10005 (.cons (.var 0) (.cons (.int 16) .nil)))))
    .nil)))
def fn10027 : Fn := ⟨1, 2, b10027⟩
/-- _law_answers -/
def b10146_E0 : ME := (.ix (.var 4) (.call 10005 (.cons (.var 0) (.cons (.bcall .len (.cons (.var 4) .nil)) .nil))))
def b10146_E1 : ME := (.call 145 (.cons (.ix (.var 8) (.var 5)) (.cons (.var 4) .nil)))
def b10146_E2 : ME := (.call 10014 (.cons (.var 0) (.cons (.var 9) .nil)))
def b10146_E4 : ME := (.call 144 (.cons (.ix (.var 8) (.var 16)) (.cons (.var 11) (.cons (.var 12) .nil))))
def b10146_E3 : ME := (.bcall .all (.cons (.lc [16] (.name 16) (.seq (.var 15)) .none b10146_E4) .nil))
def b10146_L0 : MSs := (.cons (.asg 13 (.lc [15] (.name 15) (.seq (.var 6)) .none b10146_E3))
      (.cons (.expr (.meth .append (.var 7) (.cons (.ix (.lst (.cons (.var 12) (.cons (.var 11) .nil))) (.bcall .int (.cons (.cmp .In (.bl true) (.var 13)) .nil))) .nil)))
      .nil))
def b10146 : MSs := (.cons (.asgT (.tup (.cons (.name 9) (.cons (.name 10) .nil))) (.var 1))
    (.cons (.asg 2 (.call 10005 (.cons (.var 0) (.cons (.int 6) .nil))))
    (.cons (.asg 3 (.call 138 (.cons (.var 9) (.cons (.var 10) .nil))))
    (.cons (.asg 4 (.call 10014 (.cons (.var 0) (.cons (.var 10) .nil))))
    (.cons (.asg 5 (.call 10005 (.cons (.var 0) (.cons (.var 9) .nil))))
    (.cons (.ife (.cmp .Lt (.var 2) (.int 2)) (.cons (.ret (.lc [8] (.name 8) (.seq (.var 3)) .none b10146_E0))
      .nil) .nil)
    (.cons (.ife (.cmp .Lt (.var 2) (.int 4)) (.cons (.ret (.lc [8] (.name 8) (.seq (.var 3)) .none b10146_E1))
      .nil) .nil)
    (.cons (.asgT (.tup (.cons (.name 11) (.cons (.name 12) .nil))) (.tup (.cons (.ix (.var 4) (.int 0)) (.cons (.ix (.var 4) (.neg (.int 1))) .nil))))
    (.cons (.asg 6 (.lc [14] (.name 14) (.range1 (.bin .Add (.int 1) (.call 10005 (.cons (.var 0) (.cons (.int 2) .nil))))) .none b10146_E2))
    (.cons (.asg 7 (.lst .nil))
    (.cons (.for_ (.name 8) (.seq (.var 3)) b10146_L0)
    (.cons (.ret (.var 7))
    .nil))))))))))))
def fn10146 : Fn := ⟨2, 17, b10146⟩
/-- _law_table -/
def b10147 : MSs := (.cons (.asg 2 (.call 10146 (.cons (.var 0) (.cons (.var 1) .nil))))
    (.cons (.for_ (.name 3) (.range1 (.bcall .max2 (.cons (.int 0) (.cons (.bin .Sub (.call 10005 (.cons (.var 0) (.cons (.int 4) .nil))) (.int 1)) .nil)))) (.cons (.setix (.var 2) (.call 10005 (.cons (.var 0) (.cons (.bcall .len (.cons (.var 2) .nil)) .nil))) (.call 10005 (.cons (.var 0) (.cons (.ix (.var 1) (.int 1)) .nil))))
      .nil))
    (.cons (.ret (.bin .Add (.var 1) (.tup (.cons (.bcall .tuple (.cons (.var 2) .nil)) .nil))))
    .nil)))
def fn10147 : Fn := ⟨2, 4, b10147⟩
def fs : List (Nat × Fn) := [(0, fn0), (1, fn1), (2, fn2), (3, fn3), (11, fn11), (24, fn24), (25, fn25), (26, fn26), (32, fn32), (155, fn155), (177, fn177), (396, fn396), (397, fn397), (4, fn4), (10005, fn10005), (6, fn6), (138, fn138), (10027, fn10027), (10014, fn10014), (144, fn144), (145, fn145), (10146, fn10146), (10147, fn10147), (182, fn182), (183, fn183), (185, fn185), (398, fn398), (399, fn399)]
theorem tabs : tabOk fs = true := by decide +kernel
end Lw
end
section
set_option Elab.async false
set_option linter.all false
set_option maxRecDepth 100000
set_option maxHeartbeats 1000000
namespace Vt
open PySem Mn
theorem pow18 : binT .Pow (.int 10) (.int 18) = some (.val (.int 1000000000000000000)) := by
  have e : (10 : Int) ^ (18 : Int).toNat = 1000000000000000000 := by decide
  show (if (0 : Int) ≤ 18 ∧ (18 : Int) ≤ 1000000 ∧ (10 : Int).natAbs < 2 ^ 64 then vI ((10 : Int) ^ (18 : Int).toNat) else none) = _
  rw [if_pos (by decide), e]; rfl
theorem isMul_r {i j : Int} (h : -(2 ^ 64) < j) (h' : j < 2 ^ 64) : isMul i j = true := by simp only [isMul, decide_eq_true h, decide_eq_true h']; simp
theorem isMul_l {i j : Int} (h : -(2 ^ 64) < i) (h' : i < 2 ^ 64) : isMul i j = true := by simp only [isMul, decide_eq_true h, decide_eq_true h']; simp
theorem mul_r {i j : Int} (h : -(2 ^ 64) < j) (h' : j < 2 ^ 64) : binT .Mult (.int i) (.int j) = some (.val (.int (i * j))) := by simp [isMul_r h h']
theorem bx_m (c : Int) : isMul c (if (1000000000000000000 : Int) ≤ c then 1 else 0) = true := by
  split <;> exact isMul_r (by decide) (by decide)
theorem bx_0 (c : Int) : 0 ≤ c * (if (1000000000000000000 : Int) ≤ c then 1 else 0) := by
  split
  · rw [Int.mul_one]; omega
  · rw [Int.mul_zero]; exact Int.le_refl 0
theorem bx_e (i : Nat) {n : Nat} (h : 0 < n) : ixOf n ((i : Int) % (n : Int)) = some (i % n) := by
  have : (i : Int) % (n : Int) = ((i % n : Nat) : Int) := rfl
  have := Nat.mod_lt i h
  simp only [ixOf]
  rw [if_pos (by omega), if_pos (by omega)]
  rfl
/-- a box -/
def BX (s : SV) : Prop := ∃ a b : Int, s = .live [.int a, .int b] ∧ 0 ≤ a ∧ 1 ≤ b
theorem kpos {k n : Nat} (h : n + 1 ≤ k) : ∃ j, k = j + 1 ∧ n ≤ j := ⟨k - 1, by omega, by omega⟩
end Vt
namespace Lw
open PySem Mn Vt
/-- a def that draws: whatever the box, a thing of a sort is told, and a box is left -/
def Dr (n f : Nat) (args : List TV) (P : SV → Prop) : Prop := ∀ k, n ≤ k → ∀ b, BX b → ∃ r b', BX b' ∧ P r ∧ runT fs k f (b :: args.map SV.val) = .ok r [some b']
theorem take_dr {w : Int} (h1 : 0 < w) (h2 : w < 1073741824) : Dr 1 10005 [.int w] fun r => ∃ d : Nat, r = .val (.int d) ∧ (d : Int) < w := by
  rintro k hk _ ⟨a, b, rfl, ha, hb⟩
  obtain ⟨k, rfl, -⟩ := kpos hk
  by_cases hp : 0 < a
  · obtain ⟨d, hd⟩ := Int.eq_ofNat_of_zero_le (Int.emod_nonneg a (show w ≠ 0 by omega))
    refine ⟨.val (.int (a % w)), .live [.int (a / w), .int b], ⟨_, _, rfl, Int.ediv_nonneg ha (by omega), hb⟩, ⟨d, by rw [hd], by rw [← hd]; exact Int.emod_lt_of_pos _ h1⟩, ?_⟩
    rw [run_atT (F := fn10005) rfl k _ rfl]
    simp [fn10005, b10005, startT, ixT, ixOf, hp, h1, h2]
  · let q := b * 69623 % 2147483647
    obtain ⟨d, hd⟩ := Int.eq_ofNat_of_zero_le (Int.emod_nonneg ((q * 2147483647 + ((q * 48271 + 30103) % 2147483629 + 1)) / 8191) (show w ≠ 0 by omega))
    refine ⟨.val (.int ((q * 2147483647 + ((q * 48271 + 30103) % 2147483629 + 1)) / 8191 % w)), .live [.int a, .int ((q * 48271 + 30103) % 2147483629 + 1)], ⟨_, _, rfl, ha, by omega⟩, ⟨d, by rw [hd], by rw [← hd]; exact Int.emod_lt_of_pos _ h1⟩, ?_⟩
    rw [run_atT (F := fn10005) rfl k _ rfl]
    simp [fn10005, b10005, startT, ixT, ixOf, hp, h1, h2, q, isMul_r]
/-- a draw below a number -/
theorem take_n {w : Nat} (h1 : 0 < w) (h2 : w ≤ 1000000) : Dr 1 10005 [.int w] fun r => ∃ d : Nat, r = .val (.int d) ∧ d < w := by
  intro k hk b hb
  obtain ⟨r, b', q1, ⟨d, rfl, hd⟩, q4⟩ := take_dr (w := (w : Int)) (by omega) (by omega) k hk b hb
  exact ⟨_, b', q1, ⟨d, rfl, by omega⟩, q4⟩
def b4r : MSs := (.cons (.asg 3 (.bin .Add (.bin .Mod (.bin .Add (.bin .Mult (.bin .Mod (.var 2) (.int 2147483629)) (.int 48271)) (.bin .Mult (.int 40692) (.var 1))) (.int 2147483629)) (.int 1)))
    (.cons (.ret (.lst (.cons (.bin .Mult (.var 2) (.bcall .int (.cons (.cmp .GtE (.var 2) (.bin .Pow (.int 10) (.int 18))) .nil))) (.cons (.var 3) .nil)))) .nil))
theorem b4_eq : b4 = (.cons (.asg 2 (.bin .Add (.bin .Mult (.int 7919) (.var 1)) (.int 11)))
    (.cons (.ife (.cmp .Lt (.var 1) (.bcall .len (.cons (.var 0) .nil))) (.cons (.asg 2 (.ix (.var 0) (.var 1)))
      .nil) (.cons (.ife (.cmp .Gt (.bcall .len (.cons (.var 0) .nil)) (.int 0)) (.cons (.asg 2 (.bin .Add (.var 2) (.bin .Mult (.bin .Mod (.ix (.var 0) (.bin .Mod (.var 1) (.bcall .len (.cons (.var 0) .nil)))) (.int 2147483629)) (.int 69623))))
        .nil) .nil)
      .nil)) b4r)) := rfl
theorem b4r_ok (cf : CFT) (t : TV) (i c : Int) : ∃ b, BX b ∧ endT 4 (evSsT cf b4r [some (.val t), some (.val (.int i)), some (.val (.int c)), none]) = .ok b [] := by
  refine ⟨.live [.int (c * (if (1000000000000000000 : Int) ≤ c then 1 else 0)), .int ((c % 2147483629 * 48271 + 40692 * i) % 2147483629 + 1)], ⟨_, _, rfl, bx_0 c, by omega⟩, ?_⟩
  simp [b4r, pow18, bx_m, isMul_r, isMul_l]
/-- the box of a cell -/
theorem box_ok (k : Nat) (hk : 1 ≤ k) (i : Nat) (ns : List Int) : ∃ b, BX b ∧ runT fs k 4 [.val (.rol (ns.map TV.int)), .val (.int i)] = .ok b [] := by
  obtain ⟨k, rfl, -⟩ := kpos hk
  rw [run_atT (F := fn4) rfl k _ rfl]
  have st : startT fn4.nn [.val (.rol (ns.map TV.int)), .val (.int i)] = [some (.val (.rol (ns.map TV.int))), some (.val (.int i)), none, none] := rfl
  rw [st]
  show ∃ b, BX b ∧ endT 4 (evSsT _ b4 _) = _
  rw [b4_eq]
  by_cases hi : i < ns.length
  · obtain ⟨b, hb, e⟩ := b4r_ok (runT fs k) (.rol (ns.map TV.int)) i ns[i]
    refine ⟨b, hb, e.symm.trans ?_ |>.symm⟩
    simp [ixT, ixOf, hi, isMul_l]
  · by_cases hz : 0 < ns.length
    · obtain ⟨x, hx⟩ : ∃ x, ns[i % ns.length]? = some x := ⟨_, List.getElem?_eq_getElem (Nat.mod_lt i hz)⟩
      obtain ⟨b, hb, e⟩ := b4r_ok (runT fs k) (.rol (ns.map TV.int)) i (7919 * (i : Int) + 11 + x % 2147483629 * 69623)
      refine ⟨b, hb, e.symm.trans ?_ |>.symm⟩
      simp [ixT, hi, hz, bx_e i hz, hx, isMul_l, isMul_r]
    · obtain ⟨b, hb, e⟩ := b4r_ok (runT fs k) (.rol (ns.map TV.int)) i (7919 * (i : Int) + 11)
      refine ⟨b, hb, e.symm.trans ?_ |>.symm⟩
      simp [hi, hz, isMul_l]
end Lw
end
section
set_option Elab.async false
set_option linter.all false
set_option maxRecDepth 100000
set_option maxHeartbeats 1000000
namespace Lw
open PySem Mn Vt
/-- the hands of the set that has a number -/
def hin (n : Nat) : List Nat := (List.range 3).filter fun h => n / 2 ^ h % 2 == 1
def nI (l : List Nat) : List Int := l.map fun (k : Nat) => (k : Int)
end Lw
end
section
set_option Elab.async false
set_option linter.all false
set_option maxRecDepth 100000
set_option maxHeartbeats 1000000
namespace Vt
open PySem Mn
theorem rng_n {n : Nat} (h : n ≤ 1000000) : rng1 (.int (n : Int)) = some ((List.range n).map fun (k : Nat) => TV.int (k : Int)) := by
  rw [rng1_i, inR (by omega) (by omega), if_pos rfl, rangeT_0, iota, List.map_map]; rfl
end Vt
namespace Lw
open PySem Mn Vt
theorem nI_map (l : List Nat) : (nI l).map TV.int = l.map fun (k : Nat) => TV.int (k : Int) := by simp [nI, List.map_map]
end Lw
end
section
set_option Elab.async false
set_option linter.all false
set_option maxRecDepth 100000
set_option maxHeartbeats 1000000
namespace Mn
open PySem
theorem toD_tup_ (xs : List PV) : (PV.tup xs).toD = .tuple (PV.toD.toDs xs) := by rw [PV.toD]
theorem dats_all_ : ∀ (xs : List PV) (d : Nat), PV.dat.dats xs d = xs.all fun x => x.dat d
  | [], d => rfl
  | x :: xs, d => by rw [PV.dat.dats, List.all_cons, dats_all_ xs d]
theorem dat_tup_ (d : Nat) (xs : List PV) : (PV.tup xs).dat d = (decide (0 < d) && xs.all fun x => x.dat (d - 1)) := by
  rw [PV.dat, dats_all_]
/-! ### what repr tells is not too long -/
/-- signs of a text -/
def okS (x : Str) : Prop := ∀ c ∈ x.cps.toList, c < 1114112
theorem okS_app {x y : Str} (hx : okS x) (hy : okS y) : okS (x ++ y) := by
  intro c hc
  have e : (x ++ y).cps = x.cps ++ y.cps := rfl
  rw [e, Array.toList_append] at hc
  rcases List.mem_append.mp hc with h | h
  · exact hx c h
  · exact hy c h
theorem okS_of (s : String) : okS (Str.ofString s) := by
  intro c hc
  rw [Str.ofString_eq_toList] at hc
  have hc : c ∈ s.toList.map Char.toNat := by simpa using hc
  obtain ⟨ch, _, rfl⟩ := List.mem_map.mp hc
  have := ch.valid
  rcases this with h | ⟨_, h⟩
  · exact Nat.lt_trans h (by decide)
  · exact h
theorem okS_join {sep : String} : ∀ {ts : List Str}, (∀ t ∈ ts, okS t) → okS (Str.join (Str.ofString sep) ts)
  | [], _ => by intro c hc; cases hc
  | [t], h => h t List.mem_cons_self
  | t :: u :: ts, h => okS_app (okS_app (h t List.mem_cons_self) (okS_of sep)) (okS_join fun v hv => h v (List.mem_cons_of_mem _ hv))
theorem okS_tupleText {ts : List Str} (h : ∀ t ∈ ts, okS t) : okS (tupleText ts) := okS_app (okS_app (okS_of "(") (okS_join h)) (okS_of _)
def Rp (d n : Nat) (v : PV) : Prop := v.dat d = true ∧ v.toD.showable = true ∧ v.toD.shown.length ≤ n ∧ okS v.toD.shown
theorem dat_mono : ∀ {v : PV} {d e : Nat}, v.dat d = true → d ≤ e → v.dat e = true
  | .non, d, e, _, _ => by simp [PV.dat]
  | .bl _, d, e, _, _ => by simp [PV.dat]
  | .int _, d, e, _, _ => by simp [PV.dat]
  | .str _, d, e, h, _ => by rw [PV.dat] at h ⊢; exact h
  | .ref _, d, e, h, _ => by rw [PV.dat] at h; cases h
  | .tup xs, d, e, h, hl => by
    rw [dat_tup_, Bool.and_eq_true, decide_eq_true_eq, List.all_eq_true] at h ⊢
    exact ⟨by omega, fun x hx => dat_mono (h.2 x hx) (by omega)⟩
theorem Rp.mono {d e n m : Nat} {v : PV} (h : Rp d n v) (hd : d ≤ e) (hn : n ≤ m) : Rp e m v := ⟨dat_mono h.1 hd, h.2.1, Nat.le_trans h.2.2.1 hn, h.2.2.2⟩
theorem Rp.non : Rp 0 4 .non := ⟨by simp [PV.dat], rfl, by simp only [PV.toD, PyData.shown]; decide, okS_of _⟩
theorem Rp.bl (b : Bool) : Rp 0 5 (.bl b) := ⟨by simp [PV.dat], rfl, by simp only [PV.toD, PyData.shown]; cases b <;> decide, by simp only [PV.toD, PyData.shown]; cases b <;> exact okS_of _⟩
theorem Rp.int {i : Int} (h : i.natAbs < 10 ^ 10) : Rp 0 11 (.int i) := by
  refine ⟨by simp [PV.dat], ?_, ?_, by simp only [PV.toD, PyData.shown]; exact okS_of _⟩
  · simp only [PV.toD, PyData.showable, decide_eq_true_eq]
    have h2 : i.natAbs < 2 ^ 64 := Nat.lt_trans h (by decide)
    by_cases h0 : i.natAbs = 0
    · rw [h0]; decide
    · have := (Nat.log2_lt h0).mpr h2
      omega
  · simp only [PV.toD, PyData.shown]
    have := int_text_length_le10 (a := i) (k := 10) (by decide) h
    rw [ofString_length]
    omega
theorem piled_le {n : Nat} : ∀ {ts : List Str}, (∀ t ∈ ts, t.length ≤ n) → piled ts ≤ ts.length * (n + 2)
  | [], _ => by simp [piled]
  | t :: ts, h => by
    rw [piled_cons, List.length_cons, Nat.succ_mul]
    have h1 := h t List.mem_cons_self
    have h2 := piled_le (n := n) (ts := ts) fun u hu => h u (List.mem_cons_of_mem _ hu)
    omega
theorem tupleText_le {n : Nat} {ts : List Str} (h : ∀ t ∈ ts, t.length ≤ n) : (tupleText ts).length ≤ ts.length * (n + 2) + 3 := by
  unfold tupleText
  rw [strLen_append, strLen_append]
  have e1 : ((("(" : String) : Str)).length = 1 := rfl
  have e3 : (((if ts.length == 1 then ",)" else ")" : String) : Str)).length ≤ 2 := by split <;> decide
  have e2 : (Str.join ", " ts).length ≤ ts.length * (n + 2) := by
    cases ts with
    | nil => exact Nat.zero_le _
    | cons t ts =>
      have := join_length_add (t :: ts) (by simp)
      have := piled_le h
      omega
  omega
theorem shownAll_mem : ∀ {xs : List PV} {t : Str}, t ∈ PyData.shownAll (PV.toD.toDs xs) → ∃ x ∈ xs, t = x.toD.shown
  | [], t, h => by rw [PV.toD.toDs, PyData.shownAll] at h; cases h
  | x :: xs, t, h => by
    rw [PV.toD.toDs, PyData.shownAll, List.mem_cons] at h
    rcases h with rfl | h
    · exact ⟨x, List.mem_cons_self, rfl⟩
    · obtain ⟨y, hy, e⟩ := shownAll_mem h
      exact ⟨y, List.mem_cons_of_mem _ hy, e⟩
theorem shownAll_len : ∀ xs : List PV, (PyData.shownAll (PV.toD.toDs xs)).length = xs.length
  | [] => by rw [PV.toD.toDs, PyData.shownAll]; rfl
  | x :: xs => by rw [PV.toD.toDs, PyData.shownAll, List.length_cons, shownAll_len xs, List.length_cons]
theorem showableAll_of : ∀ {xs : List PV}, (∀ x ∈ xs, x.toD.showable = true) → PyData.showableAll (PV.toD.toDs xs) = true
  | [], _ => by rw [PV.toD.toDs, PyData.showableAll]
  | x :: xs, h => by
    rw [PV.toD.toDs, PyData.showableAll, h x List.mem_cons_self, showableAll_of fun y hy => h y (List.mem_cons_of_mem _ hy)]; rfl
theorem Rp.tup {d n m : Nat} {xs : List PV} (h : ∀ x ∈ xs, Rp d n x) (hm : xs.length ≤ m) : Rp (d + 1) (m * (n + 2) + 3) (.tup xs) := by
  refine ⟨?_, ?_, ?_, ?_⟩
  · rw [dat_tup_, Bool.and_eq_true, decide_eq_true_eq, List.all_eq_true]
    exact ⟨by omega, fun x hx => (h x hx).1⟩
  · rw [toD_tup_, PyData.showable]
    exact showableAll_of fun x hx => (h x hx).2.1
  · rw [toD_tup_, PyData.shown]
    have := tupleText_le (n := n) (ts := PyData.shownAll (PV.toD.toDs xs)) fun t ht => by
      obtain ⟨x, hx, rfl⟩ := shownAll_mem ht
      exact (h x hx).2.2.1
    rw [shownAll_len] at this
    have h2 : xs.length * (n + 2) ≤ m * (n + 2) := Nat.mul_le_mul_right _ hm
    omega
  · rw [toD_tup_, PyData.shown]
    refine okS_tupleText fun t ht => ?_
    obtain ⟨x, hx, rfl⟩ := shownAll_mem ht
    exact (h x hx).2.2.2
end Mn
namespace Vt
open PySem Mn
/-- what repr can tell of -/
def Rq (d n : Nat) (t : TV) : Prop := Rp d n t.toP
theorem Rq.mono {d e n m : Nat} {v : TV} (h : Rq d n v) (hd : d ≤ e) (hn : n ≤ m) : Rq e m v := Rp.mono h hd hn
theorem Rq.non : Rq 0 4 .non := Rp.non
theorem Rq.bl (b : Bool) : Rq 0 5 (.bl b) := Rp.bl b
theorem Rq.int {i : Int} (h : i.natAbs < 10 ^ 10) : Rq 0 11 (.int i) := Rp.int h
theorem Rq.tup {d n m : Nat} {xs : List TV} (h : ∀ x ∈ xs, Rq d n x) (hm : xs.length ≤ m) : Rq (d + 1) (m * (n + 2) + 3) (.tup xs) := by
  have e : (TV.tup xs).toP = .tup (xs.map TV.toP) := by rw [← toPs_map]; rfl
  unfold Rq
  rw [e]
  refine Rp.tup (fun x hx => ?_) (by rw [List.length_map]; exact hm)
  obtain ⟨y, hy, rfl⟩ := List.mem_map.mp hx
  exact h y hy
theorem Rq.sh {d n : Nat} {v : TV} (h : Rq d n v) (hd : d ≤ 60) : shT v = true := dat_mono h.1 hd
theorem Rq.li {d n : Nat} {v : TV} (h : Rq d n v) : v.li = none := by
  cases v with
  | lst _ => exact absurd h.1 (by simp [TV.toP, PV.dat])
  | rol _ => exact absurd h.1 (by simp [TV.toP, PV.dat])
  | _ => rfl
theorem repr_q {d n : Nat} {v : TV} (h : Rq d n v) (hd : d ≤ 60) (hn : n ≤ 16777216) : bcallT .repr [v] = some (.val (.str v.toP.toD.shown)) := by
  have hs := h.sh hd
  have hr : repOk v.toP.toD = true := by
    unfold repOk
    have hl : v.toP.toD.shown.length ≤ LIM := Nat.le_trans h.2.2.1 hn
    rw [h.2.1, decide_eq_true hl]; rfl
  simp only [bcallT, h.li, hs, hr, Bool.and_self, if_true]
theorem eq_str {x : Str} (hx : okS x) : cmpT .Eq (.str x) (.str x) = some (.val (.bl true)) := by
  have hs : shT (.str x) = true := by
    show shallow (.str x) = true
    rw [shallow, PV.dat, List.all_eq_true]; intro c hc; simpa using hx c hc
  have : eqT (.str x) (.str x) = some true := by
    simp only [eqT, TV.li, hs, Bool.and_self, if_true]
    show some ((PV.str x).eqv (.str x)) = _
    rw [PV.eqv]; simp
  simp [cmpT, this]
end Vt
end
section
set_option Elab.async false
set_option linter.all false
set_option maxRecDepth 100000
set_option maxHeartbeats 1000000
namespace Vt
open PySem Mn
theorem enum_getD : ∀ (m : List Int) (i : Nat), enumT i (m.map TV.int) = (List.range m.length).map fun (n : Nat) => TV.tup [.int ((i + n : Nat) : Int), .int (m.getD n 0)]
  | [], i => rfl
  | x :: m, i => by
    rw [List.map_cons, enumT, enum_getD m (i + 1), List.length_cons, List.range_succ_eq_map, List.map_cons, List.map_map]
    have e : (List.range m.length).map (fun (n : Nat) => TV.tup [.int ((i + 1 + n : Nat) : Int), .int (m.getD n 0)]) = (List.range m.length).map ((fun (n : Nat) => TV.tup [.int ((i + n : Nat) : Int), .int ((x :: m).getD n 0)]) ∘ Nat.succ) :=
      List.map_congr_left fun n _ => by
        simp only [Function.comp]
        rw [show i + 1 + n = i + n.succ by omega]
        rfl
    rw [e]
    rfl
end Vt
namespace Lw
open PySem Mn Vt
end Lw
end
section
set_option Elab.async false
set_option linter.all false
set_option maxRecDepth 100000
set_option maxHeartbeats 1000000
namespace Vt
open PySem Mn
theorem range_split {N x : Nat} {d r : List Nat} (h : List.range N = d ++ x :: r) : x = d.length ∧ x < N ∧ d = List.range x := by
  have h1 : (List.range N)[d.length]? = some x := by rw [h]; simp
  obtain ⟨h2, h3⟩ := List.getElem?_eq_some_iff.mp h1
  rw [List.length_range] at h2
  rw [List.getElem_range] at h3
  refine ⟨h3.symm, by omega, ?_⟩
  have h4 : (List.range N).take d.length = d := by rw [h, List.take_left]
  rw [← h4, List.take_range, ← h3, Nat.min_eq_left (by omega)]
end Vt
namespace Lw
open PySem Mn Vt
end Lw
end
section
set_option Elab.async false
set_option linter.all false
set_option maxRecDepth 100000
set_option maxHeartbeats 1000000
namespace Vt
open PySem Mn
end Vt
namespace Lw
open PySem Mn Vt
end Lw
end
section
set_option Elab.async false
set_option linter.all false
set_option maxRecDepth 100000
set_option maxHeartbeats 1000000
namespace Vt
open PySem Mn
end Vt
namespace Lw
open PySem Mn Vt
theorem flat_len {α β : Type} (f : α → List β) {n : Nat} : ∀ (l : List α), (∀ x ∈ l, (f x).length = n) → (l.flatMap f).length = l.length * n
  | [], _ => by simp
  | x :: l, h => by
    rw [List.flatMap_cons, List.length_append, h x List.mem_cons_self, flat_len f l fun y hy => h y (List.mem_cons_of_mem _ hy), List.length_cons, Nat.succ_mul]; omega
end Lw
end
section
set_option Elab.async false
set_option linter.all false
set_option maxRecDepth 100000
set_option maxHeartbeats 1000000
namespace Vt
open PySem Mn
end Vt
namespace Lw
open PySem Mn Vt
/-- whether an order has x ahead of y -/
def ah (x y : Nat) (o : List Int) : Bool := decide (idx o x < idx o y)
def cnt (C : List (List Int)) (x y : Nat) : Nat := (C.filter (ah x y)).length
def OD (t : Nat) (o : List Int) : Prop := o.Perm (iota t)
theorem OD.mem {t : Nat} {o : List Int} (h : OD t o) {x : Nat} (hx : x < t) : (x : Int) ∈ o := h.mem_iff.mpr (mem_iota.mpr ⟨by omega, by omega⟩)
theorem OD.len {t : Nat} {o : List Int} (h : OD t o) : o.length = t := by rw [h.length_eq, iota_len]
theorem puts_ok {t x y : Nat} {o : List Int} (h : OD t o) (hx : x < t) (hy : y < t) {k : Nat} (hk : 1 ≤ k) : runT fs k 11 [.val (tZ o), .val (.int (x : Nat)), .val (.int (y : Nat))] = .ok (.val (.bl (ah x y o))) [] := by
  obtain ⟨k, rfl, -⟩ := kpos hk
  have i1 := index_tI (h.mem hx)
  have i2 := index_tI (h.mem hy)
  rw [run_atT (F := fn11) rfl k _ rfl]
  have st : startT fn11.nn [.val (tZ o), .val (.int (x : Nat)), .val (.int (y : Nat))] = [some (.val (tZ o)), some (.val (.int (x : Nat))), some (.val (.int (y : Nat)))] := rfl
  rw [st]
  have rc : recvT .index (some (tZ o)) = true := rfl
  unfold ah
  generalize idx o x = u at *
  generalize idx o y = v at *
  generalize tZ o = T at *
  simp [fn11, b11, i1, i2, rc]
end Lw
end
section
set_option Elab.async false
set_option linter.all false
set_option maxRecDepth 100000
set_option maxHeartbeats 1000000
namespace Lw
open PySem Mn Vt
def tN (l : List Nat) : TV := .tup (l.map fun (y : Nat) => TV.int (y : Int))
def more (C : List (List Int)) (x y : Nat) : Bool := decide (y ≠ x) && decide (C.length < 2 * cnt C x y)
end Lw
end
section
set_option Elab.async false
set_option linter.all false
set_option maxRecDepth 100000
set_option maxHeartbeats 1000000
namespace Lw
open PySem Mn Vt
end Lw
end
section
set_option Elab.async false
set_option linter.all false
set_option maxRecDepth 100000
set_option maxHeartbeats 1000000
namespace Vt
open PySem Mn
theorem cut_from (xs : List TV) {r : Nat} (h : r ≤ xs.length) : cutT xs (some (r : Int)) none = xs.drop r := by
  unfold cutT
  have e1 : sIx xs.length 0 (some (r : Int)) = r := by
    show (if (0 : Int) ≤ (r : Int) then Nat.min (r : Int).toNat xs.length else ((r : Int) + xs.length).toNat) = r
    rw [if_pos (by omega), Int.toNat_natCast]; exact Nat.min_eq_left h
  have e2 : sIx xs.length xs.length none = xs.length := rfl
  rw [e1, e2, List.take_of_length_le (by rw [List.length_drop]; exact Nat.le_refl _)]
theorem cut_to (xs : List TV) (r : Nat) : cutT xs none (some (r : Int)) = xs.take r := by
  unfold cutT
  have e1 : sIx xs.length xs.length (some (r : Int)) = min r xs.length := by
    show (if (0 : Int) ≤ (r : Int) then Nat.min (r : Int).toNat xs.length else ((r : Int) + xs.length).toNat) = _
    rw [if_pos (by omega), Int.toNat_natCast]
  have e2 : sIx xs.length 0 none = 0 := rfl
  rw [e1, e2, Nat.sub_zero, List.drop_zero, List.take_eq_take_iff]
  omega
end Vt
namespace Lw
open PySem Mn Vt
end Lw
end
section
set_option Elab.async false
set_option linter.all false
set_option maxRecDepth 100000
set_option maxHeartbeats 1000000
namespace Lw
open PySem Mn Vt
/-- all orders, in order -/
def ORn (t : Nat) : Nat → List (List Int)
  | 0 => [[]]
  | j + 1 => (ORn t j).flatMap fun l => ((iota t).filter fun x => !l.contains x).map fun x => l ++ [x]
def OR (t : Nat) : List (List Int) := ORn t t
theorem orders_all : ((List.range 5).all fun t => okIs (runT fs 1 0 [.val (.int (t : Nat))]) (.live ((OR t).map tZ))) = true := by decide +kernel
theorem lorders_all : ((List.range 5).all fun t => okIs (runT fs 1 6 [.val (.int (t : Nat))]) (.live ((OR t).map tZ))) = true := by decide +kernel
theorem orders_ok {t : Nat} (ht : t ≤ 4) {k : Nat} (hk : 1 ≤ k) : runT fs k 0 [.val (.int (t : Nat))] = .ok (.live ((OR t).map tZ)) [] :=
  run_up (okIs_eq (List.all_eq_true.mp orders_all t (List.mem_range.mpr (by omega)))) hk
theorem lorders_ok {t : Nat} (ht : t ≤ 4) {k : Nat} (hk : 1 ≤ k) : runT fs k 6 [.val (.int (t : Nat))] = .ok (.live ((OR t).map tZ)) [] :=
  run_up (okIs_eq (List.all_eq_true.mp lorders_all t (List.mem_range.mpr (by omega)))) hk
theorem OR_perm : ∀ t ≤ 4, ∀ o ∈ OR t, (o.isPerm (iota t)) = true := by decide +kernel
theorem OR_OD {t : Nat} (ht : t ≤ 4) {o : List Int} (ho : o ∈ OR t) : OD t o := List.isPerm_iff.mp (OR_perm t ht o ho)
theorem OR_len : ∀ t ≤ 4, (OR t).length ≤ 24 := by decide +kernel
/-- all sayings, in order -/
def SYn (t : Nat) : Nat → List (List (List Int))
  | 0 => [[]]
  | c + 1 => (SYn t c).flatMap fun s => (OR t).map fun o => s ++ [o]
def tS (s : List (List Int)) : TV := .tup (s.map tZ)
theorem SY_mem (t : Nat) : ∀ c, ∀ s ∈ SYn t c, s.length = c ∧ ∀ o ∈ s, o ∈ OR t
  | 0, s, h => by
    rw [SYn, List.mem_singleton] at h; subst h; exact ⟨rfl, by simp⟩
  | c + 1, s, h => by
    rw [SYn, List.mem_flatMap] at h
    obtain ⟨l, h1, h2⟩ := h
    obtain ⟨o, h3, rfl⟩ := List.mem_map.mp h2
    obtain ⟨h4, h5⟩ := SY_mem t c l h1
    refine ⟨by simp [h4], fun y hy => ?_⟩
    rcases List.mem_append.mp hy with hy | hy
    · exact h5 y hy
    · simp at hy; subst hy; exact h3
theorem SY_len (t : Nat) : ∀ c, (SYn t c).length = (OR t).length ^ c
  | 0 => rfl
  | c + 1 => by
    rw [SYn, flat_len (n := (OR t).length) _ _ (fun x _ => by simp), SY_len t c, Nat.pow_succ]
theorem SY_le {t c : Nat} (ht : t ≤ 4) (hc : c ≤ 3) : (SYn t c).length ≤ 13824 := by
  rw [SY_len]
  exact Nat.le_trans (Nat.pow_le_pow_left (OR_len t ht) c) (Nat.pow_le_pow_right (n := 24) (by decide) hc)
theorem add_tS {s : List (List Int)} {o : List Int} (h : s.length ≤ 1000) : binT .Add (tS s) (.tup [tZ o]) = some (.val (tS (s ++ [o]))) := by
  have : (s.map tZ).length + [tZ o].length ≤ LIM := by rw [List.length_map, Vt.LIM_eq]; simp; omega
  unfold tS
  rw [b_tup, if_pos this, List.map_append]; rfl
end Lw
end
section
set_option Elab.async false
set_option linter.all false
set_option maxRecDepth 100000
set_option maxHeartbeats 1000000
namespace Lw
open PySem Mn Vt
abbrev gro (t : Nat) (s : List (List Int)) : List (List (List Int)) := (OR t).map fun o => s ++ [o]
def s8In : MSs := .cons (.expr (.meth .extend (.var 4) (.cons (.lc [6] (.name 6) (.seq (.call 6 (.cons (.var 1) .nil))) .none (.bin .Add (.var 5) (.tup (.cons (.var 6) .nil)))) .nil))) .nil
def s8Out : MSs := .cons (.asg 4 (.lst .nil)) (.cons (.for_ (.name 5) (.seq (.var 2)) s8In) (.cons (.asg 2 (.var 4)) .nil))
theorem b138_eq : b138 = .cons (.asg 2 (.lst (.cons (.tup .nil) .nil))) (.cons (.for_ (.name 3) (.range1 (.var 0)) s8Out) (.cons (.ret (.var 2)) .nil)) := rfl
theorem lsayings_ok {c t : Nat} (hc : c ≤ 3) (ht : t ≤ 4) {k : Nat} (hk : 2 ≤ k) : runT fs k 138 [.val (.int (c : Nat)), .val (.int (t : Nat))] = .ok (.live ((SYn t c).map tS)) [] := by
  obtain ⟨k, rfl, hk'⟩ := kpos hk
  have o1 := lorders_ok ht hk'
  have o24 := OR_len t ht
  obtain ⟨σ', e, x3, x4, x5, rfl⟩ := for_inv (g := .name 3) (body := evSsT (runT fs k) s8Out) (fun (n : Nat) => TV.int (n : Int))
    (fun d σ => ∃ (x3 x4 x5 : Option SV), σ = [some (.val (.int (c : Nat))), some (.val (.int (t : Nat))), some (.live ((SYn t d.length).map tS)), x3, x4, x5, none])
    (List.range c) [] (σ := [some (.val (.int (c : Nat))), some (.val (.int (t : Nat))), some (.live [.tup []]), none, none, none, none]) ⟨none, none, none, rfl⟩ (by
      rintro d n ⟨r, hr⟩ σ ⟨x3, x4, x5, rfl⟩
      obtain ⟨h1, hn, -⟩ := range_split hr
      rw [List.nil_append, List.length_append, ← h1, List.length_singleton]
      have am := SY_mem t n
      have p1 := SY_le (t := t) (c := n) ht (by omega)
      obtain ⟨σ', e, x5', rfl⟩ := for_inv (g := .name 5) (body := evSsT (runT fs k) s8In) tS
        (fun (b : List (List (List Int))) σ => ∃ (x5 : Option SV), σ = [some (.val (.int (c : Nat))), some (.val (.int (t : Nat))), some (.val (.lst ((SYn t n).map tS))), some (.val (.int (n : Nat))), some (.live ((b.flatMap (gro t)).map tS)), x5, none])
        (SYn t n) [] (σ := [some (.val (.int (c : Nat))), some (.val (.int (t : Nat))), some (.val (.lst ((SYn t n).map tS))), some (.val (.int (n : Nat))), some (.live []), x5, none]) ⟨x5, rfl⟩ (by
          rintro d2 s ⟨r2, hr2⟩ σ ⟨x5, rfl⟩
          obtain ⟨l1, l2⟩ := am s (by rw [hr2]; simp)
          have dl : d2.length + 1 ≤ (SYn t n).length := by
            have := congrArg List.length hr2
            simp at this; omega
          have fl := flat_len (gro t) (n := (OR t).length) d2 (fun _ _ => by simp)
          have fb : (d2.flatMap (gro t)).length ≤ 400000 := by
            rw [fl]
            exact Nat.le_trans (Nat.mul_le_mul (Nat.le_trans (Nat.le_of_succ_le dl) p1) o24) (by decide)
          rw [List.nil_append, List.flatMap_append, List.flatMap_singleton, List.map_append]
          have lc := lc_map (own := [6]) (g := .name 6) (elt := evT (runT fs k) (.bin .Add (.var 5) (.tup (.cons (.var 6) .nil)))) (σ := [some (.val (.int (c : Nat))), some (.val (.int (t : Nat))), some (.val (.lst ((SYn t n).map tS))), some (.val (.int (n : Nat))), some (.live ((d2.flatMap (gro t)).map tS)), some (.val (tS s)), none])
            tZ (fun o => tS (s ++ [o])) (OR t) [] (by rw [Vt.LIM_eq]; simp only [List.length_nil]; omega) (by
              intro o ho
              have ad := add_tS (s := s) (o := o) (by omega)
              generalize (d2.flatMap (gro t)).map tS = A at *
              generalize (SYn t n).map tS = Y at *
              generalize tS (s ++ [o]) = R at *
              generalize tS s = T at *
              generalize tZ o = U at *
              exact ⟨_, _, rfl, by simp [ad]; rfl, by simp⟩)
          rw [List.nil_append] at lc
          have lm : ((d2.flatMap (gro t)).map tS).length + ((OR t).map fun o => tS (s ++ [o])).length ≤ 16777216 := by
            rw [List.length_map, List.length_map]; omega
          have e3 : (gro t s).map tS = (OR t).map fun o => tS (s ++ [o]) := by unfold gro; rw [List.map_map]; rfl
          rw [e3]
          generalize (d2.flatMap (gro t)).map tS = A at *
          generalize (OR t).map (fun o => tS (s ++ [o])) = B at *
          generalize (OR t).map tZ = O at *
          generalize (SYn t n).map tS = Y at *
          generalize tS s = T at *
          exact ⟨[some (.val (.int (c : Nat))), some (.val (.int (t : Nat))), some (.val (.lst Y)), some (.val (.int (n : Nat))), some (.live A), some (.val T), none], [some (.val (.int (c : Nat))), some (.val (.int (t : Nat))), some (.val (.lst Y)), some (.val (.int (n : Nat))), some (.live (A ++ B)), some (.val T), none], rfl, by simp [s8In, o1, lc, lm], _, rfl⟩)
      rw [List.nil_append] at *
      refine ⟨_, [some (.val (.int (c : Nat))), some (.val (.int (t : Nat))), some (.live ((SYn t (n + 1)).map tS)), some (.val (.int (n : Nat))), none, x5', none], rfl, ?_, _, _, _, rfl⟩
      have e4 : SYn t (n + 1) = (SYn t n).flatMap (gro t) := rfl
      rw [e4]
      generalize ((SYn t n).flatMap (gro t)).map tS = B at *
      generalize (SYn t n).map tS = D at *
      simp [s8Out, e])
  rw [List.nil_append, List.length_range] at e
  have r1 := rng_n (n := c) (by omega)
  rw [run_atT (F := fn138) rfl k _ rfl]
  show endT 138 (evSsT _ b138 _) = _
  rw [b138_eq]
  have st : startT fn138.nn [.val (.int (c : Nat)), .val (.int (t : Nat))] = [some (.val (.int (c : Nat))), some (.val (.int (t : Nat))), none, none, none, none, none] := rfl
  rw [st]
  generalize (List.range c).map (fun (x : Nat) => TV.int (x : Int)) = its at *
  generalize (SYn t c).map tS = D at *
  simp [r1, e, -rng1_i]
/-- the first of some -/
def fst (o S : List Int) : Int := (o.filter fun x => decide (x ∈ S)).headD 0
theorem first_body (cf : CFT) {f : Nat} (hf : f < 10000) {o S : List Int} (ho : o.length ≤ 1000) (hS : ∃ x ∈ o, x ∈ S) (v : TV) (hv : v = tZ S ∨ v = lZ S) :
    endT f (evSsT cf (.cons (.ret (.ix (.lc [2] (.name 2) (.seq (.var 0)) (.some (.cmp .In (.var 2) (.var 1))) (.var 2)) (.int 0))) .nil) [some (.val (tZ o)), some (.val v), none]) = .ok (.val (.int (fst o S))) [] := by
  have lc := lc_filter (own := [2]) (g := .name 2) (c := evT cf (.cmp .In (.var 2) (.var 1))) (elt := evT cf (.var 2)) (σ := [some (.val (tZ o)), some (.val v), none])
    TV.int (fun x => decide (x ∈ S)) TV.int o [] (by rw [Vt.LIM_eq]; simp only [List.length_nil]; omega) (by
      intro x hx
      have ci : cmpT .In (.int x) v = some (.val (.bl (decide (x ∈ S)))) := by
        rcases hv with rfl | rfl
        · exact in_tI x S
        · exact in_lI x S
      generalize tZ o = T at *
      exact ⟨[some (.val T), some (.val v), some (.val (.int x))], [some (.val T), some (.val v), some (.val (.int x))], rfl, by simp [ci], fun _ => by simp, fun _ => ⟨_, by simp; rfl, by simp⟩⟩)
  rw [List.nil_append] at lc
  have ix : ixT (.lst ((o.filter fun x => decide (x ∈ S)).map TV.int)) (.int 0) = some (.val (.int (fst o S))) := by
    unfold fst
    cases q : o.filter fun x => decide (x ∈ S) with
    | nil =>
      obtain ⟨x, h1, h2⟩ := hS
      have : x ∈ o.filter fun x => decide (x ∈ S) := List.mem_filter.mpr ⟨h1, by simpa using h2⟩
      rw [q] at this; cases this
    | cons x l => exact ixl_at (i := 0) rfl
  have sq : seqT (tZ o) = some (o.map TV.int) := rfl
  have hf' : ¬ 10000 ≤ f := by omega
  generalize (o.filter fun x => decide (x ∈ S)).map TV.int = Z at *
  generalize o.map TV.int = its at *
  generalize fst o S = u at *
  generalize tZ o = T at *
  simp [sq, lc, ix, hf']
theorem lfirst_ok {o S : List Int} (ho : o.length ≤ 1000) (hS : ∃ x ∈ o, x ∈ S) {v : TV} (hv : v = tZ S ∨ v = lZ S) {k : Nat} (hk : 1 ≤ k) : runT fs k 145 [.val (tZ o), .val v] = .ok (.val (.int (fst o S))) [] := by
  obtain ⟨k, rfl, -⟩ := kpos hk
  rw [run_atT (F := fn145) rfl k _ rfl]
  exact first_body (runT fs k) (by decide) ho hS v hv
end Lw
end
section
set_option Elab.async false
set_option linter.all false
set_option maxRecDepth 100000
set_option maxHeartbeats 1000000
namespace Lw
open PySem Mn Vt
/-- a table of things -/
def TB (c t : Nat) (A : List Int) : Prop := 1 ≤ c ∧ c ≤ 3 ∧ 2 ≤ t ∧ t ≤ 4 ∧ A.length = (SYn t c).length ∧ ∀ x ∈ A, 0 ≤ x ∧ x < (t : Int)
def tabT (c t : Nat) (A : List Int) : TV := .tup [.int (c : Nat), .int (t : Nat), tZ A]
/-- what comes up -/
def CM (t : Nat) (A : List Int) : List Int := (iota t).filter fun x => decide (x ∈ A)
theorem SY_pos {t c : Nat} (h : OR t ≠ []) : 0 < (SYn t c).length := by
  rw [SY_len]
  have : 0 < (OR t).length := List.length_pos_iff.mpr h
  exact Nat.pow_pos this
theorem OR_ne : ∀ t ≤ 4, OR t ≠ [] := by decide +kernel
theorem TB.first {c t : Nat} {A : List Int} (h : TB c t A) {o : List Int} (ho : OD t o) : ∃ x ∈ o, x ∈ CM t A := by
  obtain ⟨_, _, _, h4, h5, h6⟩ := h
  have := SY_pos (c := c) (OR_ne t h4)
  cases A with
  | nil => rw [← h5] at this; cases this
  | cons x A =>
    have hx := h6 x List.mem_cons_self
    have hi : x ∈ iota t := mem_iota.mpr ⟨hx.1, hx.2⟩
    exact ⟨x, ho.mem_iff.mpr hi, List.mem_filter.mpr ⟨hi, by simp⟩⟩
theorem iota_map (t : Nat) : (iota t).map TV.int = (List.range t).map fun (k : Nat) => TV.int (k : Int) := by unfold iota; rw [List.map_map]; rfl
/-- a saying's orders -/
theorem say_at {c t : Nat} {s : List (List Int)} (hs : s ∈ SYn t c) {h : Nat} (hh : h < c) : ixT (tS s) (.int (h : Nat)) = some (.val (tZ (s.getD h []))) ∧ s.getD h [] ∈ OR t := by
  obtain ⟨h1, h2⟩ := SY_mem t c s hs
  have hl : h < s.length := by omega
  have e : s.getD h [] = s[h] := by rw [List.getD_eq_getElem?_getD, List.getElem?_eq_getElem hl]; rfl
  rw [e]
  exact ⟨ix_at (by rw [List.getElem?_map, List.getElem?_eq_getElem hl]; rfl), h2 _ (List.getElem_mem _)⟩
end Lw
end
section
set_option Elab.async false
set_option linter.all false
set_option maxRecDepth 100000
set_option maxHeartbeats 1000000
namespace Lw
open PySem Mn Vt
end Lw
end
section
set_option Elab.async false
set_option linter.all false
set_option maxRecDepth 100000
set_option maxHeartbeats 1000000
namespace Vt
open PySem Mn
end Vt
namespace Lw
open PySem Mn Vt
theorem eqz : ∀ a b : List Int, PV.eqv.eqvs (a.map PV.int) (b.map PV.int) = decide (a = b) := fun a => by
    induction a with
    | nil => intro b; cases b <;> simp [PV.eqv.eqvs]
    | cons x a ih =>
      intro b
      cases b with
      | nil => simp [PV.eqv.eqvs]
      | cons y b =>
        rw [List.map_cons, List.map_cons, PV.eqv.eqvs, ih]
        rw [Bool.eq_iff_iff]
        simp [PV.eqv]
end Lw
end
section
set_option Elab.async false
set_option linter.all false
set_option maxRecDepth 100000
set_option maxHeartbeats 1000000
namespace Lw
open PySem Mn Vt
/-- some of so many, one at least -/
theorem some_dr {m : Nat} (hm : 1 ≤ m) (hm' : m ≤ 1000) : Dr 2 10014 [.int (m : Nat)] fun r => ∃ H : List Nat, H ≠ [] ∧ H.length ≤ 1001 ∧ (∀ h ∈ H, h < m) ∧ r = .val (tN H) := by
  rintro k hk _ ⟨a, b, rfl, ha, hb⟩
  obtain ⟨k, rfl, hk'⟩ := kpos hk
  obtain ⟨acc, σ1, e1, ⟨a1, b1, H, ha1, hb1, hH, rfl, rfl⟩, ln⟩ := lc_inv_if (own := [3]) (g := .name 3) (c := evT (runT fs k) (.cmp .Eq (.call 10005 (.cons (.var 0) (.cons (.int 2) .nil))) (.int 1))) (elt := evT (runT fs k) (.var 3)) (fun (h : Nat) => TV.int (h : Int))
    (fun acc σ => ∃ (a b : Int) (H : List Nat), 0 ≤ a ∧ 1 ≤ b ∧ (∀ h ∈ H, h < m) ∧ acc = H.map (fun (h : Nat) => TV.int (h : Int)) ∧ σ = [some (.live [.int a, .int b]), some (.val (.int (m : Nat))), none, none])
    (List.range m) [] (σ := [some (.live [.int a, .int b]), some (.val (.int (m : Nat))), none, none]) (by rw [Vt.LIM_eq, List.length_range]; simp only [List.length_nil]; omega) ⟨a, b, [], ha, hb, by simp, rfl, rfl⟩ (by
      rintro h hh acc σ ⟨a, b, H, ha, hb, hH, rfl, rfl⟩
      obtain ⟨_, _, ⟨a2, b2, rfl, ha2, hb2⟩, ⟨d, rfl, hd⟩, e2⟩ := take_n (w := 2) (by omega) (by omega) k hk' _ ⟨a, b, rfl, ha, hb⟩
      have e2' : runT fs k 10005 [.live [.int a, .int b], .val (.int 2)] = .ok (.val (.int (d : Nat))) [some (.live [.int a2, .int b2])] := e2
      refine ⟨[some (.live [.int a, .int b]), some (.val (.int (m : Nat))), none, some (.val (.int (h : Nat)))], decide (d = 1), [some (.live [.int a2, .int b2]), some (.val (.int (m : Nat))), none, some (.val (.int (h : Nat)))], rfl, ?_, fun _ => ⟨a2, b2, H, ha2, hb2, hH, rfl, by simp⟩, fun _ => ⟨.int (h : Nat), [some (.live [.int a2, .int b2]), some (.val (.int (m : Nat))), none, some (.val (.int (h : Nat)))], by simp, a2, b2, H ++ [h], ha2, hb2, ?_, by simp, by simp⟩⟩
      · have : d = 0 ∨ d = 1 := by omega
        rcases this with rfl | rfl <;> simp at e2' <;> simp [e2']
      · intro x hx
        rcases List.mem_append.mp hx with hx | hx
        · exact hH x hx
        · simp at hx; subst hx; exact List.mem_range.mp hh)
  rw [List.length_map, List.length_range, List.length_nil, Nat.zero_add] at ln
  have r1 := rng_n (n := m) (by omega)
  have st : startT fn10014.nn (.live [.int a, .int b] :: [TV.int (m : Nat)].map SV.val) = [some (.live [.int a, .int b]), some (.val (.int (m : Nat))), none, none] := rfl
  rw [run_atT (F := fn10014) rfl k _ rfl, st]
  obtain ⟨_, _, ⟨a2, b2, rfl, ha2, hb2⟩, ⟨d, rfl, hd⟩, e2⟩ := take_n (w := m) (by omega) (by omega) k hk' _ ⟨a1, b1, rfl, ha1, hb1⟩
  simp only [List.map_cons, List.map_nil] at e2
  have lh : bcallT .len [.lst (H.map fun (h : Nat) => TV.int (h : Int))] = some (.val (.int (H.length : Nat))) := by simp
  by_cases q : H = []
  · subst q
    refine ⟨.val (tN [d]), .live [.int a2, .int b2], ⟨_, _, rfl, ha2, hb2⟩, ⟨[d], by simp, by simp, by simpa using hd, rfl⟩, ?_⟩
    generalize (List.range m).map (fun (n : Nat) => TV.int (n : Int)) = its at *
    simp at e1 lh
    simp [fn10014, b10014, r1, e1, lh, e2, tN, -rng1_i]
  · refine ⟨.val (tN H), .live [.int a1, .int b1], ⟨_, _, rfl, ha1, hb1⟩, ⟨H, q, by omega, hH, rfl⟩, ?_⟩
    have hp : ¬ (H.length : Int) = 0 := by have := List.length_pos_iff.mpr q; omega
    unfold tN
    generalize (H.map fun (h : Nat) => TV.int (h : Int)) = HH at *
    generalize (H.length : Int) = hl at *
    generalize (List.range m).map (fun (n : Nat) => TV.int (n : Int)) = its at *
    simp [fn10014, b10014, r1, e1, lh, hp, -rng1_i]
end Lw
end
section
set_option Elab.async false
set_option linter.all false
set_option maxRecDepth 100000
set_option maxHeartbeats 1000000
namespace Lw
open PySem Mn Vt
theorem ahead_ok {t x y : Nat} {o : List Int} (h : OD t o) (hx : x < t) (hy : y < t) {k : Nat} (hk : 1 ≤ k) : runT fs k 144 [.val (tZ o), .val (.int (x : Nat)), .val (.int (y : Nat))] = .ok (.val (.bl (ah x y o))) [] := by
  obtain ⟨k, rfl, -⟩ := kpos hk
  have i1 := index_tI (h.mem hx)
  have i2 := index_tI (h.mem hy)
  rw [run_atT (F := fn144) rfl k _ rfl]
  have st : startT fn144.nn [.val (tZ o), .val (.int (x : Nat)), .val (.int (y : Nat))] = [some (.val (tZ o)), some (.val (.int (x : Nat))), some (.val (.int (y : Nat)))] := rfl
  rw [st]
  have rc : recvT .index (some (tZ o)) = true := rfl
  unfold ah
  generalize idx o x = u at *
  generalize idx o y = v at *
  generalize tZ o = T at *
  simp [fn144, b144, i1, i2, rc]
def SZt : List (Nat × Nat) := [(2, 3), (2, 3), (2, 3), (3, 3), (3, 3), (1, 3), (2, 2), (3, 2), (1, 4), (1, 2), (2, 3), (2, 3), (3, 3), (2, 3), (1, 4), (2, 4)]
theorem SZt_in : ∀ p ∈ SZt, 1 ≤ p.1 ∧ p.1 ≤ 3 ∧ 2 ≤ p.2 ∧ p.2 ≤ 4 := by decide
theorem sizes_dr : Dr 2 10027 [] fun r => ∃ p ∈ SZt, r = .val (.tup [.int (p.1 : Nat), .int (p.2 : Nat)]) := by
  rintro k hk _ ⟨a, b, rfl, ha, hb⟩
  obtain ⟨k, rfl, hk'⟩ := kpos hk
  obtain ⟨_, _, ⟨a1, b1, rfl, ha1, hb1⟩, ⟨d, rfl, hd⟩, e1⟩ := take_n (w := 16) (by omega) (by omega) k hk' _ ⟨a, b, rfl, ha, hb⟩
  have e1' : runT fs k 10005 [.live [.int a, .int b], .val (.int 16)] = .ok (.val (.int (d : Nat))) [some (.live [.int a1, .int b1])] := e1
  have hd' : d < SZt.length := hd
  have ix : ixT (.lst (SZt.map fun p => TV.tup [.int (p.1 : Nat), .int (p.2 : Nat)])) (.int (d : Nat)) = some (.val (.tup [.int (SZt[d].1 : Nat), .int (SZt[d].2 : Nat)])) := ixl_at (by rw [List.getElem?_map, List.getElem?_eq_getElem hd']; rfl)
  refine ⟨_, .live [.int a1, .int b1], ⟨_, _, rfl, ha1, hb1⟩, ⟨SZt[d], List.getElem_mem _, rfl⟩, ?_⟩
  generalize SZt[d].1 = u at *
  generalize SZt[d].2 = v at *
  have st : startT fn10027.nn (.live [.int a, .int b] :: ([] : List TV).map SV.val) = [some (.live [.int a, .int b]), none] := rfl
  rw [run_atT (F := fn10027) rfl k _ rfl, st]
  simp [SZt] at ix
  simp [fn10027, b10027, e1', ix]
end Lw
end
section
set_option Elab.async false
set_option linter.all false
set_option maxRecDepth 100000
set_option maxHeartbeats 1000000
namespace Lw
open PySem Mn Vt
def AN (c t : Nat) (A : List Int) : Prop := A.length = (SYn t c).length ∧ ∀ x ∈ A, 0 ≤ x ∧ x < (t : Int)
theorem AN.set {c t : Nat} {A : List Int} (h : AN c t A) {i : Nat} {x : Int} (h0 : 0 ≤ x) (h1 : x < t) : AN c t (A.set i x) := by
  refine ⟨by rw [List.length_set]; exact h.1, fun y hy => ?_⟩
  rcases List.mem_or_eq_of_mem_set hy with hy | rfl
  · exact h.2 y hy
  · exact ⟨h0, h1⟩
theorem table_dr {c t : Nat} (c1 : 1 ≤ c) (c3 : c ≤ 3) (t2 : 2 ≤ t) (t4 : t ≤ 4) (hA : Dr 4 10146 [.tup [.int (c : Nat), .int (t : Nat)]] fun r => ∃ A, AN c t A ∧ r = .live (A.map TV.int)) :
    Dr 5 10147 [.tup [.int (c : Nat), .int (t : Nat)]] fun r => ∃ A, TB c t A ∧ r = .val (tabT c t A) := by
  rintro k hk _ ⟨a, b, rfl, ha, hb⟩
  obtain ⟨k, rfl, hk'⟩ := kpos hk
  obtain ⟨_, _, ⟨a1, b1, rfl, ha1, hb1⟩, ⟨A, hAN, rfl⟩, e1⟩ := hA k hk' _ ⟨a, b, rfl, ha, hb⟩
  obtain ⟨_, _, ⟨a2, b2, rfl, ha2, hb2⟩, ⟨d, rfl, hd⟩, e2⟩ := take_n (w := 4) (by omega) (by omega) k (by omega) _ ⟨a1, b1, rfl, ha1, hb1⟩
  simp only [List.map_cons, List.map_nil] at e1
  have e2' : runT fs k 10005 [.live [.int a1, .int b1], .val (.int 4)] = .ok (.val (.int (d : Nat))) [some (.live [.int a2, .int b2])] := e2
  have mx : bcallT .max2 [.int 0, .int ((d : Int) - 1)] = some (.val (.int ((d - 1 : Nat) : Int))) := by rw [max2_i]; congr 3; split <;> omega
  have r1 := rng_n (n := d - 1) (by omega)
  have sp := SY_pos (c := c) (OR_ne t t4)
  have sl := SY_le (t := t) (c := c) t4 c3
  obtain ⟨σ', e, a3, b3, A', x3, ha3, hb3, hA', rfl⟩ := for_inv (g := .name 3) (body := evSsT (runT fs k) (.cons (.setix (.var 2) (.call 10005 (.cons (.var 0) (.cons (.bcall .len (.cons (.var 2) .nil)) .nil))) (.call 10005 (.cons (.var 0) (.cons (.ix (.var 1) (.int 1)) .nil)))) .nil)) (fun (n : Nat) => TV.int (n : Int))
    (fun d σ => ∃ (a b : Int) (A : List Int) (x3 : Option SV), 0 ≤ a ∧ 1 ≤ b ∧ AN c t A ∧ σ = [some (.live [.int a, .int b]), some (.val (.tup [.int (c : Nat), .int (t : Nat)])), some (.live (A.map TV.int)), x3])
    (List.range (d - 1)) [] (σ := [some (.live [.int a2, .int b2]), some (.val (.tup [.int (c : Nat), .int (t : Nat)])), some (.live (A.map TV.int)), none]) ⟨a2, b2, A, none, ha2, hb2, hAN, rfl⟩ (by
      rintro d n ⟨r, hr⟩ σ ⟨a, b, A, x3, ha, hb, hAN, rfl⟩
      obtain ⟨_, _, ⟨a1, b1, rfl, ha1, hb1⟩, ⟨v, rfl, hv⟩, e1⟩ := take_n (w := t) (by omega) (by omega) k (by omega) _ ⟨a, b, rfl, ha, hb⟩
      obtain ⟨_, _, ⟨a2, b2, rfl, ha2, hb2⟩, ⟨j, rfl, hj⟩, e2⟩ := take_n (w := A.length) (by rw [hAN.1]; exact sp) (by rw [hAN.1]; omega) k (by omega) _ ⟨a1, b1, rfl, ha1, hb1⟩
      simp only [List.map_cons, List.map_nil] at e1 e2
      have i1 : ixT (.tup [.int (c : Nat), .int (t : Nat)]) (.int 1) = some (.val (.int (t : Nat))) := ix_at (i := 1) rfl
      refine ⟨_, [some (.live [.int a2, .int b2]), some (.val (.tup [.int (c : Nat), .int (t : Nat)])), some (.live ((A.set j (v : Int)).map TV.int)), some (.val (.int (n : Nat)))], rfl, ?_, a2, b2, A.set j (v : Int), _, ha2, hb2, hAN.set (by omega) (by omega), rfl⟩
      have ix : ixOf A.length (j : Int) = some j := by simp [ixOf, hj]
      have ln : bcallT .len [.lst (A.map TV.int)] = some (.val (.int (A.length : Nat))) := by simp
      rw [List.map_set]
      have lm : (A.map TV.int).length = A.length := List.length_map ..
      generalize A.map TV.int = AA at *
      simp [e1, e2, i1, ln, lm, ix])
  refine ⟨_, .live [.int a3, .int b3], ⟨_, _, rfl, ha3, hb3⟩, ⟨A', ⟨c1, c3, t2, t4, hA'.1, hA'.2⟩, rfl⟩, ?_⟩
  have st : startT fn10147.nn (.live [.int a, .int b] :: [TV.tup [.int (c : Nat), .int (t : Nat)]].map SV.val) = [some (.live [.int a, .int b]), some (.val (.tup [.int (c : Nat), .int (t : Nat)])), none, none] := rfl
  rw [run_atT (F := fn10147) rfl k _ rfl, st]
  unfold tabT tZ
  generalize A'.map TV.int = AA' at *
  generalize A.map TV.int = AA at *
  generalize (List.range (d - 1)).map (fun (n : Nat) => TV.int (n : Int)) = its at *
  generalize ((d - 1 : Nat) : Int) = dm at *
  simp [fn10147, b10147, e1, e2', mx, r1, e, -rng1_i, -max2_i]
end Lw
end
section
set_option Elab.async false
set_option linter.all false
set_option maxRecDepth 100000
set_option maxHeartbeats 1000000
namespace Lw
open PySem Mn Vt
theorem tN_tZ (H : List Nat) : tN H = tZ (nI H) := by unfold tN tZ nI; rw [List.map_map]; rfl
/-- answers by draws: the state with the box at hand -/
def F46 (c t f hd : Nat) (H : List Nat) (Y : List TV) (a b : Int) : SS := [some (.live [.int a, .int b]), some (.val (.tup [.int (c : Nat), .int (t : Nat)])), some (.val (.int (f : Nat))), some (.val (.lst Y)), some (.val (tN H)), some (.val (.int (hd : Nat))), none, none, none, some (.val (.int (c : Nat))), some (.val (.int (t : Nat))), none, none, none, none, none, none]
theorem ans_any {c t f hd : Nat} {H : List Nat} (hH : ∀ h ∈ H, h < t) (hn : H ≠ []) (hl : H.length ≤ 1001) (Y : List TV) {k : Nat} (hk : 1 ≤ k) {α : Type} (enc : α → TV) (l : List α) (ll : l.length ≤ 100000) {a b : Int} (ha : 0 ≤ a) (hb : 1 ≤ b) :
    ∃ (A : List Int) (a' b' : Int), 0 ≤ a' ∧ 1 ≤ b' ∧ A.length = l.length ∧ (∀ x ∈ A, 0 ≤ x ∧ x < (t : Int)) ∧
      lcT [8] (.name 8) none (evT (runT fs k) (.ix (.var 4) (.call 10005 (.cons (.var 0) (.cons (.bcall .len (.cons (.var 4) .nil)) .nil))))) (l.map enc) [] (F46 c t f hd H Y a b) = .ok (A.map TV.int) (F46 c t f hd H Y a' b') := by
  obtain ⟨acc, σ', e, ⟨A, a', b', ha', hb', hA, e1, e2⟩, hl'⟩ := lc_inv (own := [8]) (g := .name 8) (elt := evT (runT fs k) (.ix (.var 4) (.call 10005 (.cons (.var 0) (.cons (.bcall .len (.cons (.var 4) .nil)) .nil))))) enc
    (fun acc σ => ∃ (A : List Int) (a b : Int), 0 ≤ a ∧ 1 ≤ b ∧ (∀ x ∈ A, 0 ≤ x ∧ x < (t : Int)) ∧ acc = A.map TV.int ∧ σ = F46 c t f hd H Y a b) l [] (σ := F46 c t f hd H Y a b) (by rw [Vt.LIM_eq]; simp only [List.length_nil]; omega) ⟨[], a, b, ha, hb, by simp, rfl, rfl⟩ (by
      rintro x hx acc σ ⟨A, a, b, ha, hb, hA, rfl, rfl⟩
      have hp := List.length_pos_iff.mpr hn
      obtain ⟨_, _, ⟨a', b', rfl, ha', hb'⟩, ⟨d, rfl, hd⟩, ed⟩ := take_n (w := H.length) hp (by omega) k hk _ ⟨a, b, rfl, ha, hb⟩
      simp only [List.map_cons, List.map_nil] at ed
      have ln : bcallT .len [tN H] = some (.val (.int (H.length : Nat))) := by simp [tN]
      have ix : ixT (tN H) (.int (d : Nat)) = some (.val (.int (H[d] : Nat))) := ix_at (by rw [List.getElem?_map, List.getElem?_eq_getElem hd]; rfl)
      have hv := hH _ (List.getElem_mem hd)
      generalize H[d] = v at *
      unfold F46
      generalize tN H = HH at *
      refine ⟨_, .int (v : Nat), _, rfl, by simp [ln, ed, ix]; rfl, A ++ [(v : Int)], a', b', ha', hb', ?_, by simp, by simp⟩
      intro y hy
      rcases List.mem_append.mp hy with hy | hy
      · exact hA y hy
      · simp at hy; subst hy; omega)
  subst e1 e2
  exact ⟨A, a', b', ha', hb', by simpa using hl', hA, e⟩
theorem fst_in {o S : List Int} (hS : ∃ x ∈ o, x ∈ S) : fst o S ∈ S := by
  unfold fst
  cases q : o.filter fun x => decide (x ∈ S) with
  | nil =>
    obtain ⟨x, h1, h2⟩ := hS
    have : x ∈ o.filter fun x => decide (x ∈ S) := List.mem_filter.mpr ⟨h1, by simpa using h2⟩
    rw [q] at this; cases this
  | cons x l =>
    have : x ∈ o.filter fun x => decide (x ∈ S) := by rw [q]; exact List.mem_cons_self
    simpa using (List.mem_filter.mp this).2
theorem some_meets {t : Nat} {H : List Nat} (hH : ∀ h ∈ H, h < t) (hn : H ≠ []) {o : List Int} (ho : OD t o) : ∃ x ∈ o, x ∈ nI H := by
  cases H with
  | nil => exact absurd rfl hn
  | cons h H => exact ⟨(h : Int), ho.mem (hH h List.mem_cons_self), List.mem_map.mpr ⟨h, List.mem_cons_self, rfl⟩⟩
/-- answers by a hand -/
theorem ans_hand {c t f hd : Nat} (ht : t ≤ 4) (hc : c ≤ 3) (hh : hd < c) {H : List Nat} (hH : ∀ h ∈ H, h < t) (hn : H ≠ []) (Y : List TV) {k : Nat} (hk : 1 ≤ k) (a b : Int) :
    (∀ x ∈ (SYn t c).map (fun s => fst (s.getD hd []) (nI H)), 0 ≤ x ∧ x < (t : Int)) ∧
      lcT [8] (.name 8) none (evT (runT fs k) (.call 145 (.cons (.ix (.var 8) (.var 5)) (.cons (.var 4) .nil)))) ((SYn t c).map tS) [] (F46 c t f hd H Y a b) = .ok (((SYn t c).map fun s => fst (s.getD hd []) (nI H)).map TV.int) (F46 c t f hd H Y a b) := by
  refine ⟨fun x hx => ?_, ?_⟩
  · obtain ⟨s, hs, rfl⟩ := List.mem_map.mp hx
    have od := OR_OD ht (say_at hs hh).2
    obtain ⟨h, h1, h2⟩ := List.mem_map.mp (fst_in (some_meets hH hn od))
    have := hH h h1
    have h2 : (h : Int) = fst (s.getD hd []) (nI H) := h2
    show 0 ≤ fst (s.getD hd []) (nI H) ∧ fst (s.getD hd []) (nI H) < (t : Int)
    rw [← h2]; omega
  · have lc := lc_map (own := [8]) (g := .name 8) (elt := evT (runT fs k) (.call 145 (.cons (.ix (.var 8) (.var 5)) (.cons (.var 4) .nil)))) (σ := F46 c t f hd H Y a b)
      tS (fun s => TV.int (fst (s.getD hd []) (nI H))) (SYn t c) [] (by have := SY_le (t := t) (c := c) ht hc; rw [Vt.LIM_eq]; simp only [List.length_nil]; omega) (by
        intro s hs
        obtain ⟨i1, oo⟩ := say_at hs hh
        have od := OR_OD ht oo
        have e := lfirst_ok (o := s.getD hd []) (S := nI H) (by rw [od.len]; omega) (some_meets hH hn od) (v := tN H) (.inl (tN_tZ H)) hk
        generalize fst (s.getD hd []) (nI H) = u at *
        generalize tZ (s.getD hd []) = O at *
        generalize tS s = U at *
        unfold F46
        generalize tN H = HH at *
        exact ⟨_, _, rfl, by simp [i1, e]; rfl, by simp⟩)
    rw [List.nil_append] at lc
    rw [List.map_map]
    exact lc
end Lw
end
section
set_option Elab.async false
set_option linter.all false
set_option maxRecDepth 100000
set_option maxHeartbeats 1000000
namespace Lw
open PySem Mn Vt
theorem in_bls (B : List Bool) : ∃ r, cmpT .In (.bl true) (.lst (B.map TV.bl)) = some (.val (.bl r)) := by
  have sh : (B.map TV.bl).all shT = true := by rw [List.all_eq_true]; intro x hx; obtain ⟨i, _, rfl⟩ := List.mem_map.mp hx; rfl
  have s1 : shT (.bl true) = true := rfl
  refine ⟨(B.map TV.bl).any fun y => y.toP.eqv (TV.bl true).toP, ?_⟩
  have : inT (.bl true) (.lst (B.map TV.bl)) = some ((B.map TV.bl).any fun y => y.toP.eqv (TV.bl true).toP) := by
    unfold inT
    simp only [TV.seq, sh, s1, Bool.and_self, if_true]
  simp only [cmpT, this]
  rfl
def eIn : ME := .bcall .all (.cons (.lc [16] (.name 16) (.seq (.var 15)) .none (.call 144 (.cons (.ix (.var 8) (.var 16)) (.cons (.var 11) (.cons (.var 12) .nil))))) .nil)
/-- whether all of a set put x ahead of y -/
def setA (s : List (List Int)) (x y : Nat) (H : List Nat) : Bool := H.all fun h => ah x y (s.getD h [])
theorem set_elt {c t x y : Nat} (ht : t ≤ 4) (hx : x < t) (hy : y < t) {s : List (List Int)} (hs : s ∈ SYn t c) {H : List Nat} (hH : ∀ h ∈ H, h < c) (hl : H.length ≤ 1001) {k : Nat} (hk : 1 ≤ k) (p0 p1 p2 p3 p4 p5 : Option SV) (y6 : SV) (D : List TV) (x13 x14 : Option SV) :
    kF (evT (runT fs k) eIn [p0, p1, p2, p3, p4, p5, some y6, some (.live D), some (.val (tS s)), some (.val (.int (c : Nat))), some (.val (.int (t : Nat))), some (.val (.int (x : Nat))), some (.val (.int (y : Nat))), x13, x14, some (.val (tN H)), none])
      = .ok (.bl (setA s x y H)) [p0, p1, p2, p3, p4, p5, some y6, some (.live D), some (.val (tS s)), some (.val (.int (c : Nat))), some (.val (.int (t : Nat))), some (.val (.int (x : Nat))), some (.val (.int (y : Nat))), x13, x14, some (.val (tN H)), none] := by
  have lc := lc_map (own := [16]) (g := .name 16) (elt := evT (runT fs k) (.call 144 (.cons (.ix (.var 8) (.var 16)) (.cons (.var 11) (.cons (.var 12) .nil))))) (σ := [p0, p1, p2, p3, p4, p5, some y6, some (.live D), some (.val (tS s)), some (.val (.int (c : Nat))), some (.val (.int (t : Nat))), some (.val (.int (x : Nat))), some (.val (.int (y : Nat))), x13, x14, some (.val (tN H)), none])
    (fun (h : Nat) => TV.int (h : Int)) (fun h => TV.bl (ah x y (s.getD h []))) H [] (by rw [Vt.LIM_eq]; simp only [List.length_nil]; omega) (by
      intro h hh
      obtain ⟨i1, oo⟩ := say_at hs (hH h hh)
      have e := ahead_ok (OR_OD ht oo) hx hy hk
      generalize ah x y (s.getD h []) = u at *
      generalize tZ (s.getD h []) = O at *
      generalize tS s = U at *
      generalize tN H = HH at *
      exact ⟨_, _, rfl, by simp [i1, e]; rfl, by simp⟩)
  rw [List.nil_append] at lc
  have al : bcallT .all [.lst (H.map fun h => TV.bl (ah x y (s.getD h [])))] = some (.val (.bl (setA s x y H))) := by
    have := all_l (H.map fun h => ah x y (s.getD h []))
    rw [List.map_map, List.all_map] at this
    exact this
  have sq : seqT (tN H) = some (H.map fun (h : Nat) => TV.int (h : Int)) := rfl
  generalize (H.map fun h => TV.bl (ah x y (s.getD h []))) = B at *
  generalize (H.map fun (h : Nat) => TV.int (h : Int)) = its at *
  generalize setA s x y H = u at *
  generalize tN H = HH at *
  generalize tS s = U at *
  simp [eIn, sq, lc, al]
end Lw
end
section
set_option Elab.async false
set_option linter.all false
set_option maxRecDepth 100000
set_option maxHeartbeats 1000000
namespace Vt
open PySem Mn
theorem ix_last {xs : List TV} (h : xs ≠ []) : ixT (.tup xs) (.int (-1)) = some (.val (xs.getLast h)) := by
  have hl := List.length_pos_iff.mpr h
  have e : ixOf xs.length (-1) = some (xs.length - 1) := by
    unfold ixOf
    rw [if_neg (by omega), if_pos (by omega)]
    congr 1
    omega
  have e2 : xs[xs.length - 1]? = some (xs.getLast h) := by
    rw [List.getLast_eq_getElem, List.getElem?_eq_getElem]
  simp [ixT, e, e2]
end Vt
namespace Lw
open PySem Mn Vt
theorem set_turn {c t x y : Nat} (ht : t ≤ 4) (hx : x < t) (hy : y < t) {s : List (List Int)} (hs : s ∈ SYn t c) {S : List (List Nat)} (hS : ∀ H ∈ S, (∀ h ∈ H, h < c) ∧ H.length ≤ 1001) (hSl : S.length ≤ 1000) {k : Nat} (hk : 1 ≤ k)
    (p0 p1 p2 p3 p4 p5 : Option SV) (y6 : SV) (h6 : y6 = .live (S.map tN) ∨ y6 = .val (.lst (S.map tN))) (D : List TV) (hD : D.length < 100000) (x13 : Option SV) :
    ∃ (v : Nat) (x13' : Option SV), v < t ∧ evSsT (runT fs k) b10146_L0 [p0, p1, p2, p3, p4, p5, some y6, some (.live D), some (.val (tS s)), some (.val (.int (c : Nat))), some (.val (.int (t : Nat))), some (.val (.int (x : Nat))), some (.val (.int (y : Nat))), x13, none, none, none]
      = .ok .next [p0, p1, p2, p3, p4, p5, some (.val (.lst (S.map tN))), some (.live (D ++ [.int (v : Nat)])), some (.val (tS s)), some (.val (.int (c : Nat))), some (.val (.int (t : Nat))), some (.val (.int (x : Nat))), some (.val (.int (y : Nat))), x13', none, none, none] := by
  have lc := lc_map (own := [15]) (g := .name 15) (elt := evT (runT fs k) b10146_E3) (σ := [p0, p1, p2, p3, p4, p5, some (.val (.lst (S.map tN))), some (.live D), some (.val (tS s)), some (.val (.int (c : Nat))), some (.val (.int (t : Nat))), some (.val (.int (x : Nat))), some (.val (.int (y : Nat))), x13, none, none, none])
    tN (fun H => TV.bl (setA s x y H)) S [] (by rw [Vt.LIM_eq]; simp only [List.length_nil]; omega) (by
      intro H hH
      have e := set_elt ht hx hy hs (hS H hH).1 (hS H hH).2 hk p0 p1 p2 p3 p4 p5 (.val (.lst (S.map tN))) D x13 none
      generalize S.map tN = SS' at *
      generalize tS s = U at *
      generalize tN H = HH at *
      exact ⟨[p0, p1, p2, p3, p4, p5, some (.val (.lst SS')), some (.live D), some (.val U), some (.val (.int (c : Nat))), some (.val (.int (t : Nat))), some (.val (.int (x : Nat))), some (.val (.int (y : Nat))), x13, none, some (.val HH), none], _, rfl, e, by simp⟩)
  rw [List.nil_append] at lc
  have em : (S.map fun H => TV.bl (setA s x y H)) = (S.map (setA s x y)).map TV.bl := by rw [List.map_map]; rfl
  rw [em] at lc
  obtain ⟨r, hr⟩ := in_bls (S.map (setA s x y))
  have j0 : ixT (.lst [.int (y : Nat), .int (x : Nat)]) (.int 0) = some (.val (.int (y : Nat))) := ixl_at (i := 0) rfl
  have j1 : ixT (.lst [.int (y : Nat), .int (x : Nat)]) (.int 1) = some (.val (.int (x : Nat))) := ixl_at (i := 1) rfl
  generalize (S.map (setA s x y)).map TV.bl = BB at *
  generalize S.map tN = SS' at *
  generalize tS s = U at *
  have hD' : D.length < 16777216 := by omega
  cases r with
  | false =>
    refine ⟨y, some (.live BB), hy, ?_⟩
    rcases h6 with rfl | rfl <;> simp [b10146_L0, lc, hr, j0, hD']
  | true =>
    refine ⟨x, some (.live BB), hx, ?_⟩
    rcases h6 with rfl | rfl <;> simp [b10146_L0, lc, hr, j1, hD']
theorem answers_dr {c t : Nat} (c1 : 1 ≤ c) (c3 : c ≤ 3) (t2 : 2 ≤ t) (t4 : t ≤ 4) : Dr 4 10146 [.tup [.int (c : Nat), .int (t : Nat)]] fun r => ∃ A, AN c t A ∧ r = .live (A.map TV.int) := by
  rintro k hk _ ⟨a, b, rfl, ha, hb⟩
  obtain ⟨k, rfl, hk'⟩ := kpos hk
  have sl := SY_le (t := t) (c := c) t4 c3
  obtain ⟨_, _, ⟨a1, b1, rfl, ha1, hb1⟩, ⟨f, rfl, hf⟩, e1⟩ := take_n (w := 6) (by omega) (by omega) k (by omega) _ ⟨a, b, rfl, ha, hb⟩
  obtain ⟨_, _, ⟨a2, b2, rfl, ha2, hb2⟩, ⟨H, hn, hl, hH, rfl⟩, e2⟩ := some_dr (m := t) (by omega) (by omega) k (by omega) _ ⟨a1, b1, rfl, ha1, hb1⟩
  obtain ⟨_, _, ⟨a3, b3, rfl, ha3, hb3⟩, ⟨hd, rfl, hhd⟩, e3⟩ := take_n (w := c) (by omega) (by omega) k (by omega) _ ⟨a2, b2, rfl, ha2, hb2⟩
  have sy := lsayings_ok c3 t4 (k := k) (by omega)
  simp only [List.map_cons, List.map_nil] at e1 e2 e3
  have e1' : runT fs k 10005 [.live [.int a, .int b], .val (.int 6)] = .ok (.val (.int (f : Nat))) [some (.live [.int a1, .int b1])] := e1
  rw [run_atT (F := fn10146) rfl k _ rfl]
  show ∃ r b', BX b' ∧ _ ∧ endT 10146 (evSsT (runT fs k) b10146 [some (.live [.int a, .int b]), some (.val (.tup [.int (c : Nat), .int (t : Nat)])), none, none, none, none, none, none, none, none, none, none, none, none, none, none, none]) = _
  by_cases f2 : f < 2
  · obtain ⟨A, a4, b4, ha4, hb4, lA, hA, e4⟩ := ans_any (c := c) (t := t) (f := f) (hd := hd) hH hn hl ((SYn t c).map tS) (k := k) (by omega) tS (SYn t c) (by omega) ha3 hb3
    refine ⟨.live (A.map TV.int), .live [.int a4, .int b4], ⟨_, _, rfl, ha4, hb4⟩, ⟨A, ⟨lA, hA⟩, rfl⟩, ?_⟩
    have f2' : (f : Int) < 2 := by omega
    have e4' : lcT [8] (.name 8) none (evT (runT fs k) b10146_E0) ((SYn t c).map tS) [] (F46 c t f hd H ((SYn t c).map tS) a3 b3) = .ok (A.map TV.int) (F46 c t f hd H ((SYn t c).map tS) a4 b4) := e4
    unfold F46 at e4'
    generalize (SYn t c).map tS = Y at *
    generalize tN H = HH at *
    generalize A.map TV.int = AA at *
    simp [b10146, e1', sy, e2, e3, f2', f2, e4']
  · by_cases f4 : f < 4
    · obtain ⟨hA, e4⟩ := ans_hand (c := c) (t := t) (f := f) (hd := hd) t4 c3 hhd hH hn ((SYn t c).map tS) (k := k) (by omega) a3 b3
      refine ⟨_, .live [.int a3, .int b3], ⟨_, _, rfl, ha3, hb3⟩, ⟨_, ⟨by rw [List.length_map], hA⟩, rfl⟩, ?_⟩
      have f2' : ¬ (f : Int) < 2 := by omega
      have f4' : (f : Int) < 4 := by omega
      have e4' : lcT [8] (.name 8) none (evT (runT fs k) b10146_E1) ((SYn t c).map tS) [] (F46 c t f hd H ((SYn t c).map tS) a3 b3) = _ := e4
      unfold F46 at e4'
      generalize ((SYn t c).map fun s => fst (s.getD hd []) (nI H)).map TV.int = AA at *
      generalize (SYn t c).map tS = Y at *
      generalize tN H = HH at *
      simp [b10146, e1', sy, e2, e3, f2', f2, f4, f4', e4']
    · have f2' : ¬ (f : Int) < 2 := by omega
      have f4' : ¬ (f : Int) < 4 := by omega
      obtain ⟨x, hx, ix0⟩ : ∃ x : Nat, x < t ∧ ixT (tN H) (.int 0) = some (.val (.int (x : Nat))) := by
        cases H with
        | nil => exact absurd rfl hn
        | cons h H => exact ⟨h, hH h List.mem_cons_self, ix_at (i := 0) rfl⟩
      obtain ⟨y, hy, ix1⟩ : ∃ y : Nat, y < t ∧ ixT (tN H) (.int (-1)) = some (.val (.int (y : Nat))) := by
        refine ⟨H.getLast hn, hH _ (List.getLast_mem hn), ?_⟩
        unfold tN
        rw [ix_last (by simpa using hn), List.getLast_map]
      obtain ⟨_, _, ⟨a4, b4, rfl, ha4, hb4⟩, ⟨d2, rfl, hd2⟩, e4⟩ := take_n (w := 2) (by omega) (by omega) k (by omega) _ ⟨a3, b3, rfl, ha3, hb3⟩
      have e4' : runT fs k 10005 [.live [.int a3, .int b3], .val (.int 2)] = .ok (.val (.int (d2 : Nat))) [some (.live [.int a4, .int b4])] := e4
      have r1 := rng_n (n := 1 + d2) (by omega)
      rw [show ((1 + d2 : Nat) : Int) = 1 + (d2 : Int) by omega] at r1
      obtain ⟨acc, σ', e5, ⟨a5, b5, S, ha5, hb5, hS, rfl, rfl⟩, lS⟩ := lc_inv (own := [14]) (g := .name 14) (elt := evT (runT fs k) b10146_E2) (fun (n : Nat) => TV.int (n : Int))
        (fun acc σ => ∃ (a b : Int) (S : List (List Nat)), 0 ≤ a ∧ 1 ≤ b ∧ (∀ H ∈ S, (∀ h ∈ H, h < c) ∧ H.length ≤ 1001) ∧ acc = S.map tN ∧ σ = [some (.live [.int a, .int b]), some (.val (.tup [.int (c : Nat), .int (t : Nat)])), some (.val (.int (f : Nat))), some (.live ((SYn t c).map tS)), some (.val (tN H)), some (.val (.int (hd : Nat))), none, none, none, some (.val (.int (c : Nat))), some (.val (.int (t : Nat))), some (.val (.int (x : Nat))), some (.val (.int (y : Nat))), none, none, none, none])
        (List.range (1 + d2)) [] (σ := [some (.live [.int a4, .int b4]), some (.val (.tup [.int (c : Nat), .int (t : Nat)])), some (.val (.int (f : Nat))), some (.live ((SYn t c).map tS)), some (.val (tN H)), some (.val (.int (hd : Nat))), none, none, none, some (.val (.int (c : Nat))), some (.val (.int (t : Nat))), some (.val (.int (x : Nat))), some (.val (.int (y : Nat))), none, none, none, none])
        (by rw [Vt.LIM_eq, List.length_range]; simp only [List.length_nil]; omega) ⟨a4, b4, [], ha4, hb4, by simp, rfl, rfl⟩ (by
          rintro n hn' acc σ ⟨a, b, S, ha, hb, hS, rfl, rfl⟩
          obtain ⟨_, _, ⟨a', b', rfl, ha', hb'⟩, ⟨G, gn, gl, hG, rfl⟩, eg⟩ := some_dr (m := c) c1 (by omega) k (by omega) _ ⟨a, b, rfl, ha, hb⟩
          simp only [List.map_cons, List.map_nil] at eg
          generalize (SYn t c).map tS = Y at *
          generalize tN H = HH at *
          refine ⟨_, tN G, _, rfl, by simp [b10146_E2, eg]; rfl, a', b', S ++ [G], ha', hb', fun q hq => ?_, by simp, by simp⟩
          rcases List.mem_append.mp hq with hq | hq
          · exact hS q hq
          · simp at hq; subst hq; exact ⟨hG, gl⟩)
      rw [List.length_map, List.length_range, List.length_nil] at lS
      obtain ⟨σ2, e6, y6, A, x8, x13, h6, lA, hA, rfl⟩ := for_inv (g := .name 8) (body := evSsT (runT fs k) b10146_L0) tS
        (fun d σ => ∃ (y6 : SV) (A : List Nat) (x8 x13 : Option SV), (y6 = .live (S.map tN) ∨ y6 = .val (.lst (S.map tN))) ∧ A.length = d.length ∧ (∀ v ∈ A, v < t) ∧ σ = [some (.live [.int a5, .int b5]), some (.val (.tup [.int (c : Nat), .int (t : Nat)])), some (.val (.int (f : Nat))), some (.val (.lst ((SYn t c).map tS))), some (.val (tN H)), some (.val (.int (hd : Nat))), some y6, some (.live (A.map fun (v : Nat) => TV.int (v : Int))), x8, some (.val (.int (c : Nat))), some (.val (.int (t : Nat))), some (.val (.int (x : Nat))), some (.val (.int (y : Nat))), x13, none, none, none])
        (SYn t c) [] (σ := [some (.live [.int a5, .int b5]), some (.val (.tup [.int (c : Nat), .int (t : Nat)])), some (.val (.int (f : Nat))), some (.val (.lst ((SYn t c).map tS))), some (.val (tN H)), some (.val (.int (hd : Nat))), some (.live (S.map tN)), some (.live []), none, some (.val (.int (c : Nat))), some (.val (.int (t : Nat))), some (.val (.int (x : Nat))), some (.val (.int (y : Nat))), none, none, none, none])
        ⟨_, [], none, none, .inl rfl, rfl, by simp, rfl⟩ (by
          rintro d s ⟨r, hr⟩ σ ⟨y6, A, x8, x13, h6, lA, hA, rfl⟩
          have hs : s ∈ SYn t c := by rw [hr]; simp
          have dl : d.length + 1 ≤ (SYn t c).length := by
            have := congrArg List.length hr
            simp at this; omega
          rw [List.nil_append] at lA
          obtain ⟨v, x13', hv, e⟩ := set_turn t4 hx hy hs hS (by omega) (k := k) (by omega) (some (.live [.int a5, .int b5])) (some (.val (.tup [.int (c : Nat), .int (t : Nat)]))) (some (.val (.int (f : Nat)))) (some (.val (.lst ((SYn t c).map tS)))) (some (.val (tN H))) (some (.val (.int (hd : Nat)))) y6 h6 (A.map fun (v : Nat) => TV.int (v : Int)) (by rw [List.length_map]; omega) x13
          refine ⟨_, _, rfl, e, _, A ++ [v], some (.val (tS s)), x13', .inr rfl, by simp [lA], fun w hw => ?_, by simp⟩
          rcases List.mem_append.mp hw with hw | hw
          · exact hA w hw
          · simp at hw; subst hw; exact hv)
      rw [List.nil_append] at lA
      refine ⟨.live ((nI A).map TV.int), .live [.int a5, .int b5], ⟨_, _, rfl, ha5, hb5⟩, ⟨nI A, ⟨by unfold nI; rw [List.length_map]; exact lA, fun w hw => ?_⟩, rfl⟩, ?_⟩
      · obtain ⟨v, hv, rfl⟩ := List.mem_map.mp hw
        have := hA v hv
        exact ⟨by show (0 : Int) ≤ (v : Int); omega, by show (v : Int) < (t : Int); omega⟩
      · rw [nI_map]
        generalize (A.map fun (v : Nat) => TV.int (v : Int)) = AA at *
        generalize (SYn t c).map tS = Y at *
        generalize tN H = HH at *
        generalize S.map tN = SS' at *
        generalize (List.range (1 + d2)).map (fun (n : Nat) => TV.int (n : Int)) = its at *
        simp [b10146, e1', sy, e2, e3, f2', f4', f2, f4, ix0, ix1, e4', r1, e5, e6, -rng1_i]
end Lw
end
section
set_option Elab.async false
set_option linter.all false
set_option maxRecDepth 100000
set_option maxHeartbeats 1000000
namespace Lw
open PySem Mn Vt
def lN (N : List Nat) : List TV := N.map fun (n : Nat) => TV.int (n : Int)
theorem listR_n {n : Nat} (h : n ≤ 1000) : bcallT .listR1 [.int (n : Nat)] = some (.live (lN (List.range n))) := by
  have h1 : inRange (n : Int) = true := inR (by omega) (by omega)
  have h2 : decide ((n : Int) ≤ 100000) = true := by simp; omega
  show (if inRange (n : Int) && decide ((n : Int) ≤ 100000) then some (SV.live (rangeT 0 (n : Int))) else none) = _
  simp only [h1, h2, Bool.and_self, if_true]
  rw [rangeT_0, iota_map]; rfl
end Lw
end
section
set_option Elab.async false
set_option linter.all false
set_option maxRecDepth 100000
set_option maxHeartbeats 1000000
namespace Vt
open PySem Mn
theorem toP_tZ (a : List Int) : (tZ a).toP = .tup (a.map PV.int) := by unfold tZ; rw [TV.toP, toPs_int]
theorem eqv_tZ (a b : List Int) : (tZ a).toP.eqv (tZ b).toP = decide (a = b) := by
  rw [toP_tZ, toP_tZ, PV.eqv, Lw.eqz]
theorem dats_all' : ∀ (xs : List PV) (d : Nat), PV.dat.dats xs d = xs.all fun x => x.dat d
  | [], d => by rw [PV.dat.dats]; rfl
  | x :: xs, d => by rw [PV.dat.dats, List.all_cons, dats_all' xs d]
theorem dat_ints (a : List Int) (d : Nat) : PV.dat.dats (a.map PV.int) d = true := by
  rw [dats_all', List.all_eq_true]
  intro x hx
  obtain ⟨i, _, rfl⟩ := List.mem_map.mp hx
  simp [PV.dat]
theorem dat_tZ (a : List Int) {d : Nat} (h : 0 < d) : (tZ a).toP.dat d = true := by
  rw [toP_tZ, PV.dat, dat_ints, decide_eq_true h]; rfl
theorem sh_tZ (a : List Int) : shT (tZ a) = true := dat_tZ a (d := 60) (by decide)
theorem toPs_mapf {α : Type} (f : α → TV) : ∀ l : List α, TV.toP.toPs (l.map f) = l.map fun x => (f x).toP
  | [] => rfl
  | x :: l => by rw [List.map_cons, List.map_cons, ← toPs_mapf f l]; rfl
theorem dat_seq {α : Type} {f : α → TV} {d : Nat} (h : ∀ x, (f x).toP.dat d = true) (l : List α) : (TV.tup (l.map f)).toP.dat (d + 1) = true := by
  rw [TV.toP, PV.dat, toPs_mapf, dats_all', decide_eq_true (Nat.succ_pos d)]
  simp only [Bool.true_and, List.all_map, List.all_eq_true, Nat.add_sub_cancel, Function.comp]
  exact fun x _ => h x
theorem eqvs_map {α : Type} [DecidableEq α] {f : α → TV} (h : ∀ x y, (f x).toP.eqv (f y).toP = decide (x = y)) : ∀ l r : List α, PV.eqv.eqvs (l.map fun x => (f x).toP) (r.map fun x => (f x).toP) = decide (l = r)
  | [], [] => rfl
  | [], y :: r => by simp [PV.eqv.eqvs]
  | x :: l, [] => by simp [PV.eqv.eqvs]
  | x :: l, y :: r => by
    rw [List.map_cons, List.map_cons, PV.eqv.eqvs, h, eqvs_map h l r, Bool.eq_iff_iff]
    simp
theorem eqv_seq {α : Type} [DecidableEq α] {f : α → TV} (h : ∀ x y, (f x).toP.eqv (f y).toP = decide (x = y)) (l r : List α) : (TV.tup (l.map f)).toP.eqv (TV.tup (r.map f)).toP = decide (l = r) := by
  rw [TV.toP, TV.toP, PV.eqv, toPs_mapf, toPs_mapf, eqvs_map h]
/-- a coding whose values can be asked for == -/
structure Cod {α : Type} [DecidableEq α] (f : α → TV) : Prop where
  sh : ∀ x, shT (f x) = true
  eq : ∀ x y, (f x).toP.eqv (f y).toP = decide (x = y)
section
variable {α : Type} [DecidableEq α] {f : α → TV}
theorem Cod.all (h : Cod f) (l : List α) : (l.map f).all shT = true := by
  rw [List.all_map, List.all_eq_true]; exact fun x _ => h.sh x
end
theorem Cod.li {α : Type} [DecidableEq α] {f : α → TV} (h : Cod f) (x : α) : (f x).li = none ∨ ∃ xs, (f x).li = some xs := by
  cases (f x).li with
  | none => exact .inl rfl
  | some xs => exact .inr ⟨xs, rfl⟩
theorem cmp_eq {v w : TV} (hv : v.li = none) (hw : w.li = none) (h1 : shT v = true) (h2 : shT w = true) : cmpT .Eq v w = some (.val (.bl (v.toP.eqv w.toP))) := by
  have : eqT v w = some (v.toP.eqv w.toP) := by unfold eqT; rw [hv, hw]; simp only [h1, h2, Bool.and_self, if_true]
  show (eqT v w).bind _ = _
  rw [this]; rfl
theorem cod_Z : Cod tZ := ⟨sh_tZ, eqv_tZ⟩
end Vt
namespace Lw
open PySem Mn Vt
theorem dat_tS (s : List (List Int)) {d : Nat} (h : 1 < d) : (tS s).toP.dat d = true := by
  obtain ⟨d, rfl⟩ : ∃ e, d = e + 1 := ⟨d - 1, by omega⟩
  exact dat_seq (f := tZ) (fun a => dat_tZ a (by omega)) s
theorem cod_S : Cod tS := ⟨fun s => dat_tS s (d := 60) (by decide), fun a b => eqv_seq (f := tZ) eqv_tZ a b⟩
end Lw
end
section
set_option Elab.async false
set_option linter.all false
set_option maxRecDepth 100000
set_option maxHeartbeats 1000000
namespace Lw
open PySem Mn Vt
/-- how many orders -/
def OM (t : Nat) : Nat := (OR t).length
/-- an order's number -/
def num (t : Nat) (o : List Int) : Nat := (OR t).idxOf o
theorem om_all : ((List.range 6).all fun t => okIs (runT fs 1 1 [.val (.int (t : Nat))]) (.val (.int (OM t : Nat)))) = true := by decide +kernel
theorem orders_of_ok {t : Nat} (ht : t ≤ 5) {k : Nat} (hk : 1 ≤ k) : runT fs k 1 [.val (.int (t : Nat))] = .ok (.val (.int (OM t : Nat))) [] :=
  run_up (okIs_eq (List.all_eq_true.mp om_all t (List.mem_range.mpr (by omega)))) hk
theorem num_all : ((List.range 5).all fun t => (OR t).all fun o => okIs (runT fs 1 2 [.val (tZ o)]) (.val (.int (num t o : Nat)))) = true := by decide +kernel
theorem number_ok {t : Nat} (ht : t ≤ 4) {o : List Int} (ho : o ∈ OR t) {k : Nat} (hk : 1 ≤ k) : runT fs k 2 [.val (tZ o)] = .ok (.val (.int (num t o : Nat))) [] :=
  run_up (okIs_eq (List.all_eq_true.mp (List.all_eq_true.mp num_all t (List.mem_range.mpr (by omega))) o ho)) hk
theorem at_all : ((List.range 5).all fun t => (List.range (OM t)).all fun n => okIs (runT fs 2 3 [.val (.int (t : Nat)), .val (.int (n : Nat))]) (.val (tZ ((OR t).getD n [])))) = true := by decide +kernel
theorem order_at_ok {t : Nat} (ht : t ≤ 4) {n : Nat} (hn : n < OM t) {k : Nat} (hk : 2 ≤ k) : runT fs k 3 [.val (.int (t : Nat)), .val (.int (n : Nat))] = .ok (.val (tZ ((OR t).getD n []))) [] :=
  run_up (okIs_eq (List.all_eq_true.mp (List.all_eq_true.mp at_all t (List.mem_range.mpr (by omega))) n (List.mem_range.mpr hn))) hk
theorem hm_all : ((List.range 4).all fun c => (List.range 5).all fun t => okIs (runT fs 2 24 [.val (.int (c : Nat)), .val (.int (t : Nat))]) (.val (.int (OM t ^ c : Nat)))) = true := by decide +kernel
theorem how_many_ok {c t : Nat} (hc : c ≤ 3) (ht : t ≤ 4) {k : Nat} (hk : 2 ≤ k) : runT fs k 24 [.val (.int (c : Nat)), .val (.int (t : Nat))] = .ok (.val (.int ((SYn t c).length : Nat))) [] := by
  rw [SY_len]
  exact run_up (okIs_eq (List.all_eq_true.mp (List.all_eq_true.mp hm_all c (List.mem_range.mpr (by omega))) t (List.mem_range.mpr (by omega)))) hk
theorem OR_nodup : ∀ t ≤ 4, (OR t).Nodup := by decide +kernel
theorem OM_pos : ∀ t ≤ 4, 0 < OM t := by decide +kernel
theorem num_lt {t : Nat} {o : List Int} (ho : o ∈ OR t) : num t o < OM t := List.idxOf_lt_length_of_mem ho
theorem num_get {t : Nat} {o : List Int} (ho : o ∈ OR t) : (OR t).getD (num t o) [] = o := by
  have h := num_lt ho
  unfold num OM at *
  rw [List.getD_eq_getElem?_getD, List.getElem?_eq_getElem h]
  simp [List.getElem_idxOf]
theorem get_in {t n : Nat} (h : n < OM t) : (OR t).getD n [] ∈ OR t := by
  unfold OM at h
  rw [List.getD_eq_getElem?_getD, List.getElem?_eq_getElem h]
  exact List.getElem_mem _
theorem num_at {t n : Nat} (ht : t ≤ 4) (h : n < OM t) : num t ((OR t).getD n []) = n := by
  unfold OM at h
  unfold num
  rw [List.getD_eq_getElem?_getD, List.getElem?_eq_getElem h]
  exact (OR_nodup t ht).idxOf_getElem n h
/-- a saying's number -/
def plc (t : Nat) (s : List (List Int)) : Nat := s.foldl (fun a o => a * OM t + num t o) 0
/-- the saying that has a number -/
def sat (t : Nat) : Nat → Nat → List (List Int)
  | 0, _ => []
  | c + 1, n => sat t c (n / OM t) ++ [(OR t).getD (n % OM t) []]
theorem plc_snoc (t : Nat) (s : List (List Int)) (o : List Int) : plc t (s ++ [o]) = plc t s * OM t + num t o := by unfold plc; rw [List.foldl_append]; rfl
theorem flat_get {α β : Type} (f : α → List β) {m : Nat} (hm : 0 < m) : ∀ (l : List α) (n : Nat), (∀ x ∈ l, (f x).length = m) → (l.flatMap f)[n]? = (l[n / m]?).bind fun x => (f x)[n % m]?
  | [], n, _ => by simp
  | x :: l, n, h => by
    rw [List.flatMap_cons]
    have hx := h x List.mem_cons_self
    by_cases q : n < m
    · rw [List.getElem?_append_left (by rw [hx]; exact q), Nat.div_eq_of_lt q, Nat.mod_eq_of_lt q]; rfl
    · rw [List.getElem?_append_right (by rw [hx]; omega), hx, flat_get f hm l (n - m) fun y hy => h y (List.mem_cons_of_mem _ hy)]
      have e1 : n / m = (n - m) / m + 1 := by rw [Nat.div_eq n m, if_pos ⟨hm, by omega⟩]
      have e2 : n % m = (n - m) % m := Nat.mod_eq_sub_mod (by omega)
      rw [e1, e2]; rfl
theorem SY_get {t : Nat} (ht : t ≤ 4) : ∀ (c n : Nat), n < (SYn t c).length → (SYn t c)[n]? = some (sat t c n)
  | 0, n, h => by
    have : n = 0 := by simpa [SYn] using h
    subst this; rfl
  | c + 1, n, h => by
    have hp := OM_pos t ht
    have e : SYn t (c + 1) = (SYn t c).flatMap fun s => (OR t).map fun o => s ++ [o] := rfl
    rw [SY_len, Nat.pow_succ] at h
    have h : n < (OR t).length ^ c * OM t := h
    rw [e, flat_get _ hp _ _ (fun x _ => by rw [List.length_map]; rfl), SY_get ht c (n / OM t) (by rw [SY_len]; exact Nat.div_lt_of_lt_mul (by rw [Nat.mul_comm]; exact h))]
    have hr : n % OM t < (OR t).length := Nat.mod_lt n hp
    show ((OR t).map fun o => sat t c (n / OM t) ++ [o])[n % OM t]? = _
    rw [List.getElem?_map, List.getElem?_eq_getElem hr, sat, List.getD_eq_getElem?_getD, List.getElem?_eq_getElem hr]; rfl
theorem sat_in {t : Nat} (ht : t ≤ 4) {c n : Nat} (h : n < (SYn t c).length) : sat t c n ∈ SYn t c := List.mem_of_getElem? (SY_get ht c n h)
theorem plc_lt {t : Nat} : ∀ (c : Nat) {s : List (List Int)}, s ∈ SYn t c → plc t s < (SYn t c).length
  | 0, s, h => by
    have : s = [] := by simpa [SYn] using h
    subst this; simp [SYn, plc]
  | c + 1, s, h => by
    rw [SYn, List.mem_flatMap] at h
    obtain ⟨l, h1, h2⟩ := h
    obtain ⟨o, h3, rfl⟩ := List.mem_map.mp h2
    have ih := plc_lt c h1
    have hn := num_lt h3
    rw [plc_snoc, SY_len, Nat.pow_succ]
    rw [SY_len] at ih
    have : plc t l * OM t + num t o < (plc t l + 1) * OM t := by rw [Nat.succ_mul]; omega
    exact Nat.lt_of_lt_of_le this (Nat.mul_le_mul_right _ ih)
theorem sat_plc {t : Nat} (ht : t ≤ 4) : ∀ (c : Nat) {s : List (List Int)}, s ∈ SYn t c → sat t c (plc t s) = s
  | 0, s, h => by
    have : s = [] := by simpa [SYn] using h
    subst this; rfl
  | c + 1, s, h => by
    rw [SYn, List.mem_flatMap] at h
    obtain ⟨l, h1, h2⟩ := h
    obtain ⟨o, h3, rfl⟩ := List.mem_map.mp h2
    have hn := num_lt h3
    have hp := OM_pos t ht
    rw [plc_snoc, sat]
    have e1 : (plc t l * OM t + num t o) / OM t = plc t l := by
      rw [Nat.mul_comm, Nat.mul_add_div hp, Nat.div_eq_of_lt hn, Nat.add_zero]
    have e2 : (plc t l * OM t + num t o) % OM t = num t o := by
      rw [Nat.mul_comm, Nat.mul_add_mod, Nat.mod_eq_of_lt hn]
    rw [e1, e2, sat_plc ht c h1, num_get h3]
theorem plc_sat {t : Nat} (ht : t ≤ 4) : ∀ (c n : Nat), n < (SYn t c).length → plc t (sat t c n) = n
  | 0, n, h => by
    have : n = 0 := by simpa [SYn] using h
    subst this; rfl
  | c + 1, n, h => by
    have hp := OM_pos t ht
    rw [SY_len, Nat.pow_succ] at h
    have h : n < (OR t).length ^ c * OM t := h
    rw [sat, plc_snoc, plc_sat ht c (n / OM t) (by rw [SY_len]; exact Nat.div_lt_of_lt_mul (by rw [Nat.mul_comm]; exact h)), num_at ht (Nat.mod_lt n hp), Nat.mul_comm]
    exact Nat.div_add_mod n (OM t)
theorem sat_mem_i {t c : Nat} {s : List (List Int)} {h : Nat} (hs : s ∈ SYn t c) {o : List Int} (ho : o ∈ OR t) : s.set h o ∈ SYn t c := by
  have key : ∀ (c : Nat) (s : List (List Int)), s.length = c → (∀ o ∈ s, o ∈ OR t) → s ∈ SYn t c := fun c => by
    induction c with
    | zero => intro s hl _; rw [List.length_eq_zero_iff] at hl; subst hl; simp [SYn]
    | succ c ih =>
      intro s hl hm
      have hne : s ≠ [] := by intro q; subst q; simp at hl
      rw [SYn, List.mem_flatMap]
      refine ⟨s.dropLast, ih _ (by simp [hl]) fun o ho => hm o ((List.dropLast_sublist _).subset ho), List.mem_map.mpr ⟨s.getLast hne, hm _ (List.getLast_mem hne), List.dropLast_concat_getLast hne⟩⟩
  obtain ⟨h1, h2⟩ := SY_mem t c s hs
  refine key c _ (by rw [List.length_set]; exact h1) fun p hp => ?_
  rcases List.mem_or_eq_of_mem_set hp with hp | rfl
  · exact h2 p hp
  · exact ho
theorem saying_at_ok {c t : Nat} (hc : c ≤ 3) (ht : t ≤ 4) {n : Nat} (hn : n < (SYn t c).length) {k : Nat} (hk : 3 ≤ k) : runT fs k 25 [.val (.int (c : Nat)), .val (.int (t : Nat)), .val (.int (n : Nat))] = .ok (.val (tS (sat t c n))) [] := by
  obtain ⟨k, rfl, hk'⟩ := kpos hk
  have hp := OM_pos t ht
  have om : OM t ≤ 24 := OR_len t ht
  have o1 := orders_of_ok (t := t) (by omega) (k := k) (by omega)
  -- the saying from the end
  have key : ∀ (j n : Nat) (acc : List (List Int)) (x5 : Option SV), acc.length + j ≤ 1000 → n < 100000 → ∀ (l : List Nat), l.length = j → ∃ (m : Nat) (x5' : Option SV), forT (.name 5) (evSsT (runT fs k) b25_L0) (l.map fun (i : Nat) => TV.int (i : Int)) [some (.val (.int (c : Nat))), some (.val (.int (t : Nat))), some (.val (.int (n : Nat))), some (.val (.int (OM t : Nat))), some (.val (tS acc)), x5]
      = .ok .next [some (.val (.int (c : Nat))), some (.val (.int (t : Nat))), some (.val (.int (m : Nat))), some (.val (.int (OM t : Nat))), some (.val (tS (sat t j n ++ acc))), x5'] := fun j => by
    induction j with
    | zero =>
      intro n acc x5 _ _ l hl
      rw [List.length_eq_zero_iff] at hl
      subst hl
      exact ⟨n, x5, rfl⟩
    | succ j ih =>
      intro n acc x5 ha hn l hl
      obtain ⟨i, l, rfl⟩ : ∃ i l', l = i :: l' := by
        cases l with
        | nil => simp at hl
        | cons i l => exact ⟨i, l, rfl⟩
      have hr := Nat.mod_lt n hp
      have e1 := order_at_ok ht hr (k := k) (by omega)
      have dv : n / OM t ≤ n := Nat.div_le_self _ _
      have md : binT .Mod (.int (n : Nat)) (.int (OM t : Nat)) = some (.val (.int ((n % OM t : Nat) : Int))) := by
        rw [b_mod, if_pos (by omega)]; rfl
      have fd : binT .FloorDiv (.int (n : Nat)) (.int (OM t : Nat)) = some (.val (.int ((n / OM t : Nat) : Int))) := by
        show (if (0 : Int) < (OM t : Nat) ∧ ((OM t : Nat) : Int) < 1073741824 then vI ((n : Int) / (OM t : Nat)) else none) = _
        rw [if_pos ⟨by omega, by omega⟩]; rfl
      have ad : binT .Add (.tup [tZ ((OR t).getD (n % OM t) [])]) (tS acc) = some (.val (tS ((OR t).getD (n % OM t) [] :: acc))) := by
        have hq : [tZ ((OR t).getD (n % OM t) [])].length + (acc.map tZ).length ≤ LIM := by rw [List.length_map, Vt.LIM_eq]; simp; omega
        unfold tS
        rw [b_tup, if_pos hq]; rfl
      have step : evSsT (runT fs k) b25_L0 [some (.val (.int (c : Nat))), some (.val (.int (t : Nat))), some (.val (.int (n : Nat))), some (.val (.int (OM t : Nat))), some (.val (tS acc)), some (.val (.int (i : Nat)))] = .ok .next [some (.val (.int (c : Nat))), some (.val (.int (t : Nat))), some (.val (.int ((n / OM t : Nat) : Int))), some (.val (.int (OM t : Nat))), some (.val (tS ((OR t).getD (n % OM t) [] :: acc))), some (.val (.int (i : Nat)))] := by
        generalize tS ((OR t).getD (n % OM t) [] :: acc) = R at *
        generalize tZ ((OR t).getD (n % OM t) []) = O at *
        generalize tS acc = T at *
        generalize ((n / OM t : Nat) : Int) = nd at *
        generalize ((n % OM t : Nat) : Int) = nm at *
        generalize ((OM t : Nat) : Int) = mm at *
        simp [b25_L0, md, fd, e1, ad, -b_mod]
      obtain ⟨m, x5', e⟩ := ih (n / OM t) ((OR t).getD (n % OM t) [] :: acc) (some (.val (.int (i : Nat)))) (by rw [List.length_cons]; omega) (by omega) l (by simpa using hl)
      refine ⟨m, x5', ?_⟩
      rw [List.map_cons, forT_cons]
      show aT _ _ _ (evSsT (runT fs k) b25_L0 _) = _
      rw [show ([some (.val (.int (c : Nat))), some (.val (.int (t : Nat))), some (.val (.int (n : Nat))), some (.val (.int (OM t : Nat))), some (.val (tS acc)), x5] : SS).set 5 (some (.val (.int (i : Nat)))) = [some (.val (.int (c : Nat))), some (.val (.int (t : Nat))), some (.val (.int (n : Nat))), some (.val (.int (OM t : Nat))), some (.val (tS acc)), some (.val (.int (i : Nat)))] from rfl, step, aT_next, e, sat]
      simp
  have sl := SY_le (t := t) (c := c) ht hc
  obtain ⟨m, x5, e⟩ := key c n [] none (by simp; omega) (by omega) (List.range c) (by simp)
  have r1 := rng_n (n := c) (by omega)
  rw [run_atT (F := fn25) rfl k _ rfl]
  show endT 25 (evSsT (runT fs k) b25 [some (.val (.int (c : Nat))), some (.val (.int (t : Nat))), some (.val (.int (n : Nat))), none, none, none]) = _
  rw [List.append_nil] at e
  have t0 : tS [] = .tup [] := rfl
  rw [t0] at e
  generalize tS (sat t c n) = R at *
  generalize (List.range c).map (fun (n : Nat) => TV.int (n : Int)) = its at *
  simp [b25, o1, r1, e, -rng1_i]
end Lw
end
section
set_option Elab.async false
set_option linter.all false
set_option maxRecDepth 100000
set_option maxHeartbeats 1000000
namespace Lw
open PySem Mn Vt
theorem place_ok {c t : Nat} (hc : 1 ≤ c) (ht : t ≤ 4) {s : List (List Int)} (hs : s ∈ SYn t c) {k : Nat} (hk : 2 ≤ k) : runT fs k 26 [.val (tS s)] = .ok (.val (.int (plc t s : Nat))) [] := by
  obtain ⟨k, rfl, hk'⟩ := kpos hk
  obtain ⟨h1, h2⟩ := SY_mem t c s hs
  have o1 := orders_of_ok (t := t) (by omega) (k := k) (by omega)
  have om : OM t ≤ 24 := OR_len t ht
  obtain ⟨σ', e, x3, rfl⟩ := for_fold (g := .name 3) (body := evSsT (runT fs k) b26_L0) tZ (fun (n : Nat) σ => ∃ x3, σ = [some (.val (tS s)), some (.val (.int (OM t : Nat))), some (.val (.int (n : Nat))), x3]) (fun n o => n * OM t + num t o) s (b := 0)
    (σ := [some (.val (tS s)), some (.val (.int (OM t : Nat))), some (.val (.int ((0 : Nat) : Int))), none]) ⟨none, rfl⟩ (by
      rintro o ho n σ ⟨x3, rfl⟩
      have e1 := number_ok ht (h2 o ho) (k := k) (by omega)
      have ml : binT .Mult (.int (n : Nat)) (.int (OM t : Nat)) = some (.val (.int ((n : Int) * (OM t : Nat)))) := mul_r (by omega) (by omega)
      refine ⟨_, [some (.val (tS s)), some (.val (.int (OM t : Nat))), some (.val (.int ((n * OM t + num t o : Nat) : Int))), some (.val (tZ o))], rfl, ?_, _, rfl⟩
      have ec : ((n * OM t + num t o : Nat) : Int) = (n : Int) * (OM t : Nat) + (num t o : Nat) := by rw [Int.natCast_add, Int.natCast_mul]
      rw [ec]
      generalize tS s = T at *
      generalize tZ o = O at *
      generalize ((num t o : Nat) : Int) = u at *
      generalize ((OM t : Nat) : Int) = m at *
      simp [b26_L0, ml, e1, -b_mul])
  have e' : forT (.name 3) (evSsT (runT fs k) b26_L0) (s.map tZ) [some (.val (tS s)), some (.val (.int (OM t : Nat))), some (.val (.int 0)), none] = .ok .next [some (.val (tS s)), some (.val (.int (OM t : Nat))), some (.val (.int (plc t s : Nat))), x3] := e
  obtain ⟨i0, o0⟩ := say_at hs (h := 0) (by omega)
  have ln : bcallT .len [tZ (s.getD 0 [])] = some (.val (.int (t : Nat))) := by
    have := (OR_OD ht o0).len
    rw [tZ, len_t, List.length_map, this]
  have sq : seqT (tS s) = some (s.map tZ) := rfl
  rw [run_atT (F := fn26) rfl k _ rfl]
  show endT 26 (evSsT (runT fs k) b26 [some (.val (tS s)), none, none, none]) = _
  have i0' : ixT (tS s) (.int 0) = some (.val (tZ (s.getD 0 []))) := i0
  generalize tZ (s.getD 0 []) = O at *
  generalize s.map tZ = its at *
  generalize tS s = T at *
  simp [b26, i0', ln, o1, sq, e']
/-- what is told at a saying -/
def tld (t : Nat) (A : List Int) (s : List (List Int)) : Int := A.getD (plc t s) 0
theorem TB.tld {c t : Nat} {A : List Int} (h : TB c t A) {s : List (List Int)} (hs : s ∈ SYn t c) : A[plc t s]? = some (tld t A s) ∧ 0 ≤ tld t A s ∧ tld t A s < t := by
  have hl := plc_lt c hs
  rw [← h.2.2.2.2.1] at hl
  have e : A[plc t s]? = some (Lw.tld t A s) := by unfold Lw.tld; rw [List.getD_eq_getElem?_getD, List.getElem?_eq_getElem hl]; rfl
  exact ⟨e, h.2.2.2.2.2 _ (List.mem_of_getElem? e)⟩
theorem answer_ok {c t : Nat} {A : List Int} (hT : TB c t A) {s : List (List Int)} (hs : s ∈ SYn t c) {k : Nat} (hk : 3 ≤ k) : runT fs k 155 [.val (tabT c t A), .val (tS s)] = .ok (.val (.int (tld t A s))) [] := by
  obtain ⟨k, rfl, hk'⟩ := kpos hk
  have e := place_ok hT.1 hT.2.2.2.1 hs (k := k) (by omega)
  have i2 : ixT (tabT c t A) (.int 2) = some (.val (tZ A)) := ix_at (i := 2) rfl
  have i3 : ixT (tZ A) (.int (plc t s : Nat)) = some (.val (.int (tld t A s))) := ix_at (by rw [List.getElem?_map, (hT.tld hs).1]; rfl)
  rw [run_atT (F := fn155) rfl k _ rfl]
  show endT 155 (evSsT (runT fs k) b155 [some (.val (tabT c t A)), some (.val (tS s))]) = _
  generalize tS s = U at *
  generalize ((plc t s : Nat) : Int) = p at *
  generalize tZ A = ZA at *
  generalize tabT c t A = T at *
  simp [b155, i2, e, i3]
theorem set_cut {s : List (List Int)} {h : Nat} (hh : h < s.length) (o : List Int) : s.take h ++ [o] ++ s.drop (h + 1) = s.set h o := by
  rw [List.set_eq_take_append_cons_drop, if_pos hh]; simp
theorem set_tup {s : List (List Int)} (hl : s.length ≤ 1000) {h : Nat} (hh : h < s.length) (o : List Int) :
    sl2 (tS s) (.int (h : Nat)) = some (.val (tS (s.take h))) ∧ binT .Add (tS (s.take h)) (.tup [tZ o]) = some (.val (tS (s.take h ++ [o]))) ∧
    sl1 (tS s) (.int ((h : Nat) + 1)) = some (.val (tS (s.drop (h + 1)))) ∧ binT .Add (tS (s.take h ++ [o])) (tS (s.drop (h + 1))) = some (.val (tS (s.set h o))) := by
  refine ⟨?_, add_tS (by rw [List.length_take]; omega), ?_, ?_⟩
  · show some (SV.val (.tup (cutT (s.map tZ) none (some (h : Int))))) = _
    rw [cut_to, ← List.map_take]; rfl
  · have e : ((h : Nat) : Int) + 1 = ((h + 1 : Nat) : Int) := by omega
    rw [e]
    show some (SV.val (.tup (cutT (s.map tZ) (some ((h + 1 : Nat) : Int)) none))) = _
    rw [cut_from _ (by rw [List.length_map]; omega), ← List.map_drop]; rfl
  · unfold tS
    have hq : ((s.take h ++ [o]).map tZ).length + ((s.drop (h + 1)).map tZ).length ≤ LIM := by
      rw [List.length_map, List.length_map, List.length_append, List.length_take, List.length_drop, Vt.LIM_eq]; simp; omega
    rw [b_tup, if_pos hq, ← List.map_append, set_cut hh]
theorem otherwise_ok {c t : Nat} {s : List (List Int)} (hs : s ∈ SYn t c) (hc : c ≤ 3) {h : Nat} (hh : h < c) (o : List Int) {k : Nat} (hk : 1 ≤ k) : runT fs k 32 [.val (tS s), .val (.int (h : Nat)), .val (tZ o)] = .ok (.val (tS (s.set h o))) [] := by
  obtain ⟨k, rfl, hk'⟩ := kpos hk
  obtain ⟨h1, h2⟩ := SY_mem t c s hs
  obtain ⟨q1, q2, q3, q4⟩ := set_tup (s := s) (by omega) (h := h) (by omega) o
  rw [run_atT (F := fn32) rfl k _ rfl]
  show endT 32 (evSsT (runT fs k) b32 [some (.val (tS s)), some (.val (.int (h : Nat))), some (.val (tZ o))]) = _
  generalize tS (s.set h o) = R at *
  generalize tS (s.take h ++ [o]) = R1 at *
  generalize tS (s.take h) = R2 at *
  generalize tS (s.drop (h + 1)) = R3 at *
  generalize tZ o = O at *
  generalize tS s = T at *
  simp [b32, q1, q2, q3, q4]
def ahi (x y : Int) (o : List Int) : Bool := decide (idx o x < idx o y)
theorem puts_oki {t : Nat} {x y : Int} {o : List Int} (h : OD t o) (hx : 0 ≤ x ∧ x < t) (hy : 0 ≤ y ∧ y < t) {k : Nat} (hk : 1 ≤ k) : runT fs k 11 [.val (tZ o), .val (.int x), .val (.int y)] = .ok (.val (.bl (ahi x y o))) [] := by
  obtain ⟨x, rfl⟩ := Int.eq_ofNat_of_zero_le hx.1
  obtain ⟨y, rfl⟩ := Int.eq_ofNat_of_zero_le hy.1
  exact puts_ok h (x := x) (y := y) (by omega) (by omega) hk
/-- whether a hand gains by an untruth -/
def gby (t : Nat) (A : List Int) (s : List (List Int)) (h : Nat) (o : List Int) : Bool := ahi (tld t A (s.set h o)) (tld t A s) (s.getD h [])
theorem gains_ok {c t : Nat} {A : List Int} (hT : TB c t A) {s : List (List Int)} (hs : s ∈ SYn t c) {h : Nat} (hh : h < c) {o : List Int} (ho : o ∈ OR t) {k : Nat} (hk : 4 ≤ k) : runT fs k 177 [.val (tabT c t A), .val (.int (h : Nat)), .val (tS s), .val (tZ o)] = .ok (.val (.bl (gby t A s h o))) [] := by
  obtain ⟨k, rfl, hk'⟩ := kpos hk
  have hs2 := sat_mem_i (h := h) hs ho
  have e1 := answer_ok hT hs (k := k) (by omega)
  have e2 := otherwise_ok hs hT.2.1 hh o (k := k) (by omega)
  have e3 := answer_ok hT hs2 (k := k) (by omega)
  obtain ⟨i1, oo⟩ := say_at hs hh
  have e4 := puts_oki (OR_OD hT.2.2.2.1 oo) (hT.tld hs2).2 (hT.tld hs).2 (k := k) (by omega)
  rw [run_atT (F := fn177) rfl k _ rfl]
  show endT 177 (evSsT (runT fs k) b177 [some (.val (tabT c t A)), some (.val (.int (h : Nat))), some (.val (tS s)), some (.val (tZ o)), none, none]) = _
  unfold gby
  generalize ahi (tld t A (s.set h o)) (tld t A s) (s.getD h []) = g at *
  generalize tld t A (s.set h o) = u at *
  generalize tld t A s = v at *
  generalize tZ (s.getD h []) = O at *
  generalize tZ o = O2 at *
  generalize tS (s.set h o) = U2 at *
  generalize tS s = U at *
  generalize tabT c t A = T at *
  simp [b177, e1, e2, e3, i1, e4]
end Lw
end
section
set_option Elab.async false
set_option linter.all false
set_option maxRecDepth 100000
set_option maxHeartbeats 1000000
namespace Lw
open PySem Mn Vt
def T23 (t : Nat) : Prop := t = 2 ∨ t = 3
theorem T23.mem {t : Nat} (h : T23 t) : t ∈ ([2, 3] : List Nat) := by rcases h with rfl | rfl <;> simp
theorem T23.le {t : Nat} (h : T23 t) : 2 ≤ t ∧ t ≤ 3 := by rcases h with rfl | rfl <;> omega
end Lw
end
section
set_option Elab.async false
set_option linter.all false
set_option maxRecDepth 100000
set_option maxHeartbeats 1000000
namespace Lw
open PySem Mn Vt
end Lw
end
section
set_option Elab.async false
set_option linter.all false
set_option maxRecDepth 100000
set_option maxHeartbeats 1000000
namespace Vt
open PySem Mn
end Vt
namespace Lw
open PySem Mn Vt
/-- rising hands or things, one at least -/
def Sm (m : Nat) (H : List Nat) : Prop := H ≠ [] ∧ H.Pairwise (· < ·) ∧ ∀ h ∈ H, h < m
theorem rise_len {m : Nat} : ∀ (H : List Nat) (lo : Nat), H.Pairwise (· < ·) → (∀ h ∈ H, lo ≤ h ∧ h < m) → H.length ≤ m - lo
  | [], lo, _, _ => Nat.zero_le _
  | x :: H, lo, hp, hh => by
    obtain ⟨h1, h2⟩ := List.pairwise_cons.mp hp
    have hx := hh x List.mem_cons_self
    have ih := rise_len H (x + 1) h2 fun y hy => ⟨h1 y hy, (hh y (List.mem_cons_of_mem _ hy)).2⟩
    rw [List.length_cons]; omega
theorem Sm.len {m : Nat} {H : List Nat} (h : Sm m H) : H.length ≤ m := by
  have := rise_len H 0 h.2.1 fun x hx => ⟨Nat.zero_le _, h.2.2 x hx⟩
  omega
/-! ### terms -/
section
variable {c t : Nat} (c1 : 1 ≤ c) (c3 : c ≤ 3) (t2 : 2 ≤ t) (t4 : t ≤ 4)
include c1 c3 t2 t4
end
end Lw
end
section
set_option Elab.async false
set_option linter.all false
set_option maxRecDepth 100000
set_option maxHeartbeats 1000000
namespace Lw
open PySem Mn Vt
section
variable {c t : Nat} (c1 : 1 ≤ c) (c3 : c ≤ 3) (t2 : 2 ≤ t) (t4 : t ≤ 4)
include c1 c3 t2 t4
end
end Lw
end
section
set_option Elab.async false
set_option linter.all false
set_option maxRecDepth 100000
set_option maxHeartbeats 1000000
namespace Lw
open PySem Mn Vt
section
variable {c t : Nat} (c1 : 1 ≤ c) (c3 : c ≤ 3) (t2 : 2 ≤ t) (t4 : t ≤ 4)
include c1 c3 t2 t4
end
end Lw
end
section
set_option Elab.async false
set_option linter.all false
set_option maxRecDepth 100000
set_option maxHeartbeats 1000000
namespace Lw
open PySem Mn Vt
/-- what is no term in a term -/
def Arg (p : TV) : Prop := (∃ n : Nat, n < 10 ∧ p = .int (n : Nat)) ∨ ∃ s : List Nat, s ≠ [] ∧ s.length ≤ 4 ∧ (∀ x ∈ s, x < 10) ∧ p = tN s
def enI (n : Nat) (p : TV × Nat) : TV := .int ((n + 1 + p.2 : Nat) : Int)
/-- a term and the terms right in it -/
def NodeV (v : TV) (cs : List TV) : Prop := ∃ (W : Str) (P : List TV), v = .tup (.str W :: (P ++ cs)) ∧ P.length + cs.length ≤ 3 ∧ cixT 0 (.str W) = some (.val (.tup (cs.zipIdx.map (enI P.length)))) ∧ Rq 0 16 (.str W) ∧ ∀ p ∈ P, Arg p
theorem NodeV.ix {W : Str} {P cs : List TV} {p : TV × Nat} (hp : p ∈ cs.zipIdx) : ixT (.tup (.str W :: (P ++ cs))) (enI P.length p) = some (.val p.1) := by
  refine ix_at (i := P.length + 1 + p.2) ?_
  have := List.mem_zipIdx_iff_getElem?.mp hp
  rw [show P.length + 1 + p.2 = (P.length + p.2) + 1 by omega, List.getElem?_cons_succ, List.getElem?_append_right (by omega), show P.length + p.2 - P.length = p.2 by omega]
  exact this
/-- a term, so deep at most, and all terms in it -/
def Pt : Nat → TV → List TV → Prop
  | 0, _, _ => False
  | d + 1, v, ps => ∃ l : List (TV × List TV), NodeV v (l.map Prod.fst) ∧ (∀ x ∈ l, Pt d x.1 x.2) ∧ ps = v :: (l.map Prod.snd).flatten
theorem Pt.mono : ∀ {d e : Nat} {v : TV} {ps : List TV}, Pt d v ps → d ≤ e → Pt e v ps
  | 0, _, _, _, h, _ => h.elim
  | _ + 1, 0, _, _, _, h => absurd h (by omega)
  | _ + 1, _ + 1, _, _, ⟨l, h1, h2, h3⟩, he => ⟨l, h1, fun x hx => (h2 x hx).mono (by omega), h3⟩
end Lw
end
section
set_option Elab.async false
set_option linter.all false
set_option maxRecDepth 100000
set_option maxHeartbeats 1000000
namespace Mn
open PySem
theorem Rp.small {i : Nat} (h : i < 10) : Rp 0 2 (.int (i : Nat)) := by
  have : i = 0 ∨ i = 1 ∨ i = 2 ∨ i = 3 ∨ i = 4 ∨ i = 5 ∨ i = 6 ∨ i = 7 ∨ i = 8 ∨ i = 9 := by omega
  refine ⟨(Rp.int (i := (i : Int)) (by omega)).1, (Rp.int (i := (i : Int)) (by omega)).2.1, ?_, (Rp.int (i := (i : Int)) (by omega)).2.2.2⟩
  simp only [PV.toD, PyData.shown]
  have := int_text_length_le10 (a := (i : Int)) (k := 1) (by decide) (by omega)
  rw [ofString_length]
  omega
end Mn
namespace Vt
open PySem Mn
theorem Rq.small {i : Nat} (h : i < 10) : Rq 0 2 (.int (i : Nat)) := Rp.small h
end Vt
namespace Lw
open PySem Mn Vt
def Bd : Nat → Nat
  | 0 => 19
  | d + 1 => 4 * (Bd d + 2) + 3
theorem Bd_ge : ∀ d, 19 ≤ Bd d
  | 0 => Nat.le_refl _
  | d + 1 => by have := Bd_ge d; rw [Bd]; omega
theorem Arg.rq {p : TV} (h : Arg p) : Rq 1 19 p := by
  rcases h with ⟨n, hn, rfl⟩ | ⟨s, _, h2, h3, rfl⟩
  · exact (Rq.small hn).mono (by omega) (by omega)
  · refine (Rq.tup (d := 0) (n := 2) (m := 4) (xs := s.map fun (n : Nat) => TV.int (n : Int)) (fun x hx => ?_) (by rw [List.length_map]; exact h2)).mono (by omega) (by omega)
    obtain ⟨y, hy, rfl⟩ := List.mem_map.mp hx
    exact Rq.small (h3 y hy)
theorem Pt.rq : ∀ {d : Nat} {v : TV} {ps : List TV}, Pt d v ps → Rq (d + 1) (Bd d) v
  | 0, _, _, h => h.elim
  | d + 1, v, ps, ⟨l, h1, h2, h3⟩ => by
    obtain ⟨W, P, rfl, q2, q3, q4, q5⟩ := h1
    have b := Bd_ge d
    refine (Rq.tup (d := d + 1) (n := Bd d) (m := 4) (fun x hx => ?_) (by simp at q2 ⊢; omega)).mono (by omega) (by rw [Bd]; omega)
    rcases List.mem_cons.mp hx with rfl | hx
    · exact q4.mono (by omega) (by omega)
    · rcases List.mem_append.mp hx with hx | hx
      · exact (q5 x hx).rq.mono (by omega) (by omega)
      · obtain ⟨y, hy, rfl⟩ := List.mem_map.mp hx
        exact (h2 y hy).rq
/-! ### the terms that are drawn -/
theorem Arg.n {x : Nat} (h : x < 10) : Arg (.int (x : Nat)) := .inl ⟨x, h, rfl⟩
section
variable {c t : Nat} (c3 : c ≤ 3) (t4 : t ≤ 4)
include c3 t4
end
end Lw
end
section
set_option Elab.async false
set_option linter.all false
set_option maxRecDepth 100000
set_option maxHeartbeats 1000000
namespace Lw
open PySem Mn Vt
/-! ### rows of numbers, sorted -/
theorem lz_total : ∀ a b : List Int, (leZ a b || leZ b a) = true
  | [], b => rfl
  | x :: a, [] => rfl
  | x :: a, y :: b => by
    have ih := lz_total a b
    simp only [leZ, Bool.or_eq_true, Bool.and_eq_true, decide_eq_true_eq] at ih ⊢
    by_cases h1 : x < y
    · exact .inl (.inl h1)
    · by_cases h2 : y < x
      · exact .inr (.inl h2)
      · have e : x = y := by omega
        rcases ih with q | q
        · exact .inl (.inr ⟨e, q⟩)
        · exact .inr (.inr ⟨e.symm, q⟩)
theorem lz_trans : ∀ a b c : List Int, leZ a b = true → leZ b c = true → leZ a c = true
  | [], _, _, _, _ => rfl
  | x :: a, [], _, h, _ => by simp [leZ] at h
  | x :: a, y :: b, [], _, h => by simp [leZ] at h
  | x :: a, y :: b, z :: c, h1, h2 => by
    have ih := lz_trans a b c
    simp only [leZ, Bool.or_eq_true, Bool.and_eq_true, decide_eq_true_eq] at h1 h2 ⊢
    rcases h1 with h1 | ⟨h1, g1⟩ <;> rcases h2 with h2 | ⟨h2, g2⟩
    · left; omega
    · left; omega
    · left; omega
    · right; exact ⟨by omega, ih g1 g2⟩
theorem lz_anti : ∀ a b : List Int, leZ a b = true → leZ b a = true → a = b
  | [], [], _, _ => rfl
  | [], y :: b, _, h => by simp [leZ] at h
  | x :: a, [], h, _ => by simp [leZ] at h
  | x :: a, y :: b, h1, h2 => by
    have ih := lz_anti a b
    simp only [leZ, Bool.or_eq_true, Bool.and_eq_true, decide_eq_true_eq] at h1 h2
    rcases h1 with h1 | ⟨h1, g1⟩ <;> rcases h2 with h2 | ⟨h2, g2⟩
    · omega
    · omega
    · omega
    · rw [h1, ih g1 g2]
/-! ### sets of hands -/
/-! ### all of some put one ahead -/
def inI (t : Nat) (x : Int) : Prop := 0 ≤ x ∧ x < (t : Int)
/-! ### wins -/
theorem TB.lt {c t : Nat} {A : List Int} (h : TB c t A) {n : Nat} (hn : n < A.length) : inI t (A.getD n 0) := by
  have := h.2.2.2.2.2 (A.getD n 0) (by rw [List.getD_eq_getElem?_getD, List.getElem?_eq_getElem hn]; exact List.getElem_mem hn)
  exact this
theorem enA {A : List Int} : om (tZ A).seq (enumT 0) = some ((List.range A.length).map fun (n : Nat) => TV.tup [.int ((0 + n : Nat) : Int), .int (A.getD n 0)]) := by
  show some (enumT 0 (A.map TV.int)) = _
  rw [enum_getD]
theorem asg_tab {c t : Nat} {A : List Int} (i j l : Nat) (σ : SS) : asgG (.tup (.cons (.name i) (.cons (.name j) (.cons (.name l) .nil)))) (tabT c t A) σ = some (((σ.set i (some (.val (.int (c : Nat))))).set j (some (.val (.int (t : Nat))))).set l (some (.val (tZ A)))) := rfl
end Lw
end
section
set_option Elab.async false
set_option linter.all false
set_option maxRecDepth 100000
set_option maxHeartbeats 1000000
namespace Lw
open PySem Mn Vt
/-! ### the least sets -/
theorem bl_all {α : Type} (f : α → Bool) (l : List α) : bcallT .all [.lst (l.map fun h => TV.bl (f h))] = some (.val (.bl (l.all f))) := by
  have := all_l (l.map f)
  rw [List.map_map] at this
  rw [show (l.map fun h => TV.bl (f h)) = l.map (TV.bl ∘ f) from rfl, this, List.all_map]; rfl
/-! ### told by sets -/
/-! ### follows -/
end Lw
end
section
set_option Elab.async false
set_option linter.all false
set_option maxRecDepth 100000
set_option maxHeartbeats 1000000
namespace Lw
open PySem Mn Vt
/-! ### is so -/
theorem eq_tZ (a b : List Int) : cmpT .Eq (tZ a) (tZ b) = some (.val (.bl (decide (a = b)))) := by
  rw [cmp_eq rfl rfl (sh_tZ a) (sh_tZ b), eqv_tZ]
end Lw
end
section
set_option Elab.async false
set_option linter.all false
set_option maxRecDepth 100000
set_option maxHeartbeats 1000000
namespace Vt
open PySem Mn
end Vt
namespace Lw
open PySem Mn Vt
/-! ### the law's own least sets, and who has won -/
/-! ### some hands, rising -/
end Lw
end
section
set_option Elab.async false
set_option linter.all false
set_option maxRecDepth 100000
set_option maxHeartbeats 1000000
namespace Lw
open PySem Mn Vt
/-! ### sets that are least -/
theorem ddv_mem {l : List (List Int)} {x : List Int} : x ∈ dd l ↔ x ∈ l := by
  induction l with
  | nil => exact Iff.rfl
  | cons y l ih =>
    rw [dd]
    split
    · rename_i h
      rw [ih, List.mem_cons]
      exact ⟨.inr, fun q => q.elim (fun e => e ▸ h) id⟩
    · rw [List.mem_cons, List.mem_cons, ih]
theorem ddv_nodup : ∀ l : List (List Int), (dd l).Nodup
  | [] => List.Pairwise.nil
  | y :: l => by
    rw [dd]
    split
    · exact ddv_nodup l
    · rename_i h
      exact List.nodup_cons.mpr ⟨fun q => h (ddv_mem.mp q), ddv_nodup l⟩
/-! ### a table by which no hand gains -/
abbrev szs (c t : Nat) : TV := .tup [.int (c : Nat), .int (t : Nat)]
end Lw
end
section
set_option Elab.async false
set_option linter.all false
set_option maxRecDepth 100000
set_option maxHeartbeats 1000000
namespace Lw
open PySem Mn Vt
end Lw
end
section
set_option Elab.async false
set_option linter.all false
set_option maxRecDepth 100000
set_option maxHeartbeats 1000000
namespace Lw
open PySem Mn Vt
end Lw
end
section
set_option Elab.async false
set_option linter.all false
set_option maxRecDepth 100000
set_option maxHeartbeats 1000000
namespace Lw
open PySem Mn Vt
/-! ### plain facts of orders and sayings -/
/-! ### one thing -/
/-! ### two things -/
section
variable {c t x y : Nat} {S : List (List Nat)}
end
/-! ### a hand -/
section
variable {c t h : Nat} {N : List Nat}
end
end Lw
end
section
set_option Elab.async false
set_option linter.all false
set_option maxRecDepth 100000
set_option maxHeartbeats 1000000
namespace Lw
open PySem Mn Vt
/-! ### near untruths and far ones -/
end Lw
end
section
set_option Elab.async false
set_option linter.all false
set_option maxRecDepth 100000
set_option maxHeartbeats 1000000
namespace Lw
open PySem Mn Vt
/-! ### orders with some things ahead -/
theorem inI_nat {t : Nat} {x : Int} (h : inI t x) : ∃ n : Nat, x = n ∧ n < t := ⟨x.toNat, by have := h.1; omega, by have := h.1; have := h.2; omega⟩
/-! ### a table by which no hand gains: what comes up is one hand's -/
section
variable {c t : Nat} {A : List Int}
def sy (c : Nat) (u : Nat → List Int) : List (List Int) := (List.range c).map u
def NoG (c t : Nat) (A : List Int) : Prop := ∀ s ∈ SYn t c, ∀ h < c, ∀ o ∈ OR t, gby t A s h o = false
variable (hT : TB c t A) (hg : NoG c t A)
include hT hg
omit hT hg in
omit hT hg in
end
end Lw
end
section
set_option Elab.async false
set_option linter.all false
set_option maxRecDepth 100000
set_option maxHeartbeats 1000000
namespace Lw
open PySem Mn Vt
/-! ### numbers of sayings, hand by hand -/
theorem SY_snoc {t c : Nat} {s : List (List Int)} (hs : s ∈ SYn t (c + 1)) : ∃ s' ∈ SYn t c, ∃ o ∈ OR t, s = s' ++ [o] := by
  rw [SYn, List.mem_flatMap] at hs
  obtain ⟨s', h1, h2⟩ := hs
  obtain ⟨o, h3, rfl⟩ := List.mem_map.mp h2
  exact ⟨s', h1, o, h3, rfl⟩
theorem plc_set {t : Nat} : ∀ (c : Nat) {s : List (List Int)}, s ∈ SYn t c → ∀ {h : Nat}, h < c → ∀ (o : List Int), ((plc t (s.set h o) : Nat) : Int) = (plc t s : Nat) + (((num t o : Nat) : Int) - ((num t (s.getD h []) : Nat) : Int)) * ((OM t ^ (c - 1 - h) : Nat) : Int)
  | 0, s, hs, h, hh, o => by omega
  | c + 1, s, hs, h, hh, o => by
    obtain ⟨s', h1, o', h2, rfl⟩ := SY_snoc hs
    obtain ⟨sl, _⟩ := SY_mem t c s' h1
    by_cases e : h = c
    · subst e
      have e1 : (s' ++ [o']).set h o = s' ++ [o] := by rw [List.set_append_right _ _ (by omega)]; simp [sl]
      have e2 : (s' ++ [o']).getD h [] = o' := by rw [List.getD_eq_getElem?_getD, List.getElem?_append_right (by omega)]; simp [sl]
      rw [e1, e2, plc_snoc, plc_snoc, show h + 1 - 1 - h = 0 by omega, Nat.pow_zero]
      simp only [Int.natCast_add]
      omega
    · have hlt : h < c := by omega
      have e1 : (s' ++ [o']).set h o = s'.set h o ++ [o'] := by rw [List.set_append_left _ _ (by omega)]
      have e2 : (s' ++ [o']).getD h [] = s'.getD h [] := by rw [List.getD_eq_getElem?_getD, List.getElem?_append_left (by omega), List.getD_eq_getElem?_getD]
      have ih := plc_set c h1 hlt o
      rw [e1, e2, plc_snoc, plc_snoc, show c + 1 - 1 - h = (c - 1 - h) + 1 by omega, Nat.pow_succ]
      simp only [Int.natCast_add, Int.natCast_mul] at ih ⊢
      rw [ih, Int.add_mul, Int.mul_assoc]
      omega
theorem dig_at {t : Nat} (t4 : t ≤ 4) : ∀ (c : Nat) {s : List (List Int)}, s ∈ SYn t c → ∀ {h : Nat}, h < c → plc t s / OM t ^ (c - 1 - h) % OM t = num t (s.getD h [])
  | 0, s, hs, h, hh => by omega
  | c + 1, s, hs, h, hh => by
    obtain ⟨s', h1, o', h2, rfl⟩ := SY_snoc hs
    obtain ⟨sl, _⟩ := SY_mem t c s' h1
    have op := OM_pos t t4
    have nl := num_lt h2
    by_cases e : h = c
    · subst e
      have e2 : (s' ++ [o']).getD h [] = o' := by rw [List.getD_eq_getElem?_getD, List.getElem?_append_right (by omega)]; simp [sl]
      rw [e2, plc_snoc, show h + 1 - 1 - h = 0 by omega, Nat.pow_zero, Nat.div_one, Nat.mul_add_mod_self_right, Nat.mod_eq_of_lt nl]
    · have hlt : h < c := by omega
      have e2 : (s' ++ [o']).getD h [] = s'.getD h [] := by rw [List.getD_eq_getElem?_getD, List.getElem?_append_left (by omega), List.getD_eq_getElem?_getD]
      have ih := dig_at t4 c h1 hlt
      rw [e2, plc_snoc, show c + 1 - 1 - h = (c - 1 - h) + 1 by omega, Nat.pow_succ, Nat.mul_comm (OM t ^ _) (OM t), ← Nat.div_div_eq_div_mul]
      have : (plc t s' * OM t + num t o') / OM t = plc t s' := by
        rw [Nat.mul_comm, Nat.mul_add_div op, Nat.div_eq_of_lt nl, Nat.add_zero]
      rw [this]; exact ih
/-! ### places and strides -/
def plT (t : Nat) (o : List Int) : TV := .lst ((iota t).map fun x => TV.int (idx o x : Nat))
theorem pl_all : ((List.range 5).all fun t => okIs (runT fs 2 182 [.val (.int (t : Nat))]) (.live ((OR t).map (plT t)))) = true := by decide +kernel
theorem places_ok {t : Nat} (t4 : t ≤ 4) {k : Nat} (hk : 2 ≤ k) : runT fs k 182 [.val (.int (t : Nat))] = .ok (.live ((OR t).map (plT t))) [] :=
  run_up (okIs_eq (List.all_eq_true.mp pl_all t (List.mem_range.mpr (by omega)))) hk
def stN (c t : Nat) : List Nat := (List.range c).map fun h => OM t ^ (c - 1 - h)
theorem st_all : ((List.range 3).all fun c => (List.range 5).all fun t => okIs (runT fs 1 183 [.val (szs (c + 1) t), .val (.int (OM t : Nat))]) (.live ((stN (c + 1) t).map fun (n : Nat) => TV.int (n : Int)))) = true := by decide +kernel
theorem strides_ok {c t : Nat} (c1 : 1 ≤ c) (c3 : c ≤ 3) (t4 : t ≤ 4) {k : Nat} (hk : 1 ≤ k) : runT fs k 183 [.val (szs c t), .val (.int (OM t : Nat))] = .ok (.live ((stN c t).map fun (n : Nat) => TV.int (n : Int))) [] := by
  have := List.all_eq_true.mp (List.all_eq_true.mp st_all (c - 1) (List.mem_range.mpr (by omega))) t (List.mem_range.mpr (by omega))
  rw [show c - 1 + 1 = c by omega] at this
  exact run_up (okIs_eq this) hk
theorem OM_le : ∀ t ≤ 4, OM t ≤ 24 := by decide +kernel
theorem st_le {c t h : Nat} (c3 : c ≤ 3) (t4 : t ≤ 4) : OM t ^ (c - 1 - h) ≤ 576 := by
  calc OM t ^ (c - 1 - h) ≤ 24 ^ (c - 1 - h) := Nat.pow_le_pow_left (OM_le t t4) _
    _ ≤ 24 ^ 2 := Nat.pow_le_pow_right (by decide) (by omega)
    _ = 576 := rfl
/-! ### all gains by numbers -/
def lnN (N : List Nat) : TV := .lst (N.map fun (n : Nat) => TV.int (n : Int))
def enG (p : Nat × Nat × Nat) : TV := .tup [.int (p.1 : Nat), .int (p.2.1 : Nat), .int (p.2.2 : Nat)]
def gq (c t : Nat) (A : List Int) (n h l : Nat) : Bool := gby t A (sat t c n) h ((OR t).getD l [])
def GN2 (c t : Nat) (A : List Int) (L : List (List Nat)) (n h : Nat) : List (Nat × Nat × Nat) := ((L.getD (num t ((sat t c n).getD h [])) []).filter (gq c t A n h)).map fun l => (n, h, l)
def GN1 (c t : Nat) (A : List Int) (L : List (List Nat)) (n : Nat) : List (Nat × Nat × Nat) := (List.range c).flatMap (GN2 c t A L n)
def GN (c t : Nat) (A : List Int) (L : List (List Nat)) : List (Nat × Nat × Nat) := (List.range A.length).flatMap (GN1 c t A L)
section
variable {c t : Nat} {A : List Int} {L : List (List Nat)}
/-- one untruth -/
theorem gn_turn (hT : TB c t A) {n h l : Nat} (hn : n < A.length) (hh : h < c) (hl : l < OM t) {k : Nat} {D : List TV} (hD : D.length < 16777216) (p1 p14 : Option SV) :
    ∃ p14', evSsT (runT fs k) b185_L2 [some (.val (tabT c t A)), p1, some (.live ((OR t).map (plT t))), some (.val (.int (OM t : Nat))), some (.live ((stN c t).map fun (n : Nat) => TV.int (n : Int))), some (.live D), some (.val (.int (c : Nat))), some (.val (.int (t : Nat))), some (.val (tZ A)), some (.val (.int (n : Nat))), some (.val (.int (A.getD n 0))), some (.val (.int (h : Nat))), some (.val (.int (num t ((sat t c n).getD h []) : Nat))), some (.val (.int (l : Nat))), p14]
      = .ok .next [some (.val (tabT c t A)), p1, some (.live ((OR t).map (plT t))), some (.val (.int (OM t : Nat))), some (.live ((stN c t).map fun (n : Nat) => TV.int (n : Int))), some (.live (D ++ if gq c t A n h l then [enG (n, h, l)] else [])), some (.val (.int (c : Nat))), some (.val (.int (t : Nat))), some (.val (tZ A)), some (.val (.int (n : Nat))), some (.val (.int (A.getD n 0))), some (.val (.int (h : Nat))), some (.val (.int (num t ((sat t c n).getD h []) : Nat))), some (.val (.int (l : Nat))), p14'] := by
  have t4 := hT.2.2.2.1
  have c3 := hT.2.1
  have al := hT.2.2.2.2.1
  have hn' := hn
  rw [al] at hn'
  have hs := sat_in t4 hn'
  obtain ⟨i1, oo⟩ := say_at hs hh
  have ol := get_in (t := t) hl
  have hs2 := sat_mem_i (h := h) hs ol
  have pn := plc_sat t4 c n hn'
  have ps := plc_set c hs hh ((OR t).getD l [])
  rw [pn, num_at t4 hl] at ps
  have tl : A.getD n 0 = tld t A (sat t c n) := by unfold tld; rw [pn]
  obtain ⟨g1, g2⟩ := hT.tld hs2
  obtain ⟨g3, g4⟩ := hT.tld hs
  have nl := num_lt oo
  have stl := st_le (c := c) (t := t) (h := h) c3 t4
  have x1 : ixT (.lst ((stN c t).map fun (n : Nat) => TV.int (n : Int))) (.int (h : Nat)) = some (.val (.int ((OM t ^ (c - 1 - h) : Nat) : Int))) := ixl_at (by unfold stN; rw [List.map_map, List.getElem?_map, List.getElem?_range hh]; rfl)
  have ml : binT .Mult (.int ((l : Int) - (num t ((sat t c n).getD h []) : Nat))) (.int ((OM t ^ (c - 1 - h) : Nat) : Int)) = some (.val (.int (((l : Int) - (num t ((sat t c n).getD h []) : Nat)) * ((OM t ^ (c - 1 - h) : Nat) : Int)))) := mul_r (by omega) (by omega)
  have x2 : ixT (tZ A) (.int ((n : Int) + ((l : Int) - (num t ((sat t c n).getD h []) : Nat)) * ((OM t ^ (c - 1 - h) : Nat) : Int))) = some (.val (.int (tld t A ((sat t c n).set h ((OR t).getD l []))))) := by
    rw [← ps]
    exact ix_at (by rw [List.getElem?_map, g1]; rfl)
  have x3 : ixT (.lst ((OR t).map (plT t))) (.int (num t ((sat t c n).getD h []) : Nat)) = some (.val (plT t ((sat t c n).getD h []))) := ixl_at (by
    rw [List.getElem?_map, List.getElem?_eq_getElem nl]
    have := num_get oo
    rw [List.getD_eq_getElem?_getD, List.getElem?_eq_getElem nl] at this
    have this : (OR t)[num t ((sat t c n).getD h [])] = (sat t c n).getD h [] := this
    rw [this]; rfl)
  have x4 : ∀ z, inI t z → ixT (plT t ((sat t c n).getD h [])) (.int z) = some (.val (.int (idx ((sat t c n).getD h []) z : Nat))) := fun z hz => by
    obtain ⟨m, rfl, hm⟩ := inI_nat hz
    exact ixl_at (by unfold iota; rw [List.map_map, List.getElem?_map, List.getElem?_range hm]; rfl)
  have x5 := x4 _ g2
  have x6 := x4 _ g4
  have cmp : cmpT .Lt (.int (idx ((sat t c n).getD h []) (tld t A ((sat t c n).set h ((OR t).getD l []))) : Nat)) (.int (idx ((sat t c n).getD h []) (tld t A (sat t c n)) : Nat)) = some (.val (.bl (gq c t A n h l))) := by
    unfold gq gby ahi
    simp
  refine ⟨some (.val (.int (tld t A ((sat t c n).set h ((OR t).getD l []))))), ?_⟩
  rw [tl]
  have en : enG (n, h, l) = .tup [.int (n : Nat), .int (h : Nat), .int (l : Nat)] := rfl
  rw [en]
  generalize gq c t A n h l = g at *
  generalize idx ((sat t c n).getD h []) (tld t A ((sat t c n).set h ((OR t).getD l []))) = I1 at *
  generalize idx ((sat t c n).getD h []) (tld t A (sat t c n)) = I2 at *
  generalize tld t A ((sat t c n).set h ((OR t).getD l [])) = other at *
  generalize tld t A (sat t c n) = told at *
  generalize plT t ((sat t c n).getD h []) = PO at *
  generalize num t ((sat t c n).getD h []) = w at *
  generalize OM t ^ (c - 1 - h) = st at *
  generalize (stN c t).map (fun (n : Nat) => TV.int (n : Int)) = SS at *
  generalize (OR t).map (plT t) = PP at *
  generalize tabT c t A = T at *
  generalize tZ A = TA at *
  cases g <;> simp [b185_L2, x1, ml, x2, x3, x5, x6, cmp, hD, -b_mul, -c_lt]
end
end Lw
end
section
set_option Elab.async false
set_option linter.all false
set_option maxRecDepth 100000
set_option maxHeartbeats 1000000
namespace Lw
open PySem Mn Vt
section
variable {c t : Nat} {A : List Int} {L : List (List Nat)}
abbrev S185 (c t : Nat) (A : List Int) (L : List (List Nat)) (D : List TV) (p9 p10 p11 p12 p13 p14 : Option SV) : SS := [some (.val (tabT c t A)), some (.val (.lst (L.map lnN))), some (.live ((OR t).map (plT t))), some (.val (.int (OM t : Nat))), some (.live ((stN c t).map fun (n : Nat) => TV.int (n : Int))), some (.live D), some (.val (.int (c : Nat))), some (.val (.int (t : Nat))), some (.val (tZ A)), p9, p10, p11, p12, p13, p14]
theorem gn_inner (hT : TB c t A) {n h : Nat} (hn : n < A.length) (hh : h < c) {N : List Nat} (hN : ∀ l ∈ N, l < OM t) {k : Nat} {D : List TV} (hD : D.length + N.length < 16777216) (p13 p14 : Option SV) :
    ∃ q13 q14, forT (.name 13) (evSsT (runT fs k) b185_L2) (N.map fun (n : Nat) => TV.int (n : Int)) (S185 c t A L D (some (.val (.int (n : Nat)))) (some (.val (.int (A.getD n 0)))) (some (.val (.int (h : Nat)))) (some (.val (.int (num t ((sat t c n).getD h []) : Nat)))) p13 p14)
      = .ok .next (S185 c t A L (D ++ ((N.filter (gq c t A n h)).map fun l => (n, h, l)).map enG) (some (.val (.int (n : Nat)))) (some (.val (.int (A.getD n 0)))) (some (.val (.int (h : Nat)))) (some (.val (.int (num t ((sat t c n).getD h []) : Nat)))) q13 q14) := by
  obtain ⟨σ', e, q13, q14, rfl⟩ := for_inv (g := .name 13) (body := evSsT (runT fs k) b185_L2) (fun (n : Nat) => TV.int (n : Int))
    (fun d σ => ∃ q13 q14, σ = S185 c t A L (D ++ ((d.filter (gq c t A n h)).map fun l => (n, h, l)).map enG) (some (.val (.int (n : Nat)))) (some (.val (.int (A.getD n 0)))) (some (.val (.int (h : Nat)))) (some (.val (.int (num t ((sat t c n).getD h []) : Nat)))) q13 q14)
    N [] (σ := S185 c t A L D (some (.val (.int (n : Nat)))) (some (.val (.int (A.getD n 0)))) (some (.val (.int (h : Nat)))) (some (.val (.int (num t ((sat t c n).getD h []) : Nat)))) p13 p14) ⟨p13, p14, by simp⟩ (by
      rintro d l ⟨r, hr⟩ σ ⟨q13, q14, rfl⟩
      rw [List.nil_append]
      have hl : l < OM t := hN l (by rw [hr]; simp)
      have hlen : (D ++ ((d.filter (gq c t A n h)).map fun l => (n, h, l)).map enG).length < 16777216 := by
        rw [List.length_append, List.length_map, List.length_map]
        have h1 : (d.filter (gq c t A n h)).length ≤ d.length := List.length_filter_le _ _
        have h2 : d.length ≤ N.length := by rw [hr]; simp
        omega
      obtain ⟨p14', e⟩ := gn_turn hT hn hh hl (k := k) hlen (some (.val (.lst (L.map lnN)))) q14
      refine ⟨_, _, rfl, e, some (.val (.int (l : Nat))), p14', ?_⟩
      rw [List.filter_append, List.filter_cons, List.filter_nil, List.map_append, List.map_append, List.append_assoc]
      cases gq c t A n h l <;> rfl)
  exact ⟨q13, q14, e⟩
structure LOk (t : Nat) (L : List (List Nat)) : Prop where
  len : L.length = OM t
  row : ∀ N ∈ L, N.length ≤ 24 ∧ ∀ l ∈ N, l < OM t
theorem LOk.at (hL : LOk t L) {w : Nat} (hw : w < OM t) : L[w]? = some (L.getD w []) ∧ (L.getD w []).length ≤ 24 ∧ ∀ l ∈ L.getD w [], l < OM t := by
  have hw' : w < L.length := by rw [hL.len]; exact hw
  have e : L.getD w [] = L[w] := by rw [List.getD_eq_getElem?_getD, List.getElem?_eq_getElem hw']; rfl
  have := hL.row L[w] (List.getElem_mem hw')
  rw [e]
  exact ⟨List.getElem?_eq_getElem hw', this.1, this.2⟩
theorem gn_mid (hT : TB c t A) (hL : LOk t L) {n h : Nat} (hn : n < A.length) (hh : h < c) {k : Nat} {D : List TV} (hD : D.length < 16000000) (p12 p13 p14 : Option SV) :
    ∃ q12 q13 q14, evSsT (runT fs k) b185_L1 (S185 c t A L D (some (.val (.int (n : Nat)))) (some (.val (.int (A.getD n 0)))) (some (.val (.int (h : Nat)))) p12 p13 p14)
      = .ok .next (S185 c t A L (D ++ (GN2 c t A L n h).map enG) (some (.val (.int (n : Nat)))) (some (.val (.int (A.getD n 0)))) (some (.val (.int (h : Nat)))) q12 q13 q14) := by
  have t4 := hT.2.2.2.1
  have c3 := hT.2.1
  have al := hT.2.2.2.2.1
  have hn' := hn
  rw [al] at hn'
  have hs := sat_in t4 hn'
  obtain ⟨i1, oo⟩ := say_at hs hh
  have nl := num_lt oo
  obtain ⟨a1, a2, a3⟩ := hL.at nl
  obtain ⟨q13, q14, e⟩ := gn_inner (L := L) hT hn hh (N := L.getD (num t ((sat t c n).getD h [])) []) a3 (k := k) (D := D) (by omega) p13 p14
  refine ⟨some (.val (.int (num t ((sat t c n).getD h []) : Nat))), q13, q14, ?_⟩
  have dg := dig_at t4 c hs hh
  rw [plc_sat t4 c n hn'] at dg
  have stl := st_le (c := c) (t := t) (h := h) c3 t4
  have op := OM_pos t t4
  have stp : 0 < OM t ^ (c - 1 - h) := Nat.pow_pos op
  have x1 : ixT (.lst ((stN c t).map fun (n : Nat) => TV.int (n : Int))) (.int (h : Nat)) = some (.val (.int ((OM t ^ (c - 1 - h) : Nat) : Int))) := ixl_at (by unfold stN; rw [List.map_map, List.getElem?_map, List.getElem?_range hh]; rfl)
  have x2 : ixT (.lst (L.map lnN)) (.int (num t ((sat t c n).getD h []) : Nat)) = some (.val (lnN (L.getD (num t ((sat t c n).getD h [])) []))) := ixl_at (by rw [List.getElem?_map, a1]; rfl)
  have fd : binT .FloorDiv (.int (n : Nat)) (.int ((OM t ^ (c - 1 - h) : Nat) : Int)) = some (.val (.int ((n / OM t ^ (c - 1 - h) : Nat) : Int))) := by
    show (if (0 : Int) < ((OM t ^ (c - 1 - h) : Nat) : Int) ∧ ((OM t ^ (c - 1 - h) : Nat) : Int) < 1073741824 then vI ((n : Int) / ((OM t ^ (c - 1 - h) : Nat) : Int)) else none) = _
    rw [if_pos ⟨by omega, by omega⟩]; rfl
  have md : binT .Mod (.int ((n / OM t ^ (c - 1 - h) : Nat) : Int)) (.int (OM t : Nat)) = some (.val (.int (num t ((sat t c n).getD h []) : Nat))) := by
    show (if (0 : Int) < ((OM t : Nat) : Int) then vI (((n / OM t ^ (c - 1 - h) : Nat) : Int) % ((OM t : Nat) : Int)) else none) = _
    rw [if_pos (by omega), ← dg]; rfl
  have sq : seqT (lnN (L.getD (num t ((sat t c n).getD h [])) [])) = some ((L.getD (num t ((sat t c n).getD h [])) []).map fun (n : Nat) => TV.int (n : Int)) := rfl
  have ge : GN2 c t A L n h = ((L.getD (num t ((sat t c n).getD h [])) []).filter (gq c t A n h)).map fun l => (n, h, l) := rfl
  rw [ge]
  generalize hR : (((L.getD (num t ((sat t c n).getD h [])) []).filter (gq c t A n h)).map fun l => (n, h, l)).map enG = R at *
  generalize ((L.getD (num t ((sat t c n).getD h [])) []).map fun (n : Nat) => TV.int (n : Int)) = its at *
  generalize lnN (L.getD (num t ((sat t c n).getD h [])) []) = LN at *
  generalize num t ((sat t c n).getD h []) = w at *
  unfold S185 at *
  generalize n / OM t ^ (c - 1 - h) = n1 at *
  generalize OM t ^ (c - 1 - h) = st at *
  generalize (stN c t).map (fun (n : Nat) => TV.int (n : Int)) = SS at *
  generalize (OR t).map (plT t) = PP at *
  generalize L.map lnN = LL at *
  generalize tabT c t A = T at *
  generalize tZ A = TA at *
  generalize A.getD n 0 = told at *
  simp [b185_L1, x1, fd, md, x2, sq, e, -b_div, -b_mod]
theorem gn2_len (hL : LOk t L) {n h : Nat} (hs : ∀ h < c, (sat t c n).getD h [] ∈ OR t) (hh : h < c) : (GN2 c t A L n h).length ≤ 24 := by
  unfold GN2
  rw [List.length_map]
  refine Nat.le_trans (List.length_filter_le _ _) ?_
  exact (hL.at (num_lt (hs h hh))).2.1
theorem flat_le {α β : Type} (f : α → List β) (m : Nat) : ∀ l : List α, (∀ x ∈ l, (f x).length ≤ m) → (l.flatMap f).length ≤ l.length * m
  | [], _ => by simp
  | x :: l, h => by
    rw [List.flatMap_cons, List.length_append, List.length_cons, Nat.add_mul]
    have := flat_le f m l fun y hy => h y (List.mem_cons_of_mem _ hy)
    have := h x List.mem_cons_self
    omega
theorem gn_out (hT : TB c t A) (hL : LOk t L) {n : Nat} (hn : n < A.length) {k : Nat} {D : List TV} (hD : D.length < 15000000) (p11 p12 p13 p14 : Option SV) :
    ∃ q11 q12 q13 q14, evSsT (runT fs k) b185_L0 (S185 c t A L D (some (.val (.int (n : Nat)))) (some (.val (.int (A.getD n 0)))) p11 p12 p13 p14)
      = .ok .next (S185 c t A L (D ++ (GN1 c t A L n).map enG) (some (.val (.int (n : Nat)))) (some (.val (.int (A.getD n 0)))) q11 q12 q13 q14) := by
  have t4 := hT.2.2.2.1
  have c3 := hT.2.1
  have hn' := hn
  rw [hT.2.2.2.2.1] at hn'
  have hs : ∀ h < c, (sat t c n).getD h [] ∈ OR t := fun h hh => (say_at (sat_in t4 hn') hh).2
  obtain ⟨σ', e, q11, q12, q13, q14, rfl⟩ := for_inv (g := .name 11) (body := evSsT (runT fs k) b185_L1) (fun (n : Nat) => TV.int (n : Int))
    (fun d σ => ∃ q11 q12 q13 q14, σ = S185 c t A L (D ++ (d.flatMap (GN2 c t A L n)).map enG) (some (.val (.int (n : Nat)))) (some (.val (.int (A.getD n 0)))) q11 q12 q13 q14)
    (List.range c) [] (σ := S185 c t A L D (some (.val (.int (n : Nat)))) (some (.val (.int (A.getD n 0)))) p11 p12 p13 p14) ⟨p11, p12, p13, p14, by simp⟩ (by
      rintro d h ⟨r, hr⟩ σ ⟨q11, q12, q13, q14, rfl⟩
      rw [List.nil_append]
      obtain ⟨h1, h2, h3⟩ := range_split hr
      have dl : (d.flatMap (GN2 c t A L n)).length ≤ d.length * 24 := flat_le _ _ d fun g hg => gn2_len hL hs (by rw [h3] at hg; have := List.mem_range.mp hg; omega)
      have hlen : (D ++ (d.flatMap (GN2 c t A L n)).map enG).length < 16000000 := by
        rw [List.length_append, List.length_map]
        have : d.length * 24 ≤ 3 * 24 := Nat.mul_le_mul_right _ (by omega)
        omega
      obtain ⟨r12, r13, r14, e⟩ := gn_mid hT hL hn h2 (k := k) hlen q12 q13 q14
      refine ⟨_, _, rfl, e, some (.val (.int (h : Nat))), r12, r13, r14, ?_⟩
      rw [List.flatMap_append, List.map_append, List.append_assoc]
      simp)
  rw [List.nil_append] at e
  refine ⟨q11, q12, q13, q14, ?_⟩
  have r1 := rng_n (n := c) (by omega)
  have ge : GN1 c t A L n = (List.range c).flatMap (GN2 c t A L n) := rfl
  rw [ge]
  generalize ((List.range c).flatMap (GN2 c t A L n)).map enG = R at *
  generalize (List.range c).map (fun (n : Nat) => TV.int (n : Int)) = its at *
  unfold S185 at *
  generalize (stN c t).map (fun (n : Nat) => TV.int (n : Int)) = SS at *
  generalize (OR t).map (plT t) = PP at *
  generalize L.map lnN = LL at *
  generalize tabT c t A = T at *
  generalize tZ A = TA at *
  generalize A.getD n 0 = told at *
  simp [b185_L0, r1, e, -rng1_i]
theorem gains_numbers_ok (hT : TB c t A) (hL : LOk t L) {k : Nat} (hk : 3 ≤ k) : runT fs k 185 [.val (tabT c t A), .val (.lst (L.map lnN))] = .ok (.live ((GN c t A L).map enG)) [] := by
  obtain ⟨k, rfl, hk'⟩ := kpos hk
  have t4 := hT.2.2.2.1
  have c3 := hT.2.1
  have al := hT.2.2.2.2.1
  have sl := SY_le (t := t) (c := c) t4 c3
  obtain ⟨σ', e, q9, q10, q11, q12, q13, q14, rfl⟩ := for_inv (g := .tup (.cons (.name 9) (.cons (.name 10) .nil))) (body := evSsT (runT fs k) b185_L0) (fun (n : Nat) => TV.tup [.int ((0 + n : Nat) : Int), .int (A.getD n 0)])
    (fun d σ => ∃ q9 q10 q11 q12 q13 q14, σ = S185 c t A L ((d.flatMap (GN1 c t A L)).map enG) q9 q10 q11 q12 q13 q14)
    (List.range A.length) [] (σ := S185 c t A L [] none none none none none none) ⟨none, none, none, none, none, none, by simp⟩ (by
      rintro d n ⟨r, hr⟩ σ ⟨q9, q10, q11, q12, q13, q14, rfl⟩
      rw [List.nil_append]
      obtain ⟨h1, h2, h3⟩ := range_split hr
      have dl : (d.flatMap (GN1 c t A L)).length ≤ d.length * 72 := flat_le _ _ d fun m hm => by
        rw [h3] at hm
        have hm := List.mem_range.mp hm
        have hm' : m < (SYn t c).length := by omega
        have hs : ∀ h < c, (sat t c m).getD h [] ∈ OR t := fun h hh => (say_at (sat_in t4 hm') hh).2
        have := flat_le (GN2 c t A L m) 24 (List.range c) fun g hg => gn2_len hL hs (List.mem_range.mp hg)
        rw [List.length_range] at this
        have h24 : c * 24 ≤ 3 * 24 := Nat.mul_le_mul_right _ c3
        show ((List.range c).flatMap (GN2 c t A L m)).length ≤ 72
        omega
      have hlen : ((d.flatMap (GN1 c t A L)).map enG).length < 15000000 := by
        rw [List.length_map]
        have : d.length * 72 ≤ 13824 * 72 := Nat.mul_le_mul_right _ (by omega)
        omega
      obtain ⟨r11, r12, r13, r14, e⟩ := gn_out hT hL h2 (k := k) hlen q11 q12 q13 q14
      rw [Nat.zero_add]
      refine ⟨_, _, rfl, e, some (.val (.int (n : Nat))), some (.val (.int (A.getD n 0))), r11, r12, r13, r14, ?_⟩
      rw [List.flatMap_append, List.map_append]
      simp)
  rw [List.nil_append] at e
  have e1 := places_ok t4 (k := k) hk'
  have e2 := strides_ok (c := c) (t := t) hT.1 c3 t4 (k := k) (by omega)
  have en := enA (A := A)
  have ag := fun σ => asg_tab (c := c) (t := t) (A := A) 6 7 8 σ
  have ln : bcallT .len [.lst ((OR t).map (plT t))] = some (.val (.int (OM t : Nat))) := by simp [OM]
  rw [run_atT (F := fn185) rfl k _ rfl]
  show endT 185 (evSsT (runT fs k) b185 [some (.val (tabT c t A)), some (.val (.lst (L.map lnN))), none, none, none, none, none, none, none, none, none, none, none, none, none]) = _
  have ge : GN c t A L = (List.range A.length).flatMap (GN1 c t A L) := rfl
  rw [ge]
  generalize ((List.range A.length).flatMap (GN1 c t A L)).map enG = R at *
  generalize (List.range A.length).map (fun (n : Nat) => TV.tup [.int ((0 + n : Nat) : Int), .int (A.getD n 0)]) = its at *
  unfold S185 at *
  generalize (stN c t).map (fun (n : Nat) => TV.int (n : Int)) = SS at *
  generalize (OR t).map (plT t) = PP at *
  generalize L.map lnN = LL at *
  generalize tabT c t A = T at *
  generalize tZ A = TA at *
  simp [b185, ag, e1, ln, e2, en, e]
/-- all untruths -/
theorem every_ok (t4 : t ≤ 4) : LOk t (List.replicate (OM t) (List.range (OM t))) := ⟨by simp, fun N hN => by
  rw [(List.mem_replicate.mp hN).2]
  exact ⟨by rw [List.length_range]; exact OM_le t t4, fun l hl => List.mem_range.mp hl⟩⟩
theorem GN_mem (t4 : t ≤ 4) (al : A.length = (SYn t c).length) (hL : LOk t L) {p : Nat × Nat × Nat} : p ∈ GN c t A L ↔ p.1 < A.length ∧ p.2.1 < c ∧ p.2.2 ∈ L.getD (num t ((sat t c p.1).getD p.2.1 [])) [] ∧ gq c t A p.1 p.2.1 p.2.2 = true := by
  unfold GN GN1 GN2
  simp only [List.mem_flatMap, List.mem_range, List.mem_map, List.mem_filter]
  constructor
  · rintro ⟨n, hn, h, hh, l, ⟨h1, h2⟩, rfl⟩
    exact ⟨hn, hh, h1, h2⟩
  · rintro ⟨h1, h2, h3, h4⟩
    exact ⟨p.1, h1, p.2.1, h2, p.2.2, ⟨h3, h4⟩, rfl⟩
end
end Lw
end
section
set_option Elab.async false
set_option linter.all false
set_option maxRecDepth 100000
set_option maxHeartbeats 1000000
namespace Lw
open PySem Mn Vt
/-! ### a told gain looked at -/
/-! ### the first near gain, by numbers -/
end Lw
end
section
set_option Elab.async false
set_option linter.all false
set_option maxRecDepth 100000
set_option maxHeartbeats 1000000
namespace Lw
open PySem Mn Vt
/-! ### two things: told by the least sets -/
section
variable {c t : Nat} {A : List Int}
/-! ### what is so lets no hand gain -/
end
/-! ### what a table is judged as -/
end Lw
end
section
set_option Elab.async false
set_option linter.all false
set_option maxRecDepth 100000
set_option maxHeartbeats 1000000
namespace Lw
open PySem Mn Vt
theorem insI_perm (i : Int) : ∀ l : List Int, (insI i l).Perm (i :: l)
  | [] => .refl _
  | j :: l => by
    rw [insI]
    split
    · exact .refl _
    · exact ((insI_perm i l).cons j).trans (.swap i j l)
theorem isort_pm : ∀ l : List Int, (isort l).Perm l
  | [] => .refl _
  | i :: l => (insI_perm i (isort l)).trans ((isort_pm l).cons i)
theorem insI_srt (i : Int) : ∀ l : List Int, l.Pairwise (· ≤ ·) → (insI i l).Pairwise (· ≤ ·)
  | [], _ => by rw [insI]; exact List.pairwise_singleton _ _
  | j :: l, h => by
    rw [insI]
    obtain ⟨h1, h2⟩ := List.pairwise_cons.mp h
    split
    · rename_i q
      exact List.pairwise_cons.mpr ⟨fun x hx => by
        rcases List.mem_cons.mp hx with rfl | hx
        · exact q
        · exact Int.le_trans q (h1 x hx), h⟩
    · rename_i q
      refine List.pairwise_cons.mpr ⟨fun x hx => ?_, insI_srt i l h2⟩
      rcases List.mem_cons.mp ((insI_perm i l).mem_iff.mp hx) with rfl | hx
      · omega
      · exact h1 x hx
theorem isort_srt : ∀ l : List Int, (isort l).Pairwise (· ≤ ·)
  | [] => List.Pairwise.nil
  | i :: l => insI_srt i _ (isort_srt l)
theorem dd_memV {α : Type} [DecidableEq α] : ∀ {l : List α} {x : α}, x ∈ dd l ↔ x ∈ l
  | [], x => Iff.rfl
  | y :: l, x => by
    rw [dd]
    split
    · rename_i h
      rw [dd_memV, List.mem_cons]
      exact ⟨.inr, fun q => q.elim (fun e => e ▸ h) id⟩
    · rw [List.mem_cons, List.mem_cons, dd_memV]
theorem dd_nodupV {α : Type} [DecidableEq α] : ∀ l : List α, (dd l).Nodup
  | [] => List.Pairwise.nil
  | y :: l => by
    rw [dd]
    split
    · exact dd_nodupV l
    · rename_i h
      exact List.nodup_cons.mpr ⟨fun q => h (dd_memV.mp q), dd_nodupV l⟩
end Lw
end
section
set_option Elab.async false
set_option linter.all false
set_option maxRecDepth 100000
set_option maxHeartbeats 1000000
namespace Lw
open PySem Mn Vt
section
variable {c t : Nat} {A : List Int}
end
/-! ### the law's own judgement -/
section
variable {c t : Nat} {A : List Int}
end
end Lw
end
section
set_option Elab.async false
set_option linter.all false
set_option maxRecDepth 100000
set_option maxHeartbeats 1000000
namespace Lw
open PySem Mn Vt
section
variable {c t : Nat} {A : List Int}
end
end Lw
end
section
set_option Elab.async false
set_option linter.all false
set_option maxRecDepth 100000
set_option maxHeartbeats 1000000
namespace Lw
open PySem Mn Vt
/-! ### sayings of some orders -/
def SO (Os : List (List Int)) : Nat → List (List (List Int))
  | 0 => [[]]
  | c + 1 => (SO Os c).flatMap fun s => Os.map fun o => s ++ [o]
/-! ### judged among some orders -/
section
variable {c t : Nat} {A : List Int} {Os : List (List Int)}
end
end Lw
end
section
set_option Elab.async false
set_option linter.all false
set_option maxRecDepth 100000
set_option maxHeartbeats 1000000
namespace Lw
open PySem Mn Vt
section
variable {c t : Nat} {A : List Int} {Os : List (List Int)}
theorem tupZs_ints {l : List Int} (h : l ≠ []) : tupZsT (l.map TV.int) = none := by
  cases l with
  | nil => exact absurd rfl h
  | cons x l => rfl
end
end Lw
end
section
set_option Elab.async false
set_option linter.all false
set_option maxRecDepth 100000
set_option maxHeartbeats 1000000
namespace Lw
open PySem Mn Vt
section
variable {c t : Nat} {A : List Int}
/-! ### among all orders -/
end
end Lw
end
section
set_option Elab.async false
set_option linter.all false
set_option maxRecDepth 100000
set_option maxHeartbeats 1000000
namespace Lw
open PySem Mn Vt
/-! ### orders as a set -/
def osrt (ks : List (List Int)) : List (List Int) := (dd ks).mergeSort leZ
theorem osrt_mem {ks : List (List Int)} {x : List Int} : x ∈ osrt ks ↔ x ∈ ks := by unfold osrt; rw [(List.mergeSort_perm _ _).mem_iff, ddv_mem]
theorem osrt_nodup (ks : List (List Int)) : (osrt ks).Nodup := (List.mergeSort_perm _ _).symm.nodup (ddv_nodup _)
theorem ndp {a b : List (List Int)} (ha : a.Nodup) (hb : b.Nodup) (h : ∀ x ∈ a, x ∈ b) : (b.filter fun x => decide (x ∈ a)).length = a.length := by
  refine ((List.perm_ext_iff_of_nodup (List.Pairwise.filter _ hb) ha).mpr fun x => ?_).length_eq
  rw [List.mem_filter, decide_eq_true_eq]
  exact ⟨fun q => q.2, fun q => ⟨h x q, q⟩⟩
theorem nodup_le {a b : List (List Int)} (ha : a.Nodup) (hb : b.Nodup) (h : ∀ x ∈ a, x ∈ b) : a.length ≤ b.length := by
  rw [← ndp ha hb h]; exact List.length_filter_le _ _
theorem tupZs_tZ : ∀ L : List (List Int), tupZsT (L.map tZ) = some L
  | [] => rfl
  | H :: L => by
    have h1 : tupZT (tZ H) = some H := ints_lI H
    rw [List.map_cons, tupZsT, h1, tupZs_tZ L]; rfl
theorem ints_tZ {L : List (List Int)} (h : L ≠ []) : intsT (L.map tZ) = none := by
  cases L with
  | nil => exact absurd rfl h
  | cons x L => rfl
theorem srt_tup {L : List (List Int)} (hn : L ≠ []) (hl : L.length < 64) (ne : ∀ k ∈ L, k ≠ []) : bcallT .srtSet [.tup (L.map tZ)] = some (.live ((osrt L).map tZ)) := by
  have hc : L.length < 64 ∧ (L.all fun k => !k.isEmpty) = true := ⟨hl, List.all_eq_true.mpr fun k hk => by
    have := ne k hk
    cases k <;> first | rfl | exact absurd rfl this⟩
  simp only [bcallT, ints_tZ hn, tupZs_tZ, Option.bind_some, if_pos hc]
  rfl
/-! ### fewer, or before -/
def pairT (F : List (List Int)) : TV := .tup [.int (F.length : Nat), tS F]
def ltF (a b : List (List Int)) : Bool := (pairT a).toP.lt (pairT b).toP
theorem pairP (F : List (List Int)) : (pairT F).toP = .tup [.int (F.length : Nat), (tS F).toP] := rfl
theorem alks_all {α : Type} (f : α → PV) (h : ∀ x y, (f x).alk (f y) = true) : ∀ a b : List α, PV.alk.alks (a.map f) (b.map f) = true
  | [], b => by rw [List.map_nil, PV.alk.alks]
  | x :: a, [] => by rw [List.map_cons, List.map_nil, PV.alk.alks]
  | x :: a, y :: b => by rw [List.map_cons, List.map_cons, PV.alk.alks, alks_all f h a b, h]; rfl
theorem alk_seq {α : Type} (f : α → TV) (h : ∀ x y, (f x).toP.alk (f y).toP = true) (a b : List α) : (TV.tup (a.map f)).toP.alk (TV.tup (b.map f)).toP = true := by
  rw [TV.toP, TV.toP, PV.alk, toPs_mapf, toPs_mapf]
  exact alks_all _ h a b
theorem alk_tZ (a b : List Int) : (tZ a).toP.alk (tZ b).toP = true := alk_seq TV.int (fun x y => rfl) a b
theorem alk_tS (a b : List (List Int)) : (tS a).toP.alk (tS b).toP = true := alk_seq tZ alk_tZ a b
theorem sh_pair (F : List (List Int)) : shallow (pairT F).toP = true := by
  rw [pairP]
  have := dat_tS F (d := 59) (by decide)
  unfold shallow
  rw [PV.dat, PV.dat.dats, PV.dat.dats, PV.dat.dats]
  simp [PV.dat, this]
theorem ltF_ok (a b : List (List Int)) : cmpT .Lt (pairT a) (pairT b) = some (.val (.bl (ltF a b))) := by
  have : ltOkT (pairT a) (pairT b) = true := by
    unfold ltOkT ltOk
    rw [sh_pair, sh_pair, pairP, pairP, PV.alk, PV.alk.alks, PV.alk.alks, PV.alk.alks, alk_tS]
    rfl
  show (if ltOkT (pairT a) (pairT b) then vB ((pairT a).toP.lt (pairT b).toP) else none) = _
  rw [if_pos this]; rfl
theorem ltF_le (a b : List (List Int)) : (ltF a b = true → a.length ≤ b.length) ∧ (ltF a b = false → b.length ≤ a.length) := by
  unfold ltF
  rw [pairP, pairP, PV.lt, PV.lt.lts]
  simp only [PV.eqv, PV.lt]
  by_cases h : a.length = b.length
  · exact ⟨fun _ => by omega, fun _ => by omega⟩
  · have h' : ¬ ((a.length : Nat) : Int) = ((b.length : Nat) : Int) := by omega
    simp only [beq_iff_eq, h', if_false, decide_eq_true_eq, decide_eq_false_iff_not]
    constructor <;> intro q <;> omega
def fstp (f : Option (List (List Int))) (x : List (List Int)) : Option (List (List Int)) :=
  match f with
  | none => some x
  | some y => if ltF x y then some x else some y
theorem fold_none : ∀ {L : List (List (List Int))} {f : Option (List (List Int))}, L.foldl fstp f = none → f = none ∧ L = []
  | [], f, h => ⟨h, rfl⟩
  | x :: L, f, h => by
    have := (fold_none (L := L) h).1
    cases f with
    | none => cases this
    | some y =>
      exfalso
      unfold fstp at this
      split at this <;> first | cases this | (split at this <;> cases this)
theorem fold_some : ∀ {L : List (List (List Int))} {f : Option (List (List Int))} {F : List (List Int)}, L.foldl fstp f = some F → (F ∈ L ∨ f = some F) ∧ (∀ x ∈ L, F.length ≤ x.length) ∧ ∀ y, f = some y → F.length ≤ y.length
  | [], f, F, h => ⟨.inr h, by simp, fun y e => by rw [show f = some F from h] at e; cases e; exact Nat.le_refl _⟩
  | x :: L, f, F, h => by
    obtain ⟨h1, h2, h3⟩ := fold_some (L := L) h
    cases f with
    | none =>
      refine ⟨.inl ?_, ?_, fun y e => by cases e⟩
      · rcases h1 with h1 | h1
        · exact List.mem_cons_of_mem _ h1
        · cases h1; exact List.mem_cons_self
      · intro z hz
        rcases List.mem_cons.mp hz with rfl | hz
        · exact h3 _ rfl
        · exact h2 z hz
    | some y =>
      have le := ltF_le x y
      cases q : ltF x y with
      | true =>
        have e : fstp (some y) x = some x := by unfold fstp; simp [q]
        rw [e] at h1 h3
        have hx := h3 x rfl
        refine ⟨.inl ?_, ?_, fun z e => ?_⟩
        · rcases h1 with h1 | h1
          · exact List.mem_cons_of_mem _ h1
          · cases h1; exact List.mem_cons_self
        · intro z hz
          rcases List.mem_cons.mp hz with rfl | hz
          · exact hx
          · exact h2 z hz
        · cases e
          exact Nat.le_trans hx (le.1 q)
      | false =>
        have e : fstp (some y) x = some y := by unfold fstp; simp [q]
        rw [e] at h1 h3
        have hy := h3 y rfl
        refine ⟨?_, ?_, fun z e => by cases e; exact hy⟩
        · rcases h1 with h1 | h1
          · exact .inl (List.mem_cons_of_mem _ h1)
          · exact .inr h1
        · intro z hz
          rcases List.mem_cons.mp hz with rfl | hz
          · exact Nat.le_trans hy (le.2 q)
          · exact h2 z hz
/-! ### the orders of a gain -/
section
variable {c t : Nat} {A : List Int}
theorem OR_row {t : Nat} (t4 : t ≤ 4) (t2 : 2 ≤ t) {o : List Int} (ho : o ∈ OR t) : o ≠ [] := fun z => by
  have := (OR_OD t4 ho).len
  rw [z] at this
  simp at this
  omega
def gls (t : Nat) (A : List Int) (s : List (List Int)) (h : Nat) : List (List (List Int)) := ((OR t).filter fun o => gby t A s h o).map fun o => osrt (s ++ [o])
theorem add_S (s : List (List Int)) (o : List Int) (h : s.length ≤ 1000) : binT .Add (tS s) (.tup [tZ o]) = some (.val (tS (s ++ [o]))) := by
  have hz : (s.map tZ).length + [tZ o].length ≤ LIM := by rw [List.length_map, Vt.LIM_eq]; simp; omega
  show (if _ then _ else _) = _
  rw [if_pos hz]
  show _ = some (SV.val (.tup ((s ++ [o]).map tZ)))
  rw [List.map_append]; rfl
theorem gain_orders_ok (hT : TB c t A) {s : List (List Int)} (hs : s ∈ SYn t c) {h : Nat} (hh : h < c) {k : Nat} (hk : 5 ≤ k) : runT fs k 396 [.val (tabT c t A), .val (tS s), .val (.int (h : Nat))] = .ok (.live ((gls t A s h).map tS)) [] := by
  obtain ⟨k, rfl, hk'⟩ := kpos hk
  have t4 := hT.2.2.2.1
  have t2 := hT.2.2.1
  have c3 := hT.2.1
  obtain ⟨sl, so⟩ := SY_mem t c s hs
  have ol := OM_le t t4
  unfold OM at ol
  obtain ⟨σ', e, x4, rfl⟩ := for_inv (g := .name 4) (body := evSsT (runT fs k) b396_L0) tZ
    (fun d σ => ∃ x4, σ = [some (.val (tabT c t A)), some (.val (tS s)), some (.val (.int (h : Nat))), some (.live (((d.filter fun o => gby t A s h o).map fun o => osrt (s ++ [o])).map tS)), x4, some (.val (.int (c : Nat))), some (.val (.int (t : Nat))), some (.val (tZ A))])
    (OR t) [] (σ := [some (.val (tabT c t A)), some (.val (tS s)), some (.val (.int (h : Nat))), some (.live []), none, some (.val (.int (c : Nat))), some (.val (.int (t : Nat))), some (.val (tZ A))]) ⟨none, rfl⟩ (by
      rintro d o ⟨r, hr⟩ σ ⟨x4, rfl⟩
      rw [List.nil_append]
      have ho : o ∈ OR t := by rw [hr]; simp
      have e1 := gains_ok hT hs hh ho (k := k) (by omega)
      have ad := add_S s o (by omega)
      have st := srt_tup (L := s ++ [o]) (by simp) (by simp; omega) (fun q hq => by
        rcases List.mem_append.mp hq with hq | hq
        · exact OR_row t4 t2 (so q hq)
        · simp at hq; subst hq; exact OR_row t4 t2 ho)
      have st' : bcallT .srtSet [tS (s ++ [o])] = some (.live ((osrt (s ++ [o])).map tZ)) := st
      have tu : bcallT .tuple [.lst ((osrt (s ++ [o])).map tZ)] = some (.val (tS (osrt (s ++ [o])))) := rfl
      have dl : (((d.filter fun o => gby t A s h o).map fun o => osrt (s ++ [o])).map tS).length < 16777216 := by
        rw [List.length_map, List.length_map]
        have := List.length_filter_le (fun o => gby t A s h o) d
        have : d.length ≤ (OR t).length := by rw [hr]; simp
        omega
      refine ⟨[some (.val (tabT c t A)), some (.val (tS s)), some (.val (.int (h : Nat))), some (.live (((d.filter fun o => gby t A s h o).map fun o => osrt (s ++ [o])).map tS)), some (.val (tZ o)), some (.val (.int (c : Nat))), some (.val (.int (t : Nat))), some (.val (tZ A))], _, rfl, ?_, some (.val (tZ o)), rfl⟩
      rw [List.filter_append, List.filter_cons, List.filter_nil, List.map_append, List.map_append]
      generalize ((d.filter fun o => gby t A s h o).map fun o => osrt (s ++ [o])).map tS = D at *
      have g2 : ((if gby t A s h o = true then [o] else []).map fun o => osrt (s ++ [o])).map tS = if gby t A s h o = true then [tS (osrt (s ++ [o]))] else [] := by cases gby t A s h o <;> rfl
      rw [g2]
      generalize tS (osrt (s ++ [o])) = R at *
      generalize (osrt (s ++ [o])).map tZ = R1 at *
      generalize tS (s ++ [o]) = S1 at *
      generalize tabT c t A = T at *
      generalize tZ A = TA at *
      generalize tS s = U at *
      generalize tZ o = O at *
      generalize gby t A s h o = g at *
      cases g <;> simp [b396_L0, e1, ad, st', tu, dl])
  rw [List.nil_append] at e
  have ag := fun σ => asg_tab (c := c) (t := t) (A := A) 5 6 7 σ
  have o1 := orders_ok t4 (k := k) (by omega)
  rw [run_atT (F := fn396) rfl k _ rfl]
  show endT 396 (evSsT (runT fs k) b396 [some (.val (tabT c t A)), some (.val (tS s)), some (.val (.int (h : Nat))), none, none, none, none, none]) = _
  have gd : (gls t A s h).map tS = ((((OR t).filter fun o => gby t A s h o).map fun o => osrt (s ++ [o])).map tS) := rfl
  rw [gd]
  generalize (((OR t).filter fun o => gby t A s h o).map fun o => osrt (s ++ [o])).map tS = D at *
  generalize (OR t).map tZ = X at *
  generalize tabT c t A = T at *
  generalize tZ A = TA at *
  generalize tS s = U at *
  have sq : seqT (.lst X) = some X := rfl
  simp [b396, ag, o1, sq, e]
end
end Lw
end
section
set_option Elab.async false
set_option linter.all false
set_option maxRecDepth 100000
set_option maxHeartbeats 1000000
namespace Lw
open PySem Mn Vt
section
variable {c t : Nat} {A : List Int}
def fv : Option (List (List Int)) → TV
  | none => .non
  | some F => tS F
theorem few_turn (T : TV) (h k2 : Nat) (c' t' a' : TV) {k : Nat} (f : Option (List (List Int))) (x : List (List Int)) :
    evSsT (runT fs k) b397_L2 [some (.val T), some (.val (fv f)), some (.val (.int (k2 : Nat))), some (.val c'), some (.val t'), some (.val a'), some (.val (.int (h : Nat))), some (.val (tS x))]
      = .ok .next [some (.val T), some (.val (fv (fstp f x))), some (.val (.int (k2 : Nat))), some (.val c'), some (.val t'), some (.val a'), some (.val (.int (h : Nat))), some (.val (tS x))] := by
  cases f with
  | none =>
    have n1 : isNonT .non = true := rfl
    have e : fv (fstp none x) = tS x := rfl
    rw [e]
    show evSsT (runT fs k) b397_L2 [some (.val T), some (.val .non), some (.val (.int (k2 : Nat))), some (.val c'), some (.val t'), some (.val a'), some (.val (.int (h : Nat))), some (.val (tS x))] = _
    generalize tS x = X at *
    simp [b397_L2, n1]
  | some y =>
    have n1 : isNonT (tS y) = false := rfl
    have lx : bcallT .len [tS x] = some (.val (.int (x.length : Nat))) := by show bcallT .len [.tup (x.map tZ)] = _; simp
    have ly : bcallT .len [tS y] = some (.val (.int (y.length : Nat))) := by show bcallT .len [.tup (y.map tZ)] = _; simp
    have lt : cmpT .Lt (.tup [.int (x.length : Nat), tS x]) (.tup [.int (y.length : Nat), tS y]) = some (.val (.bl (ltF x y))) := ltF_ok x y
    show evSsT (runT fs k) b397_L2 [some (.val T), some (.val (tS y)), some (.val (.int (k2 : Nat))), some (.val c'), some (.val t'), some (.val a'), some (.val (.int (h : Nat))), some (.val (tS x))] = _
    have e : fv (fstp (some y) x) = if ltF x y then tS x else tS y := by
      show fv (if ltF x y = true then some x else some y) = _
      cases ltF x y <;> rfl
    rw [e]
    generalize ltF x y = g at *
    generalize tS x = X at *
    generalize tS y = Y at *
    generalize (x.length : Int) = lx' at *
    generalize (y.length : Int) = ly' at *
    cases g <;> simp [b397_L2, n1, lx, ly, lt]
def fewH (t : Nat) (A : List Int) (s : List (List Int)) (f : Option (List (List Int))) (h : Nat) : Option (List (List Int)) := (gls t A s h).foldl fstp f
def fewK (c t : Nat) (A : List Int) (f : Option (List (List Int))) (n : Nat) : Option (List (List Int)) := (List.range c).foldl (fewH t A (sat t c n)) f
def few (c t : Nat) (A : List Int) : Option (List (List Int)) := (List.range (SYn t c).length).foldl (fewK c t A) none
abbrev S397 (c t : Nat) (A : List Int) (f : Option (List (List Int))) (p2 p6 p7 : Option SV) : SS := [some (.val (tabT c t A)), some (.val (fv f)), p2, some (.val (.int (c : Nat))), some (.val (.int (t : Nat))), some (.val (tZ A)), p6, p7]
theorem fewest_ok (hT : TB c t A) {k : Nat} (hk : 6 ≤ k) : runT fs k 397 [.val (tabT c t A)] = .ok (.val (fv (few c t A))) [] := by
  obtain ⟨k, rfl, hk'⟩ := kpos hk
  have t4 := hT.2.2.2.1
  have c3 := hT.2.1
  have sl := SY_le (t := t) (c := c) t4 c3
  obtain ⟨σ', e, x2, x6, x7, rfl⟩ := for_fold (g := .name 2) (body := evSsT (runT fs k) b397_L0) (fun (n : Nat) => TV.int (n : Int))
    (fun f σ => ∃ p2 p6 p7, σ = S397 c t A f p2 p6 p7) (fewK c t A) (List.range (SYn t c).length) (b := none) (σ := S397 c t A none none none none) ⟨none, none, none, rfl⟩ (by
      rintro n hn f σ ⟨p2, p6, p7, rfl⟩
      rw [List.mem_range] at hn
      have e1 := saying_at_ok c3 t4 hn (k := k) (by omega)
      have hs := sat_in t4 hn
      obtain ⟨σ', e, x6, x7, rfl⟩ := for_fold (g := .name 6) (body := evSsT (runT fs k) b397_L1) (fun (h : Nat) => TV.int (h : Int))
        (fun f σ => ∃ p6 p7, σ = S397 c t A f (some (.val (.int (n : Nat)))) p6 p7) (fewH t A (sat t c n)) (List.range c) (b := f) (σ := S397 c t A f (some (.val (.int (n : Nat)))) p6 p7) ⟨p6, p7, rfl⟩ (by
          rintro h hh f σ ⟨p6, p7, rfl⟩
          rw [List.mem_range] at hh
          have e2 := gain_orders_ok hT hs hh (k := k) hk'
          obtain ⟨σ', e, x7, rfl⟩ := for_fold (g := .name 7) (body := evSsT (runT fs k) b397_L2) tS
            (fun f σ => ∃ p7, σ = S397 c t A f (some (.val (.int (n : Nat)))) (some (.val (.int (h : Nat)))) p7) fstp (gls t A (sat t c n) h) (b := f) (σ := S397 c t A f (some (.val (.int (n : Nat)))) (some (.val (.int (h : Nat)))) p7) ⟨p7, rfl⟩ (by
              rintro x hx f σ ⟨p7, rfl⟩
              exact ⟨S397 c t A f (some (.val (.int (n : Nat)))) (some (.val (.int (h : Nat)))) (some (.val (tS x))), _, rfl, few_turn _ _ _ _ _ _ f x, _, rfl⟩)
          refine ⟨S397 c t A f (some (.val (.int (n : Nat)))) (some (.val (.int (h : Nat)))) p7, S397 c t A (fewH t A (sat t c n) f h) (some (.val (.int (n : Nat)))) (some (.val (.int (h : Nat)))) x7, rfl, ?_, _, _, rfl⟩
          unfold fewH
          unfold S397 at *
          generalize fv ((gls t A (sat t c n) h).foldl fstp f) = V2 at *
          generalize fv f = V1 at *
          generalize (gls t A (sat t c n) h).map tS = L at *
          generalize tabT c t A = T at *
          generalize tZ A = TA at *
          generalize tS (sat t c n) = U at *
          have sq : seqT (.lst L) = some L := rfl
          simp [b397_L1, e1, e2, sq, e])
      refine ⟨S397 c t A f (some (.val (.int (n : Nat)))) p6 p7, S397 c t A (fewK c t A f n) (some (.val (.int (n : Nat)))) x6 x7, rfl, ?_, _, _, _, rfl⟩
      unfold fewK
      have r1 := rng_n (n := c) (by omega)
      unfold S397 at *
      generalize fv ((List.range c).foldl (fewH t A (sat t c n)) f) = V2 at *
      generalize fv f = V1 at *
      generalize (List.range c).map (fun (h : Nat) => TV.int (h : Int)) = its at *
      generalize tabT c t A = T at *
      generalize tZ A = TA at *
      simp [b397_L0, r1, e, -rng1_i])
  have e0 := how_many_ok c3 t4 (k := k) (by omega)
  have r1 := rng_n (n := (SYn t c).length) (by omega)
  have ag := fun σ => asg_tab (c := c) (t := t) (A := A) 3 4 5 σ
  rw [run_atT (F := fn397) rfl k _ rfl]
  show endT 397 (evSsT (runT fs k) b397 [some (.val (tabT c t A)), none, none, none, none, none, none, none]) = _
  have fd : few c t A = (List.range (SYn t c).length).foldl (fewK c t A) none := rfl
  rw [fd]
  have f0 : fv none = .non := rfl
  unfold S397 at *
  rw [f0] at e
  generalize fv ((List.range (SYn t c).length).foldl (fewK c t A) none) = V2 at *
  generalize (List.range (SYn t c).length).map (fun (n : Nat) => TV.int (n : Int)) = its at *
  generalize tabT c t A = T at *
  generalize tZ A = TA at *
  generalize ((SYn t c).length : Int) = nl at *
  simp [b397, ag, e0, r1, e, -rng1_i]
/-- all orders of gains -/
def allG (c t : Nat) (A : List Int) : List (List (List Int)) := (List.range (SYn t c).length).flatMap fun n => (List.range c).flatMap fun h => gls t A (sat t c n) h
theorem few_is : few c t A = (allG c t A).foldl fstp none := by
  unfold few allG
  rw [List.foldl_flatMap]
  congr 1
  funext f n
  unfold fewK
  rw [List.foldl_flatMap]
  rfl
theorem allG_mem (t4 : t ≤ 4) {F : List (List Int)} : F ∈ allG c t A ↔ ∃ s ∈ SYn t c, ∃ h < c, ∃ o ∈ OR t, gby t A s h o = true ∧ F = osrt (s ++ [o]) := by
  unfold allG gls
  constructor
  · intro q
    obtain ⟨n, hn, q⟩ := List.mem_flatMap.mp q
    obtain ⟨h, hh, q⟩ := List.mem_flatMap.mp q
    obtain ⟨o, ho, rfl⟩ := List.mem_map.mp q
    obtain ⟨h1, h2⟩ := List.mem_filter.mp ho
    exact ⟨_, sat_in t4 (List.mem_range.mp hn), h, List.mem_range.mp hh, o, h1, h2, rfl⟩
  · rintro ⟨s, hs, h, hh, o, ho, g, rfl⟩
    refine List.mem_flatMap.mpr ⟨plc t s, List.mem_range.mpr (plc_lt c hs), List.mem_flatMap.mpr ⟨h, List.mem_range.mpr hh, ?_⟩⟩
    rw [sat_plc t4 c hs]
    exact List.mem_map.mpr ⟨o, List.mem_filter.mpr ⟨ho, g⟩, rfl⟩
/-- the fewest: none, or orders of a gain and no more than those of any -/
theorem few_or (t4 : t ≤ 4) : (few c t A = none ∧ NoG c t A) ∨ ∃ F, few c t A = some F ∧ (∃ s ∈ SYn t c, ∃ h < c, ∃ o ∈ OR t, gby t A s h o = true ∧ F = osrt (s ++ [o])) ∧
    ∀ s ∈ SYn t c, ∀ h < c, ∀ o ∈ OR t, gby t A s h o = true → F.length ≤ (osrt (s ++ [o])).length := by
  rw [few_is]
  cases q : (allG c t A).foldl fstp none with
  | none =>
    obtain ⟨-, e⟩ := fold_none q
    refine .inl ⟨rfl, fun s hs h hh o ho => ?_⟩
    cases g : gby t A s h o with
    | false => rfl
    | true =>
      have : osrt (s ++ [o]) ∈ allG c t A := (allG_mem t4).mpr ⟨s, hs, h, hh, o, ho, g, rfl⟩
      rw [e] at this; cases this
  | some F =>
    obtain ⟨h1, h2, -⟩ := fold_some q
    refine .inr ⟨F, rfl, ?_, fun s hs h hh o ho g => h2 _ ((allG_mem t4).mpr ⟨s, hs, h, hh, o, ho, g, rfl⟩)⟩
    rcases h1 with h1 | h1
    · exact (allG_mem t4).mp h1
    · cases h1
/-! ### judged among orders: gains or none -/
variable {Os : List (List Int)}
theorem SO_in : ∀ (c : Nat) {s : List (List Int)}, s.length = c → (∀ o ∈ s, o ∈ Os) → s ∈ SO Os c
  | 0, s, hl, h => by rw [List.length_eq_zero_iff.mp hl]; simp [SO]
  | c + 1, s, hl, h => by
    have hn : s ≠ [] := fun z => by rw [z] at hl; cases hl
    have e := List.dropLast_concat_getLast hn
    rw [SO, List.mem_flatMap]
    refine ⟨s.dropLast, SO_in c (by rw [List.length_dropLast, hl]; rfl) fun o ho => h o ((List.dropLast_sublist s).subset ho), List.mem_map.mpr ⟨s.getLast hn, h _ (List.getLast_mem hn), e⟩⟩
/-- some hand gains by these orders -/
def GaO (c t : Nat) (A : List Int) (Os : List (List Int)) : Prop := ∃ s ∈ SO Os c, ∃ h < c, ∃ o ∈ Os, gby t A s h o = true
end
end Lw
end
section
set_option Elab.async false
set_option linter.all false
set_option maxRecDepth 100000
set_option maxHeartbeats 1000000
namespace Lw
open PySem Mn Vt
/-- some orders, each once -/
def OSet (t : Nat) (Os : List (List Int)) : Prop := (∀ o ∈ Os, o ∈ OR t) ∧ Os.Nodup
theorem OSet.len {t : Nat} (t4 : t ≤ 4) {Os : List (List Int)} (h : OSet t Os) : Os.length ≤ (OR t).length := nodup_le h.2 (OR_nodup t t4) h.1
theorem OSet.srt {t : Nat} {Os : List (List Int)} (h : ∀ o ∈ Os, o ∈ OR t) : OSet t (osrt Os) := ⟨fun o ho => h o (osrt_mem.mp ho), osrt_nodup Os⟩
section
variable {c t : Nat} {A : List Int} {Os : List (List Int)}
/-- the fewest -/
structure Few (c t : Nat) (A : List Int) (F : List (List Int)) : Prop where
  is : ∃ s ∈ SYn t c, ∃ h < c, ∃ o ∈ OR t, gby t A s h o = true ∧ F = osrt (s ++ [o])
  le : ∀ s ∈ SYn t c, ∀ h < c, ∀ o ∈ OR t, gby t A s h o = true → F.length ≤ (osrt (s ++ [o])).length
variable {F : List (List Int)}
theorem Few.set (h : Few c t A F) : OSet t F := by
  obtain ⟨s, hs, h, hh, o, ho, g, rfl⟩ := h.is
  refine OSet.srt fun q hq => ?_
  rcases List.mem_append.mp hq with hq | hq
  · exact (SY_mem t c s hs).2 q hq
  · simp at hq; subst hq; exact ho
theorem Few.ne (h : Few c t A F) : F ≠ [] := by
  obtain ⟨s, hs, h, hh, o, ho, g, rfl⟩ := h.is
  exact fun z => by
    have : o ∈ osrt (s ++ [o]) := osrt_mem.mpr (by simp)
    rw [z] at this; cases this
/-- with more orders some hand gains -/
theorem Few.more (h : Few c t A F) (hs : ∀ o ∈ F, o ∈ Os) : GaO c t A Os := by
  obtain ⟨s, hS, i, hh, o, ho, g, rfl⟩ := h.is
  exact ⟨s, SO_in c (SY_mem t c s hS).1 fun q hq => hs q (osrt_mem.mpr (List.mem_append.mpr (.inl hq))), i, hh, o, hs o (osrt_mem.mpr (by simp)), g⟩
end
end Lw
end
section
set_option Elab.async false
set_option linter.all false
set_option maxRecDepth 100000
set_option maxHeartbeats 1000000
namespace Lw
open PySem Mn Vt
/-! ### orders by their numbers -/
def ordI (t : Nat) (N : List Int) : List (List Int) := N.map fun i => (OR t).getD i.toNat []
def inN (t : Nat) (i : Int) : Prop := 0 ≤ i ∧ i < (OM t : Nat)
theorem or_le_all : ((List.range 5).all fun t => (List.range (OM t)).all fun i => (List.range (OM t)).all fun j => leZ ((OR t).getD i []) ((OR t).getD j []) == decide (i ≤ j)) = true := by decide +kernel
theorem or_le {t : Nat} (t4 : t ≤ 4) {i j : Int} (hi : inN t i) (hj : inN t j) : leZ ((OR t).getD i.toNat []) ((OR t).getD j.toNat []) = decide (i ≤ j) := by
  obtain ⟨i0, i1⟩ := hi
  obtain ⟨j0, j1⟩ := hj
  have := eq_of_beq (List.all_eq_true.mp (List.all_eq_true.mp (List.all_eq_true.mp or_le_all t (List.mem_range.mpr (by omega))) i.toNat (List.mem_range.mpr (by omega))) j.toNat (List.mem_range.mpr (by omega)))
  rw [this]
  by_cases h : i ≤ j
  · rw [decide_eq_true h, decide_eq_true (by omega)]
  · rw [decide_eq_false h, decide_eq_false (by omega)]
theorem or_inj {t : Nat} (t4 : t ≤ 4) {i j : Int} (hi : inN t i) (hj : inN t j) (h : (OR t).getD i.toNat [] = (OR t).getD j.toNat []) : i = j := by
  obtain ⟨i0, i1⟩ := hi
  obtain ⟨j0, j1⟩ := hj
  have h1 := num_at t4 (n := i.toNat) (by omega)
  have h2 := num_at t4 (n := j.toNat) (by omega)
  rw [h] at h1
  omega
def nset (t : Nat) (s : List (List Int)) (l : Nat) : List Int := isort (dd ((s.map fun o => ((num t o : Nat) : Int)) ++ [(l : Int)]))
section
variable {c t : Nat} {A : List Int}
theorem nset_mem {s : List (List Int)} {l : Nat} {i : Int} : i ∈ nset t s l ↔ (∃ o ∈ s, i = (num t o : Nat)) ∨ i = (l : Int) := by
  unfold nset
  rw [(isort_pm _).mem_iff, dd_memV, List.mem_append, List.mem_map, List.mem_singleton]
  exact ⟨fun h => h.imp (fun ⟨o, h1, h2⟩ => ⟨o, h1, h2.symm⟩) id, fun h => h.imp (fun ⟨o, h1, h2⟩ => ⟨o, h1, h2.symm⟩) id⟩
theorem nset_in {s : List (List Int)} (hs : ∀ o ∈ s, o ∈ OR t) {l : Nat} (hl : l < OM t) : ∀ i ∈ nset t s l, inN t i := fun i hi => by
  rcases nset_mem.mp hi with ⟨o, ho, rfl⟩ | rfl
  · have := num_lt (hs o ho)
    exact ⟨by omega, by omega⟩
  · exact ⟨by omega, by omega⟩
theorem nset_ord (t4 : t ≤ 4) {s : List (List Int)} (hs : ∀ o ∈ s, o ∈ OR t) {l : Nat} (hl : l < OM t) : osrt (s ++ [(OR t).getD l []]) = ordI t (nset t s l) := by
  have hin := nset_in hs hl
  have nd : (nset t s l).Nodup := (isort_pm _).symm.nodup (dd_nodupV _)
  refine List.Perm.eq_of_pairwise (le := fun a b => leZ a b = true) (fun x y _ _ h1 h2 => lz_anti x y h1 h2) (List.pairwise_mergeSort lz_trans lz_total _) ?_ ?_
  · unfold ordI
    rw [List.pairwise_map]
    refine List.Pairwise.imp_of_mem (fun {i j} hi hj h => ?_) (isort_srt (dd ((s.map fun o => ((num t o : Nat) : Int)) ++ [(l : Int)])))
    rw [or_le t4 (hin i hi) (hin j hj)]
    exact decide_eq_true h
  · refine (List.perm_ext_iff_of_nodup (osrt_nodup _) ?_).mpr fun x => ?_
    · unfold ordI
      rw [List.nodup_iff_pairwise_ne, List.pairwise_map]
      exact List.Pairwise.imp_of_mem (fun {i j} hi hj h e => h (or_inj t4 (hin i hi) (hin j hj) e)) (List.nodup_iff_pairwise_ne.mp nd)
    · rw [osrt_mem, List.mem_append, List.mem_singleton]
      unfold ordI
      rw [List.mem_map]
      constructor
      · rintro (hx | rfl)
        · exact ⟨(num t x : Nat), nset_mem.mpr (.inl ⟨x, hx, rfl⟩), by rw [Int.toNat_natCast]; exact num_get (hs x hx)⟩
        · exact ⟨(l : Int), nset_mem.mpr (.inr rfl), by rw [Int.toNat_natCast]⟩
      · rintro ⟨i, hi, rfl⟩
        rcases nset_mem.mp hi with ⟨o, ho, rfl⟩ | rfl
        · rw [Int.toNat_natCast, num_get (hs o ho)]; exact .inl ho
        · rw [Int.toNat_natCast]; exact .inr rfl
/-! ### compared alike -/
theorem ltz_leZ : ∀ a b : List Int, PV.lt.lts (a.map PV.int) (b.map PV.int) = !leZ b a
  | [], [] => by simp [PV.lt.lts, leZ]
  | x :: a, [] => by simp [PV.lt.lts, leZ]
  | [], y :: b => by simp [PV.lt.lts, leZ]
  | x :: a, y :: b => by
    rw [List.map_cons, List.map_cons, PV.lt.lts, leZ, ltz_leZ a b]
    simp only [PV.eqv, PV.lt]
    by_cases h : x = y
    · subst h; simp
    · have h' : ¬ y = x := fun z => h z.symm
      simp only [beq_iff_eq, h', if_false, h, decide_false, Bool.false_and, Bool.or_false]
      rw [Bool.eq_iff_iff]
      simp only [decide_eq_true_eq, Bool.not_eq_true', decide_eq_false_iff_not]
      omega
theorem tZ_toP (a : List Int) : (tZ a).toP = .tup (a.map PV.int) := by
  show (TV.tup (a.map TV.int)).toP = _
  rw [TV.toP, toPs_mapf]
  rfl
theorem tS_toP (a : List (List Int)) : (tS a).toP = .tup (a.map fun o => (tZ o).toP) := by
  show (TV.tup (a.map tZ)).toP = _
  rw [TV.toP, toPs_mapf]
theorem ltz_tZ (a b : List Int) : (tZ a).toP.lt (tZ b).toP = !leZ b a := by rw [tZ_toP, tZ_toP, PV.lt, ltz_leZ]
theorem lts_ord (t4 : t ≤ 4) : ∀ {N N' : List Int}, (∀ i ∈ N, inN t i) → (∀ i ∈ N', inN t i) → PV.lt.lts ((ordI t N).map fun o => (tZ o).toP) ((ordI t N').map fun o => (tZ o).toP) = PV.lt.lts (N.map PV.int) (N'.map PV.int)
  | [], [], _, _ => rfl
  | [], y :: b, _, _ => by simp [ordI, PV.lt.lts]
  | x :: a, [], _, _ => by simp [ordI, PV.lt.lts]
  | x :: a, y :: b, h1, h2 => by
    have ih := lts_ord t4 (N := a) (N' := b) (fun i hi => h1 i (List.mem_cons_of_mem _ hi)) (fun i hi => h2 i (List.mem_cons_of_mem _ hi))
    have hx := h1 x List.mem_cons_self
    have hy := h2 y List.mem_cons_self
    have e1 : ordI t (x :: a) = (OR t).getD x.toNat [] :: ordI t a := rfl
    have e2 : ordI t (y :: b) = (OR t).getD y.toNat [] :: ordI t b := rfl
    rw [e1, e2, List.map_cons, List.map_cons, List.map_cons, List.map_cons, PV.lt.lts, PV.lt.lts, ih, cod_Z.eq, ltz_tZ, or_le t4 hy hx]
    simp only [PV.eqv, PV.lt]
    by_cases h : x = y
    · subst h; simp
    · have hne : ¬ (OR t).getD x.toNat [] = (OR t).getD y.toNat [] := fun e => h (or_inj t4 hx hy e)
      rw [decide_eq_false hne]
      have hb : (x == y) = false := by simpa using h
      simp only [hb, Bool.false_eq_true, if_false]
      rw [Bool.eq_iff_iff]
      simp only [decide_eq_true_eq, Bool.not_eq_true', decide_eq_false_iff_not]
      omega
theorem ordI_inj (t4 : t ≤ 4) : ∀ {N N' : List Int}, (∀ i ∈ N, inN t i) → (∀ i ∈ N', inN t i) → ordI t N = ordI t N' → N = N'
  | [], [], _, _, _ => rfl
  | [], y :: b, _, _, h => by cases h
  | x :: a, [], _, _, h => by cases h
  | x :: a, y :: b, h1, h2, h => by
    have e1 : ordI t (x :: a) = (OR t).getD x.toNat [] :: ordI t a := rfl
    have e2 : ordI t (y :: b) = (OR t).getD y.toNat [] :: ordI t b := rfl
    rw [e1, e2] at h
    injection h with h3 h4
    rw [or_inj t4 (h1 x List.mem_cons_self) (h2 y List.mem_cons_self) h3, ordI_inj t4 (fun i hi => h1 i (List.mem_cons_of_mem _ hi)) (fun i hi => h2 i (List.mem_cons_of_mem _ hi)) h4]
def ltI (N N' : List Int) : Bool := (unpT ((N.length : Nat), N.map TV.int)).toP.lt (unpT ((N'.length : Nat), N'.map TV.int)).toP
theorem unpP (N : List Int) : (unpT ((N.length : Nat), N.map TV.int)).toP = .tup [.int (N.length : Nat), (tZ N).toP] := rfl
theorem lt_pair (i j : Int) (a b : PV) : (PV.tup [.int i, a]).lt (PV.tup [.int j, b]) = if i == j then (if a.eqv b then false else a.lt b) else decide (i < j) := by
  rw [PV.lt, PV.lt.lts, PV.lt.lts, PV.lt.lts]
  simp only [PV.eqv, PV.lt]
  rfl
theorem ltF_ltI (t4 : t ≤ 4) {N N' : List Int} (h1 : ∀ i ∈ N, inN t i) (h2 : ∀ i ∈ N', inN t i) : ltF (ordI t N) (ordI t N') = ltI N N' := by
  unfold ltF ltI
  rw [pairP, pairP, unpP, unpP, lt_pair, lt_pair, cod_S.eq, cod_Z.eq]
  have l1 : (ordI t N).length = N.length := List.length_map ..
  have l2 : (ordI t N').length = N'.length := List.length_map ..
  have e : decide (ordI t N = ordI t N') = decide (N = N') := by
    by_cases h : N = N'
    · rw [decide_eq_true h, decide_eq_true (by rw [h])]
    · rw [decide_eq_false h, decide_eq_false fun z => h (ordI_inj t4 h1 h2 z)]
  rw [l1, l2, e, tS_toP, tS_toP, tZ_toP, tZ_toP, PV.lt, PV.lt, lts_ord t4 h1 h2]
def nstp (f : Option (List Int)) (x : List Int) : Option (List Int) :=
  match f with
  | none => some x
  | some y => if ltI x y then some x else some y
theorem fold_ord (t4 : t ≤ 4) : ∀ {L : List (List Int)} {f : Option (List Int)}, (∀ N ∈ L, ∀ i ∈ N, inN t i) → (∀ N, f = some N → ∀ i ∈ N, inN t i) → (L.map (ordI t)).foldl fstp (f.map (ordI t)) = (L.foldl nstp f).map (ordI t) ∧ ∀ N, L.foldl nstp f = some N → ∀ i ∈ N, inN t i
  | [], f, _, hf => ⟨rfl, hf⟩
  | x :: L, f, hL, hf => by
    have hx := hL x List.mem_cons_self
    have st : fstp (f.map (ordI t)) (ordI t x) = (nstp f x).map (ordI t) ∧ ∀ N, nstp f x = some N → ∀ i ∈ N, inN t i := by
      cases f with
      | none => exact ⟨rfl, fun N e => by cases e; exact hx⟩
      | some y =>
        have hy := hf y rfl
        have e := ltF_ltI t4 hx hy
        constructor
        · show (if ltF (ordI t x) (ordI t y) then some (ordI t x) else some (ordI t y)) = (if ltI x y then some x else some y).map (ordI t)
          rw [e]
          cases ltI x y <;> rfl
        · intro N e
          have e : (if ltI x y then some x else some y) = some N := e
          cases q : ltI x y <;> rw [q] at e <;> cases e
          · exact hy
          · exact hx
    have ih := fold_ord t4 (L := L) (f := nstp f x) (fun N hN => hL N (List.mem_cons_of_mem _ hN)) st.2
    refine ⟨?_, ih.2⟩
    show (L.map (ordI t)).foldl fstp (fstp (f.map (ordI t)) (ordI t x)) = (L.foldl nstp (nstp f x)).map (ordI t)
    rw [st.1]; exact ih.1
theorem flat_congr {α γ : Type} {f g : α → List γ} : ∀ {l : List α}, (∀ x ∈ l, f x = g x) → l.flatMap f = l.flatMap g
  | [], _ => rfl
  | x :: l, h => by rw [List.flatMap_cons, List.flatMap_cons, h x List.mem_cons_self, flat_congr fun y hy => h y (List.mem_cons_of_mem _ hy)]
abbrev ALL (t : Nat) : List (List Nat) := List.replicate (OM t) (List.range (OM t))
def nums (c t : Nat) (A : List Int) : List (List Int) := (GN c t A (ALL t)).map fun p => nset t (sat t c p.1) p.2.2
theorem OR_range (t : Nat) : OR t = (List.range (OM t)).map fun i => (OR t).getD i [] := by
  refine List.ext_getElem (by simp [OM]) fun i h1 h2 => ?_
  rw [List.getElem_map, List.getElem_range, List.getD_eq_getElem?_getD, List.getElem?_eq_getElem h1]; rfl
theorem allG_nums (hT : TB c t A) : allG c t A = (nums c t A).map (ordI t) := by
  have t4 := hT.2.2.2.1
  have al := hT.2.2.2.2.1
  unfold allG nums GN
  rw [List.map_map, List.map_flatMap, al]
  refine flat_congr fun n hn => ?_
  rw [List.mem_range] at hn
  have hs := sat_in t4 hn
  unfold GN1
  rw [List.map_flatMap]
  refine flat_congr fun h hh => ?_
  rw [List.mem_range] at hh
  have nl := num_lt (say_at hs hh).2
  unfold GN2 gls
  have e : (ALL t).getD (num t ((sat t c n).getD h [])) [] = List.range (OM t) := by
    rw [List.getD_eq_getElem?_getD, List.getElem?_replicate, if_pos nl]; rfl
  rw [e]
  conv => lhs; rw [OR_range t]
  rw [List.filter_map, List.map_map, List.map_map]
  refine List.map_congr_left fun l hl => ?_
  have hl := List.mem_range.mp (List.mem_filter.mp hl).1
  exact nset_ord t4 (SY_mem t c _ hs).2 hl
def fewN (c t : Nat) (A : List Int) : Option (List Int) := (nums c t A).foldl nstp none
theorem nums_in (hT : TB c t A) : ∀ N ∈ nums c t A, ∀ i ∈ N, inN t i := fun N hN => by
  have t4 := hT.2.2.2.1
  have al := hT.2.2.2.2.1
  obtain ⟨p, hp, rfl⟩ := List.mem_map.mp hN
  obtain ⟨h1, h2, h3, -⟩ := (GN_mem t4 al (every_ok t4)).mp hp
  have hs := sat_in t4 (by rw [← al]; exact h1)
  have nl := num_lt (say_at hs h2).2
  refine nset_in (SY_mem t c _ hs).2 ?_
  rw [List.getD_eq_getElem?_getD, List.getElem?_replicate, if_pos nl] at h3
  exact List.mem_range.mp h3
theorem few_nums (hT : TB c t A) : few c t A = (fewN c t A).map (ordI t) ∧ ∀ N, fewN c t A = some N → ∀ i ∈ N, inN t i := by
  have := fold_ord hT.2.2.2.1 (L := nums c t A) (f := none) (nums_in hT) (fun N e => by cases e)
  rw [few_is, allG_nums hT]
  exact this
end
end Lw
end
section
set_option Elab.async false
set_option linter.all false
set_option maxRecDepth 100000
set_option maxHeartbeats 1000000
namespace Lw
open PySem Mn Vt
def lI (N : List Int) : TV := .lst (N.map TV.int)
theorem sh_unpI (N : List Int) : shallow (unpT ((N.length : Nat), N.map TV.int)).toP = true := by
  rw [unpP]
  have := dat_tZ N (d := 59) (by decide)
  unfold shallow
  rw [PV.dat, PV.dat.dats, PV.dat.dats, PV.dat.dats]
  simp [PV.dat, this]
theorem lt_lists (N N' : List Int) : cmpT .Lt (.tup [.int (N.length : Nat), lI N]) (.tup [.int (N'.length : Nat), lI N']) = some (.val (.bl (ltI N N'))) := by
  have n1 : ltOkT (.tup [.int (N.length : Nat), lI N]) (.tup [.int (N'.length : Nat), lI N']) = false := by
    unfold ltOkT ltOk
    have : shallow (TV.tup [.int (N.length : Nat), lI N]).toP = false := by
      unfold shallow lI
      rw [TV.toP, TV.toP.toPs, TV.toP.toPs, TV.toP.toPs, PV.dat, PV.dat.dats, PV.dat.dats]
      simp [TV.toP, PV.dat]
    rw [this]; simp
  have n2 : ltOkT (unpT ((N.length : Nat), N.map TV.int)) (unpT ((N'.length : Nat), N'.map TV.int)) = true := by
    unfold ltOkT ltOk
    rw [sh_unpI, sh_unpI, unpP, unpP, PV.alk, PV.alk.alks, PV.alk.alks, PV.alk.alks, alk_tZ]
    rfl
  show (if ltOkT (.tup [.int (N.length : Nat), lI N]) (.tup [.int (N'.length : Nat), lI N']) then vB ((TV.tup [.int (N.length : Nat), lI N]).toP.lt (TV.tup [.int (N'.length : Nat), lI N']).toP) else ltPrT (.tup [.int (N.length : Nat), lI N]) (.tup [.int (N'.length : Nat), lI N'])) = _
  rw [n1]
  show (if ltOkT (unpT ((N.length : Nat), N.map TV.int)) (unpT ((N'.length : Nat), N'.map TV.int)) then vB (ltI N N') else none) = _
  rw [n2]; rfl
theorem dd_len {α : Type} [DecidableEq α] : ∀ l : List α, (dd l).length ≤ l.length
  | [] => Nat.le_refl _
  | x :: l => by
    rw [dd]
    have := dd_len l
    split
    · simp; omega
    · simp; omega
section
variable {c t : Nat} {A : List Int}
theorem srt_nums {is : List Int} (hn : is ≠ []) (hl : is.length ≤ 60) : bcallT .srtSet [.lst (is.map TV.int)] = some (.live ((isort (dd is)).map TV.int)) := by
  have := dd_len is
  have hc : is.length ≤ 1000 ∧ (dd is).length < 64 := ⟨by omega, by omega⟩
  simp only [bcallT, TV.li, Option.bind_some, tupZs_ints hn, ints_lI, if_pos hc]
def fI : Option (List Int) → TV
  | none => .non
  | some N => .tup [.int (N.length : Nat), lI N]
abbrev stL (c t : Nat) : List TV := (stN c t).map fun (n : Nat) => TV.int (n : Int)
abbrev S398 (c t : Nat) (A : List Int) (Y : SV) (f : Option (List Int)) (p7 p8 p9 p10 : Option SV) : SS := [some (.val (tabT c t A)), some (.val (.int (OM t : Nat))), some Y, some (.val (fI f)), some (.val (.int (c : Nat))), some (.val (.int (t : Nat))), some (.val (tZ A)), p7, p8, p9, p10, none, none]
/-- the digits of a saying's number -/
theorem digits_lc (hT : TB c t A) {n : Nat} (hn : n < (SYn t c).length) {k : Nat} (f : Option (List Int)) (p8 p9 p10 : Option SV) :
    lcT [12] (.name 12) none (evT (runT fs k) b398_E0) (stL c t) [] (S398 c t A (.val (.lst (stL c t))) f (some (.val (.int (n : Nat)))) p8 p9 p10)
      = .ok (((sat t c n).map fun o => ((num t o : Nat) : Int)).map TV.int) (S398 c t A (.val (.lst (stL c t))) f (some (.val (.int (n : Nat)))) p8 p9 p10) := by
  have t4 := hT.2.2.2.1
  have c3 := hT.2.1
  have hs := sat_in t4 hn
  have op := OM_pos t t4
  have lc := lc_map (own := [12]) (g := .name 12) (elt := evT (runT fs k) b398_E0) (σ := S398 c t A (.val (.lst (stL c t))) f (some (.val (.int (n : Nat)))) p8 p9 p10) (fun (h : Nat) => TV.int ((OM t ^ (c - 1 - h) : Nat) : Int)) (fun (h : Nat) => TV.int (num t ((sat t c n).getD h []) : Nat)) (List.range c) [] (by simp; omega) (by
    intro h hh
    rw [List.mem_range] at hh
    have dg := dig_at t4 c hs hh
    rw [plc_sat t4 c n hn] at dg
    have stl := st_le (c := c) (t := t) (h := h) c3 t4
    have stp : 0 < OM t ^ (c - 1 - h) := Nat.pow_pos op
    have fd : binT .FloorDiv (.int (n : Nat)) (.int ((OM t ^ (c - 1 - h) : Nat) : Int)) = some (.val (.int ((n / OM t ^ (c - 1 - h) : Nat) : Int))) := by
      show (if (0 : Int) < ((OM t ^ (c - 1 - h) : Nat) : Int) ∧ ((OM t ^ (c - 1 - h) : Nat) : Int) < 1073741824 then vI ((n : Int) / ((OM t ^ (c - 1 - h) : Nat) : Int)) else none) = _
      rw [if_pos ⟨by omega, by omega⟩]; rfl
    have md : binT .Mod (.int ((n / OM t ^ (c - 1 - h) : Nat) : Int)) (.int (OM t : Nat)) = some (.val (.int (num t ((sat t c n).getD h []) : Nat))) := by
      show (if (0 : Int) < ((OM t : Nat) : Int) then vI (((n / OM t ^ (c - 1 - h) : Nat) : Int) % ((OM t : Nat) : Int)) else none) = _
      rw [if_pos (by omega), ← dg]; rfl
    refine ⟨[some (.val (tabT c t A)), some (.val (.int (OM t : Nat))), some (.val (.lst (stL c t))), some (.val (fI f)), some (.val (.int (c : Nat))), some (.val (.int (t : Nat))), some (.val (tZ A)), some (.val (.int (n : Nat))), p8, p9, p10, none, some (.val (.int ((OM t ^ (c - 1 - h) : Nat) : Int)))], [some (.val (tabT c t A)), some (.val (.int (OM t : Nat))), some (.val (.lst (stL c t))), some (.val (fI f)), some (.val (.int (c : Nat))), some (.val (.int (t : Nat))), some (.val (tZ A)), some (.val (.int (n : Nat))), p8, p9, p10, none, some (.val (.int ((OM t ^ (c - 1 - h) : Nat) : Int)))], rfl, ?_, rfl⟩
    generalize num t ((sat t c n).getD h []) = w at *
    generalize n / OM t ^ (c - 1 - h) = n1 at *
    generalize OM t ^ (c - 1 - h) = st at *
    generalize TV.lst (stL c t) = SS at *
    generalize fI f = FF at *
    generalize tabT c t A = T at *
    generalize tZ A = TA at *
    generalize (st : Int) = si at *
    generalize (n : Int) = ni at *
    generalize (n1 : Int) = n1i at *
    generalize (OM t : Int) = oi at *
    generalize (w : Int) = wi at *
    simp [b398_E0, fd, md, -b_div, -b_mod])
  rw [List.nil_append] at lc
  have e1 : (stN c t).map (fun (n : Nat) => TV.int (n : Int)) = (List.range c).map fun (h : Nat) => TV.int ((OM t ^ (c - 1 - h) : Nat) : Int) := by unfold stN; rw [List.map_map]; rfl
  have e2 : ((sat t c n).map fun o => ((num t o : Nat) : Int)).map TV.int = (List.range c).map fun (h : Nat) => TV.int (num t ((sat t c n).getD h []) : Nat) := by
    have sl := (SY_mem t c _ hs).1
    refine List.ext_getElem (by simp [sl]) fun i h1 h2 => ?_
    have hi : i < (sat t c n).length := by simpa using h1
    simp [List.getD_eq_getElem?_getD, List.getElem?_eq_getElem hi]
  rw [e2]
  show lcT [12] (.name 12) none (evT (runT fs k) b398_E0) (stL c t) [] _ = _
  have e3 : stL c t = (List.range c).map fun (h : Nat) => TV.int ((OM t ^ (c - 1 - h) : Nat) : Int) := e1
  generalize hX : (S398 c t A (.val (.lst (stL c t))) f (some (.val (.int (n : Nat)))) p8 p9 p10) = X at *
  rw [e3]
  exact lc
end
end Lw
end
section
set_option Elab.async false
set_option linter.all false
set_option maxRecDepth 100000
set_option maxHeartbeats 1000000
namespace Lw
open PySem Mn Vt
section
variable {c t : Nat} {A : List Int}
theorem fewn_turn (hT : TB c t A) {n h l : Nat} (hn : n < (SYn t c).length) {k : Nat} {Y : SV} (hY : Y = .live (stL c t) ∨ Y = .val (.lst (stL c t))) (f : Option (List Int)) (p10 : Option SV) :
    ∃ q10, evSsT (runT fs k) b398_L0 (S398 c t A Y f (some (.val (.int (n : Nat)))) (some (.val (.int (h : Nat)))) (some (.val (.int (l : Nat)))) p10)
      = .ok .next (S398 c t A (.val (.lst (stL c t))) (nstp f (nset t (sat t c n) l)) (some (.val (.int (n : Nat)))) (some (.val (.int (h : Nat)))) (some (.val (.int (l : Nat)))) q10) := by
  have t4 := hT.2.2.2.1
  have c3 := hT.2.1
  have hs := sat_in t4 hn
  have sl := (SY_mem t c _ hs).1
  have lc := digits_lc hT hn (k := k) f (some (.val (.int (h : Nat)))) (some (.val (.int (l : Nat)))) p10
  have ad : binT .Add (.lst (((sat t c n).map fun o => ((num t o : Nat) : Int)).map TV.int)) (.lst [.int (l : Nat)]) = some (.live ((((sat t c n).map fun o => ((num t o : Nat) : Int)) ++ [(l : Int)]).map TV.int)) := by
    have hz : (((sat t c n).map fun o => ((num t o : Nat) : Int)).map TV.int).length + [TV.int (l : Nat)].length ≤ LIM := by rw [List.length_map, List.length_map, Vt.LIM_eq]; simp; omega
    show (if _ then _ else _) = _
    rw [if_pos hz, List.map_append]; rfl
  have sr := srt_nums (is := ((sat t c n).map fun o => ((num t o : Nat) : Int)) ++ [(l : Int)]) (by simp) (by simp; omega)
  have sr' : bcallT .srtSet [.lst ((((sat t c n).map fun o => ((num t o : Nat) : Int)) ++ [(l : Int)]).map TV.int)] = some (.live ((nset t (sat t c n) l).map TV.int)) := sr
  generalize nset t (sat t c n) l = N at *
  have ln : bcallT .len [.lst (N.map TV.int)] = some (.val (.int (N.length : Nat))) := by simp
  generalize (((sat t c n).map fun o => ((num t o : Nat) : Int)) ++ [(l : Int)]).map TV.int = L1 at *
  generalize ((sat t c n).map fun o => ((num t o : Nat) : Int)).map TV.int = L0 at *
  refine ⟨some (.val (lI N)), ?_⟩
  cases f with
  | none =>
    have n1 : isNonT .non = true := rfl
    have e : fI (nstp none N) = .tup [.int (N.length : Nat), .lst (N.map TV.int)] := rfl
    unfold S398 at *
    rw [e]
    have e0 : fI none = .non := rfl
    rw [e0] at lc ⊢
    unfold lI
    generalize stL c t = SS at *
    generalize tabT c t A = T at *
    generalize tZ A = TA at *
    generalize N.map TV.int = NN at *
    generalize (N.length : Int) = nl at *
    have sq : seqT (.lst SS) = some SS := rfl
    rcases hY with rfl | rfl <;> simp [b398_L0, sq, lc, ad, sr', n1, ln]
  | some M =>
    have n1 : isNonT (.tup [.int (M.length : Nat), .lst (M.map TV.int)]) = false := rfl
    have lt := lt_lists N M
    have e : fI (nstp (some M) N) = if ltI N M then .tup [.int (N.length : Nat), .lst (N.map TV.int)] else .tup [.int (M.length : Nat), .lst (M.map TV.int)] := by
      show fI (if ltI N M then some N else some M) = _
      cases ltI N M <;> rfl
    unfold S398 at *
    rw [e]
    have e0 : fI (some M) = .tup [.int (M.length : Nat), .lst (M.map TV.int)] := rfl
    rw [e0] at lc ⊢
    unfold lI at *
    generalize stL c t = SS at *
    generalize tabT c t A = T at *
    generalize tZ A = TA at *
    generalize N.map TV.int = NN at *
    generalize (N.length : Int) = nl at *
    generalize TV.tup [.int (M.length : Nat), .lst (M.map TV.int)] = MM at *
    generalize ltI N M = g at *
    have sq : seqT (.lst SS) = some SS := rfl
    rcases hY with rfl | rfl <;> cases g <;> simp [b398_L0, sq, lc, ad, sr', n1, ln, lt]
theorem rep_rows2 (M : Nat) (hM : M ≤ 1000) (N : List Nat) : binT .Mult (.lst [lnN N]) (.int (M : Nat)) = some (.live ((List.replicate M N).map lnN)) := by
  have hc : -1000 ≤ ((M : Nat) : Int) ∧ ((M : Nat) : Int) ≤ 1000 ∧ ([lnN N]).length * ((M : Nat) : Int).toNat ≤ LIM := ⟨by omega, by omega, by rw [Vt.LIM_eq]; simp; omega⟩
  show (if _ then _ else _) = _
  rw [if_pos hc]
  have e : (List.replicate ((M : Nat) : Int).toNat [lnN N]).flatten = (List.replicate M N).map lnN := by
    rw [Int.toNat_natCast]
    clear hc hM
    induction M with
    | zero => rfl
    | succ n ih => rw [List.replicate_succ, List.replicate_succ, List.flatten_cons, ih]; rfl
  rw [e]
/-- the fewest, by numbers -/
theorem fewn_ok (hT : TB c t A) {k : Nat} (hk : 4 ≤ k) : runT fs k 398 [.val (tabT c t A)] = .ok (.val (fv (few c t A))) [] := by
  obtain ⟨k, rfl, hk'⟩ := kpos hk
  have t4 := hT.2.2.2.1
  have c3 := hT.2.1
  have c1 := hT.1
  have al := hT.2.2.2.2.1
  have ol := OM_le t t4
  obtain ⟨fe, fin⟩ := few_nums hT
  obtain ⟨σ', e, Y, p7, p8, p9, p10, hY, rfl⟩ := for_fold (g := .tup (.cons (.name 7) (.cons (.name 8) (.cons (.name 9) .nil)))) (body := evSsT (runT fs k) b398_L0) enG
    (fun f σ => ∃ Y p7 p8 p9 p10, (Y = .live (stL c t) ∨ Y = .val (.lst (stL c t))) ∧ σ = S398 c t A Y f p7 p8 p9 p10) (fun f p => nstp f (nset t (sat t c p.1) p.2.2)) (GN c t A (ALL t)) (b := none) (σ := S398 c t A (.live (stL c t)) none none none none none) ⟨_, none, none, none, none, .inl rfl, rfl⟩ (by
      rintro ⟨n, h, l⟩ hp f σ ⟨Y, p7, p8, p9, p10, hY, rfl⟩
      obtain ⟨h1, h2, h3, -⟩ := (GN_mem t4 al (every_ok t4)).mp hp
      obtain ⟨q10, e⟩ := fewn_turn hT (n := n) (h := h) (l := l) (by rw [← al]; exact h1) (k := k) hY f p10
      refine ⟨S398 c t A Y f (some (.val (.int (n : Nat)))) (some (.val (.int (h : Nat)))) (some (.val (.int (l : Nat)))) p10, _, ?_, e, _, _, _, _, _, .inr rfl, rfl⟩
      rfl)
  have fo : (GN c t A (ALL t)).foldl (fun f p => nstp f (nset t (sat t c p.1) p.2.2)) none = fewN c t A := by
    unfold fewN nums
    rw [List.foldl_map]
  rw [fo] at e
  have ag := fun σ => asg_tab (c := c) (t := t) (A := A) 4 5 6 σ
  have o1 := lorders_ok t4 (k := k) (by omega)
  have l1 : bcallT .len [.lst ((OR t).map tZ)] = some (.val (.int (OM t : Nat))) := by simp [OM]
  have s1 := strides_ok c1 c3 t4 (k := k) (by omega)
  have lr : bcallT .listR1 [.int (OM t : Nat)] = some (.live ((List.range (OM t)).map fun (n : Nat) => TV.int (n : Int))) := listR_n (n := OM t) (by omega)
  have ml : binT .Mult (.lst [.lst ((List.range (OM t)).map fun (n : Nat) => TV.int (n : Int))]) (.int (OM t : Nat)) = some (.live ((ALL t).map lnN)) := rep_rows2 (OM t) (by omega) (List.range (OM t))
  have g1 := gains_numbers_ok hT (every_ok t4) (k := k) (by omega)
  rw [run_atT (F := fn398) rfl k _ rfl]
  show endT 398 (evSsT (runT fs k) b398 [some (.val (tabT c t A)), none, none, none, none, none, none, none, none, none, none, none, none]) = _
  rw [fe]
  cases q : fewN c t A with
  | none =>
    rw [q] at e
    have r : fv (Option.map (ordI t) none) = .non := rfl
    rw [r]
    have n1 : isNonT .non = true := rfl
    unfold S398 at *
    have e0 : fI none = .non := rfl
    rw [e0] at e
    generalize (GN c t A (ALL t)).map enG = GG at *
    generalize (ALL t).map lnN = LL at *
    generalize ((List.range (OM t)).map fun (n : Nat) => TV.int (n : Int)) = LR at *
    have s1' : runT fs k 183 [.val (szs c t), .val (.int (OM t : Nat))] = .ok (.live (stL c t)) [] := s1
    generalize stL c t = SS at *
    generalize (OR t).map tZ = X at *
    generalize tabT c t A = T at *
    generalize tZ A = TA at *
    generalize OM t = m at *
    have sq : seqT (.lst GG) = some GG := rfl
    simp [b398, ag, o1, l1, s1', lr, ml, g1, sq, e, n1]
  | some N =>
    rw [q] at e
    have hin := fin N q
    have nlen : N.length ≤ 1000 := by
      have : N ∈ nums c t A := by
        have key : ∀ (L : List (List Int)) (f : Option (List Int)), L.foldl nstp f = some N → N ∈ L ∨ f = some N := by
          intro L
          induction L with
          | nil => intro f h; exact .inr h
          | cons x L ih =>
            intro f h
            rcases ih _ h with h | h
            · exact .inl (List.mem_cons_of_mem _ h)
            · cases f with
              | none => cases h; exact .inl List.mem_cons_self
              | some y =>
                have h : (if ltI x y then some x else some y) = some N := h
                cases q : ltI x y <;> rw [q] at h <;> cases h
                · exact .inr rfl
                · exact .inl List.mem_cons_self
        rcases key _ _ q with h | h
        · exact h
        · cases h
      obtain ⟨p, hp, rfl⟩ := List.mem_map.mp this
      obtain ⟨h1, h2, h3, -⟩ := (GN_mem t4 al (every_ok t4)).mp hp
      have hs := sat_in t4 (by rw [← al]; exact h1)
      have sl := (SY_mem t c _ hs).1
      unfold nset
      rw [(isort_pm _).length_eq]
      refine Nat.le_trans (dd_len _) ?_
      simp; omega
    have r : fv (Option.map (ordI t) (some N)) = tS (ordI t N) := rfl
    rw [r]
    have n1 : isNonT (.tup [.int (N.length : Nat), .lst (N.map TV.int)]) = false := rfl
    have i1 : ixT (.tup [.int (N.length : Nat), .lst (N.map TV.int)]) (.int 1) = some (.val (.lst (N.map TV.int))) := rfl
    unfold S398 at *
    have e0 : fI none = .non := rfl
    have e1 : fI (some N) = .tup [.int (N.length : Nat), .lst (N.map TV.int)] := rfl
    rw [e0, e1] at e
    have lc := lc_map (own := [11]) (g := .name 11) (elt := evT (runT fs k) b398_E1) (σ := [some (.val (tabT c t A)), some (.val (.int (OM t : Nat))), some Y, some (.val (.tup [.int (N.length : Nat), .lst (N.map TV.int)])), some (.val (.int (c : Nat))), some (.val (.int (t : Nat))), some (.val (tZ A)), p7, p8, p9, p10, none, none]) TV.int (fun i => tZ ((OR t).getD i.toNat [])) N [] (by simp; omega) (by
      intro i hi
      obtain ⟨i0, i2⟩ := hin i hi
      obtain ⟨j, rfl⟩ := Int.eq_ofNat_of_zero_le i0
      have hj : j < (OR t).length := by unfold OM at i2; omega
      have x2 : ixT (.lst ((OR t).map tZ)) (.int (j : Nat)) = some (.val (tZ ((OR t).getD j []))) := ixl_at (by rw [List.getElem?_map, List.getElem?_eq_getElem hj, List.getD_eq_getElem?_getD, List.getElem?_eq_getElem hj]; rfl)
      rw [Int.toNat_natCast]
      generalize TV.tup [.int (N.length : Nat), .lst (N.map TV.int)] = MM at *
      refine ⟨[some (.val (tabT c t A)), some (.val (.int (OM t : Nat))), some Y, some (.val MM), some (.val (.int (c : Nat))), some (.val (.int (t : Nat))), some (.val (tZ A)), p7, p8, p9, p10, some (.val (.int (j : Nat))), none], [some (.val (tabT c t A)), some (.val (.int (OM t : Nat))), some Y, some (.val MM), some (.val (.int (c : Nat))), some (.val (.int (t : Nat))), some (.val (tZ A)), p7, p8, p9, p10, some (.val (.int (j : Nat))), none], rfl, ?_, rfl⟩
      generalize tZ ((OR t).getD j []) = O at *
      generalize (OR t).map tZ = X at *
      generalize tabT c t A = T at *
      generalize tZ A = TA at *
      simp [b398_E1, o1, x2])
    rw [List.nil_append] at lc
    have tu : bcallT .tuple [.lst (N.map fun i => tZ ((OR t).getD i.toNat []))] = some (.val (tS (ordI t N))) := by
      have : tS (ordI t N) = .tup (N.map fun i => tZ ((OR t).getD i.toNat [])) := by
        show TV.tup ((ordI t N).map tZ) = _
        unfold ordI
        rw [List.map_map]; rfl
      rw [this]; rfl
    generalize tS (ordI t N) = R at *
    generalize (N.map fun i => tZ ((OR t).getD i.toNat [])) = R1 at *
    generalize TV.tup [.int (N.length : Nat), .lst (N.map TV.int)] = MM at *
    generalize N.map TV.int = NN at *
    generalize (GN c t A (ALL t)).map enG = GG at *
    generalize (ALL t).map lnN = LL at *
    generalize ((List.range (OM t)).map fun (n : Nat) => TV.int (n : Int)) = LR at *
    have s1' : runT fs k 183 [.val (szs c t), .val (.int (OM t : Nat))] = .ok (.live (stL c t)) [] := s1
    generalize stL c t = SS at *
    generalize (OR t).map tZ = X at *
    generalize tabT c t A = T at *
    generalize tZ A = TA at *
    generalize OM t = m at *
    have sq : seqT (.lst GG) = some GG := rfl
    have sq2 : seqT (.lst NN) = some NN := rfl
    simp [b398, ag, o1, l1, s1', lr, ml, g1, sq, e, n1, i1, sq2, lc, tu]
end
end Lw
end
section
set_option Elab.async false
set_option linter.all false
set_option maxRecDepth 100000
set_option maxHeartbeats 1000000
namespace Lw
open PySem Mn Vt
theorem rq_or9 {t : Nat} (t4 : t ≤ 4) {o : List Int} (ho : o ∈ OR t) : Rq 1 19 (tZ o) := by
  have od := OR_OD t4 ho
  refine Rq.mono (Rq.tup (d := 0) (n := 2) (m := 4) (fun x hx => ?_) (by rw [List.length_map, od.len]; exact t4)) (by omega) (by omega)
  obtain ⟨i, hi, rfl⟩ := List.mem_map.mp hx
  obtain ⟨n, rfl, hn⟩ := inI_nat (mem_iota.mp (od.mem_iff.mp hi))
  exact Rq.small (by omega)
theorem rq_fv {c t : Nat} {A : List Int} (hT : TB c t A) : Rq 2 1000 (fv (few c t A)) := by
  have t4 := hT.2.2.2.1
  rcases few_or (c := c) (A := A) t4 with ⟨q, -⟩ | ⟨F, q, h1, h2⟩
  · rw [q]; exact Rq.non.mono (by omega) (by omega)
  · rw [q]
    have hF : Few c t A F := ⟨h1, h2⟩
    have fl := hF.set.len t4
    have ol := OM_le t t4
    unfold OM at ol
    refine Rq.mono (Rq.tup (d := 1) (n := 19) (m := 24) (fun x hx => ?_) (by rw [List.length_map]; omega)) (by omega) (by omega)
    obtain ⟨o, ho, rfl⟩ := List.mem_map.mp hx
    exact rq_or9 t4 (hF.set.1 o ho)
def SZ59 (p : Nat × Nat) : Prop := 1 ≤ p.1 ∧ p.1 ≤ 3 ∧ 2 ≤ p.2 ∧ p.2 ≤ 4
theorem szt59 {p : Nat × Nat} (h : p ∈ SZt) : SZ59 p := by
  obtain ⟨h1, h2, h3, h4⟩ := SZt_in p h
  exact ⟨h1, h2, h3, h4⟩
def enc59 (q : (Nat × Nat) × List Int) : TV := .tup [tabT q.1.1 q.1.2 q.2, fv (few q.1.1 q.1.2 q.2)]
theorem claim (ns : List Int) (hl : ns.length ≤ 63) : ∃ o, runT fs 7 399 [.val (.rol (ns.map TV.int))] = .ok (.val (.bl true)) o := by
  let S : TV := .rol (ns.map TV.int)
  obtain ⟨M, hM, hM4⟩ : ∃ M : Nat, bcallT .max2 [.int 1, .int (if ((ns.length : Nat) : Int) < 2 then ((ns.length : Nat) : Int) else 2)] = some (.val (.int (M : Nat))) ∧ M ≤ 4 := by
    by_cases q : ns.length < 2
    · have q' : ((ns.length : Nat) : Int) < 2 := by omega
      exact ⟨1, by
        have q3 : ¬ (1 : Int) < ((ns.length : Nat) : Int) := by omega
        simp [bcallT, q', q3, vI], by omega⟩
    · have q' : ¬ ((ns.length : Nat) : Int) < 2 := by omega
      exact ⟨2, by simp [bcallT, q', vI], by omega⟩
  obtain ⟨σ', e, L, x2, x3, x4, x5, hL, hlen, n5, rfl⟩ := for_inv (g := .name 2) (body := evSsT (runT fs 6) b399_L0) (fun (n : Nat) => TV.int (n : Int))
    (fun d σ => ∃ (L : List ((Nat × Nat) × List Int)) (x2 x3 x4 x5 : Option SV), (∀ q ∈ L, TB q.1.1 q.1.2 q.2) ∧ L.length = d.length ∧ isLv x5 = false ∧ σ = [some (.val S), some (.live (L.map enc59)), x2, x3, x4, x5, none])
    (List.range M) [] (σ := [some (.val S), some (.live []), none, none, none, none, none]) ⟨[], none, none, none, none, by simp, rfl, rfl, rfl⟩ (by
      rintro d n ⟨r, hr⟩ σ ⟨L, x2, x3, x4, x5, hL, hlen, n5, rfl⟩
      obtain ⟨h1, h2, -⟩ := range_split hr
      obtain ⟨_, ⟨a, b, rfl, ha, hb⟩, e1⟩ := box_ok 6 (by omega) n ns
      have e1' : runT fs 6 4 [.val S, .val (.int (n : Nat))] = .ok (.live [.int a, .int b]) [] := e1
      obtain ⟨_, _, ⟨a2, b2, rfl, ha2, hb2⟩, ⟨p, hp, rfl⟩, e2⟩ := sizes_dr 6 (by omega) _ ⟨a, b, rfl, ha, hb⟩
      have e2' : runT fs 6 10027 [.live [.int a, .int b]] = .ok (.val (.tup [.int (p.1 : Nat), .int (p.2 : Nat)])) [some (.live [.int a2, .int b2])] := e2
      obtain ⟨p', hp', e3⟩ : ∃ p' : Nat × Nat, SZ59 p' ∧ evST (runT fs 6) (.ife (.cmp .Eq (.var 4) (.tup (.cons (.int 2) (.cons (.int 4) .nil)))) (.cons (.asg 4 (.tup (.cons (.int 2) (.cons (.int 3) .nil)))) .nil) .nil)
          [some (.val S), some (.live (L.map enc59)), some (.val (.int (n : Nat))), some (.live [.int a2, .int b2]), some (.val (.tup [.int (p.1 : Nat), .int (p.2 : Nat)])), x5, none]
          = .ok .next [some (.val S), some (.live (L.map enc59)), some (.val (.int (n : Nat))), some (.live [.int a2, .int b2]), some (.val (.tup [.int (p'.1 : Nat), .int (p'.2 : Nat)])), x5, none] := by
        have q : cmpT .Eq (.tup [.int (p.1 : Nat), .int (p.2 : Nat)]) (.tup [.int 2, .int 4]) = some (.val (.bl (decide ([((p.1 : Nat) : Int), ((p.2 : Nat) : Int)] = [2, 4])))) := eq_tZ [((p.1 : Nat) : Int), ((p.2 : Nat) : Int)] [2, 4]
        generalize decide ([((p.1 : Nat) : Int), ((p.2 : Nat) : Int)] = [2, 4]) = g at *
        generalize L.map enc59 = LL at *
        clear_value S
        cases g with
        | false => exact ⟨p, szt59 hp, by simp [q]⟩
        | true => exact ⟨(2, 3), szt59 (by decide), by simp [q]⟩
      obtain ⟨s1, s2, s3, s4⟩ := hp'
      obtain ⟨_, _, ⟨a3, b3, rfl, ha3, hb3⟩, ⟨A, hT, rfl⟩, e4⟩ := table_dr s1 s2 s3 s4 (answers_dr s1 s2 s3 s4) 6 (by omega) _ ⟨a2, b2, rfl, ha2, hb2⟩
      simp only [List.map_cons, List.map_nil] at e4
      have e5 := fewn_ok hT (k := 6) (by omega)
      have lm : (L.map enc59).length < 16777216 := by rw [List.length_map]; simp at hlen; omega
      refine ⟨_, [some (.val S), some (.live ((L ++ [(p', A)]).map enc59)), some (.val (.int (n : Nat))), some (.live [.int a3, .int b3]), some (.val (.tup [.int (p'.1 : Nat), .int (p'.2 : Nat)])), some (.val (tabT p'.1 p'.2 A)), none], rfl, ?_, L ++ [(p', A)], _, _, _, _, ?_, by simp [hlen], rfl, rfl⟩
      · rw [List.map_append]
        have en : [(p', A)].map enc59 = [.tup [tabT p'.1 p'.2 A, fv (few p'.1 p'.2 A)]] := rfl
        rw [en]
        generalize fv (few p'.1 p'.2 A) = V at *
        generalize L.map enc59 = LL at *
        generalize tabT p'.1 p'.2 A = T at *
        clear_value S
        simp [b399_L0, e1', e2', e3, e4, e5, lm, -yife]
      · intro q hq
        rcases List.mem_append.mp hq with hq | hq
        · exact hL q hq
        · simp at hq; subst hq; exact hT)
  obtain ⟨L', hL'⟩ : ∃ L', L' = L ++ L.take 1 := ⟨_, rfl⟩
  have hL2 : ∀ q ∈ L', TB q.1.1 q.1.2 q.2 := fun q hq => by
    rw [hL'] at hq
    rcases List.mem_append.mp hq with hq | hq
    · exact hL q hq
    · exact hL q (List.mem_of_mem_take hq)
  have hl5 : L'.length ≤ 10 := by
    rw [hL', List.length_append]
    have := List.length_take_le 1 L
    simp at hlen
    omega
  have lc := lc_map (own := [5, 6]) (g := .tup (.cons (.name 5) (.cons (.name 6) .nil))) (elt := evT (runT fs 6) b399_E0) (σ := [some (.val S), some (.live (L.map enc59)), x2, x3, x4, x5, none]) enc59 (fun _ => TV.bl true) L' [] (by simp; omega) (by
    intro q hq
    have hT := hL2 q hq
    have e2 := fewest_ok hT (k := 6) (by omega)
    have rq := rq_fv hT
    have r1 := repr_q rq (by omega) (by omega)
    have r2 := eq_str rq.2.2.2
    refine ⟨[some (.val S), some (.live (L.map enc59)), x2, x3, x4, some (.val (tabT q.1.1 q.1.2 q.2)), some (.val (fv (few q.1.1 q.1.2 q.2)))], [some (.val S), some (.live (L.map enc59)), x2, x3, x4, some (.val (tabT q.1.1 q.1.2 q.2)), some (.val (fv (few q.1.1 q.1.2 q.2)))], by simp [enc59], ?_, by simp⟩
    generalize fv (few q.1.1 q.1.2 q.2) = V at *
    generalize L.map enc59 = LL at *
    generalize tabT q.1.1 q.1.2 q.2 = T at *
    clear_value S
    simp [b399_E0, e2, r1, r2])
  rw [List.nil_append] at lc
  have al := bl_all (fun _ => true) L'
  have al' : (L'.all fun _ => true) = true := by simp
  rw [al'] at al
  refine ⟨[], ?_⟩
  rw [run_atT (F := fn399) rfl 6 _ rfl]
  show endT 399 (evSsT (runT fs 6) b399 [some (.val S), none, none, none, none, none, none]) = _
  have ln : bcallT .len [S] = some (.val (.int ((ns.length : Nat) : Int))) := by show bcallT .len [.rol (ns.map TV.int)] = _; simp
  have mn : bcallT .min2 [.int 2, .int ((ns.length : Nat) : Int)] = some (.val (.int (if ((ns.length : Nat) : Int) < 2 then ((ns.length : Nat) : Int) else 2))) := rfl
  have r1 := rng_n (n := M) (by omega)
  have sl : sl2 (.lst (L.map enc59)) (.int 1) = some (.live ((L.take 1).map enc59)) := by
    have : cutT (L.map enc59) none (some 1) = (L.take 1).map enc59 := by
      unfold cutT
      cases L with
      | nil => rfl
      | cons a L => simp [sIx, Nat.min_def]
    show some (SV.live (cutT (L.map enc59) none (some 1))) = _
    rw [this]
  have ad : binT .Add (.lst (L.map enc59)) (.lst ((L.take 1).map enc59)) = some (.live (L'.map enc59)) := by
    have hz : (L.map enc59).length + ((L.take 1).map enc59).length ≤ LIM := by
      rw [List.length_map, List.length_map, Vt.LIM_eq]
      have := List.length_take_le 1 L
      simp at hlen
      omega
    show (if _ then _ else _) = _
    rw [if_pos hz, hL', List.map_append]
  generalize (if ((ns.length : Nat) : Int) < 2 then ((ns.length : Nat) : Int) else 2) = W at *
  generalize (ns.length : Int) = nl at *
  generalize (List.range M).map (fun (n : Nat) => TV.int (n : Int)) = its at *
  generalize (L'.map fun _ => TV.bl true) = LB at *
  generalize L'.map enc59 = LL' at *
  generalize (L.take 1).map enc59 = LT at *
  generalize L.map enc59 = LL at *
  have sq : seqT (.lst LL') = some LL' := rfl
  clear_value S
  simp [b399, ln, mn, hM, r1, e, sl, ad, sq, n5, lc, al, -rng1_i]
end Lw
end
namespace Lw
open PySem PySem.Spec PyProof.Rows L2 Mn
def topS (i : Nat) : Stmt := PySem.Challenge.pw_saidwish_k59_the_fewest_orders.main.body.getD i (.Pass ⟨0, 0, 0, 0⟩)
def d0 : FD := ⟨0, "all_orders", topS 1, ["things", "found", "turn", "longer", "order", "x"], ["things"], fn0, []⟩
theorem bi0 : BindsAs d0 := fun _ _ _ _ _ _ us hl => match us, hl with | [_], _ => rfl
def d1 : FD := ⟨1, "orders_of", topS 2, ["things", "found", "k"], ["things"], fn1, []⟩
theorem bi1 : BindsAs d1 := fun _ _ _ _ _ _ us hl => match us, hl with | [_], _ => rfl
def d2 : FD := ⟨2, "number_of", topS 3, ["order", "found", "k", "thing", "x"], ["order"], fn2, []⟩
theorem bi2 : BindsAs d2 := fun _ _ _ _ _ _ us hl => match us, hl with | [_], _ => rfl
def d3 : FD := ⟨3, "order_at", topS 4, ["things", "k", "left", "ways", "found"], ["things", "k"], fn3, []⟩
theorem bi3 : BindsAs d3 := fun _ _ _ _ _ _ us hl => match us, hl with | [_, _], _ => rfl
def d11 : FD := ⟨11, "puts_ahead", topS 5, ["order", "x", "y"], ["order", "x", "y"], fn11, []⟩
theorem bi11 : BindsAs d11 := fun _ _ _ _ _ _ us hl => match us, hl with | [_, _, _], _ => rfl
def d24 : FD := ⟨24, "how_many", topS 7, ["hands", "things", "found", "turn"], ["hands", "things"], fn24, []⟩
theorem bi24 : BindsAs d24 := fun _ _ _ _ _ _ us hl => match us, hl with | [_, _], _ => rfl
def d25 : FD := ⟨25, "saying_at", topS 8, ["hands", "things", "k", "many", "found", "turn"], ["hands", "things", "k"], fn25, []⟩
theorem bi25 : BindsAs d25 := fun _ _ _ _ _ _ us hl => match us, hl with | [_, _, _], _ => rfl
def d26 : FD := ⟨26, "place_of", topS 9, ["saying", "many", "found", "order"], ["saying"], fn26, []⟩
theorem bi26 : BindsAs d26 := fun _ _ _ _ _ _ us hl => match us, hl with | [_], _ => rfl
def d32 : FD := ⟨32, "said_otherwise", topS 10, ["saying", "hand", "order"], ["saying", "hand", "order"], fn32, []⟩
theorem bi32 : BindsAs d32 := fun _ _ _ _ _ _ us hl => match us, hl with | [_, _, _], _ => rfl
def d155 : FD := ⟨155, "answer", topS 12, ["table", "saying"], ["table", "saying"], fn155, []⟩
theorem bi155 : BindsAs d155 := fun _ _ _ _ _ _ us hl => match us, hl with | [_, _], _ => rfl
def d177 : FD := ⟨177, "gains_by", topS 14, ["table", "hand", "saying", "order", "told", "other"], ["table", "hand", "saying", "order"], fn177, []⟩
theorem bi177 : BindsAs d177 := fun _ _ _ _ _ _ us hl => match us, hl with | [_, _, _, _], _ => rfl
def d396 : FD := ⟨396, "gain_orders", topS 16, ["table", "saying", "hand", "found", "order", "hands", "things", "answers"], ["table", "saying", "hand"], fn396, []⟩
theorem bi396 : BindsAs d396 := fun _ _ _ _ _ _ us hl => match us, hl with | [_, _, _], _ => rfl
def d397 : FD := ⟨397, "fewest", topS 17, ["table", "found", "k", "hands", "things", "answers", "hand", "orders"], ["table"], fn397, []⟩
theorem bi397 : BindsAs d397 := fun _ _ _ _ _ _ us hl => match us, hl with | [_], _ => rfl
def d4 : FD := ⟨4, "_law_box", topS 19, ["_law_script", "_law_k", "_law_cell", "_law_seed"], ["_law_script", "_law_k"], fn4, []⟩
theorem bi4 : BindsAs d4 := fun _ _ _ _ _ _ us hl => match us, hl with | [_, _], _ => rfl
def d10005 : FD := ⟨10005, "_law_take", topS 20, ["_law_box_here", "_law_wide", "_law_one", "_law_digit"], ["_law_box_here", "_law_wide"], fn10005, []⟩
theorem bi10005 : BindsAs d10005 := fun _ _ _ _ _ _ us hl => match us, hl with | [_, _], _ => rfl
def d6 : FD := ⟨6, "_law_orders", topS 21, ["_law_things", "_law_found", "_law_k", "_law_longer", "_law_order", "_law_x"], ["_law_things"], fn6, []⟩
theorem bi6 : BindsAs d6 := fun _ _ _ _ _ _ us hl => match us, hl with | [_], _ => rfl
def d138 : FD := ⟨138, "_law_sayings", topS 22, ["_law_hands", "_law_things", "_law_found", "_law_k", "_law_longer", "_law_saying", "_law_order"], ["_law_hands", "_law_things"], fn138, []⟩
theorem bi138 : BindsAs d138 := fun _ _ _ _ _ _ us hl => match us, hl with | [_, _], _ => rfl
def d10027 : FD := ⟨10027, "_law_sizes", topS 23, ["_law_box_here", "_law_some_here"], ["_law_box_here"], fn10027, []⟩
theorem bi10027 : BindsAs d10027 := fun _ _ _ _ _ _ us hl => match us, hl with | [_], _ => rfl
def d10014 : FD := ⟨10014, "_law_some", topS 24, ["_law_box_here", "_law_many", "_law_found", "_law_k"], ["_law_box_here", "_law_many"], fn10014, []⟩
theorem bi10014 : BindsAs d10014 := fun _ _ _ _ _ _ us hl => match us, hl with | [_, _], _ => rfl
def d144 : FD := ⟨144, "_law_ahead", topS 25, ["_law_order", "_law_x", "_law_y"], ["_law_order", "_law_x", "_law_y"], fn144, []⟩
theorem bi144 : BindsAs d144 := fun _ _ _ _ _ _ us hl => match us, hl with | [_, _, _], _ => rfl
def d145 : FD := ⟨145, "_law_first", topS 26, ["_law_order", "_law_some_here", "_law_x"], ["_law_order", "_law_some_here"], fn145, []⟩
theorem bi145 : BindsAs d145 := fun _ _ _ _ _ _ us hl => match us, hl with | [_, _], _ => rfl
def d10146 : FD := ⟨10146, "_law_answers", topS 27, ["_law_box_here", "_law_sizes_here", "_law_form", "_law_sayings_here", "_law_some_here", "_law_hand", "_law_own_sets", "_law_found", "_law_saying", "_law_hands", "_law_things", "_law_x", "_law_y", "_law_told", "_law_k", "_law_one", "_law_h"], ["_law_box_here", "_law_sizes_here"], fn10146, []⟩
theorem bi10146 : BindsAs d10146 := fun _ _ _ _ _ _ us hl => match us, hl with | [_, _], _ => rfl
def d10147 : FD := ⟨10147, "_law_table", topS 28, ["_law_box_here", "_law_sizes_here", "_law_found", "_law_k"], ["_law_box_here", "_law_sizes_here"], fn10147, []⟩
theorem bi10147 : BindsAs d10147 := fun _ _ _ _ _ _ us hl => match us, hl with | [_, _], _ => rfl
def d182 : FD := ⟨182, "_law_places", topS 29, ["_law_things", "_law_order", "_law_x"], ["_law_things"], fn182, []⟩
theorem bi182 : BindsAs d182 := fun _ _ _ _ _ _ us hl => match us, hl with | [_], _ => rfl
def d183 : FD := ⟨183, "_law_strides", topS 30, ["_law_sizes_here", "_law_many", "_law_found", "_law_hand"], ["_law_sizes_here", "_law_many"], fn183, []⟩
theorem bi183 : BindsAs d183 := fun _ _ _ _ _ _ us hl => match us, hl with | [_, _], _ => rfl
def d185 : FD := ⟨185, "_law_gain_numbers", topS 31, ["_law_table_here", "_law_lies", "_law_places_here", "_law_many", "_law_strides_here", "_law_found", "_law_hands", "_law_things", "_law_answers_here", "_law_k", "_law_told", "_law_hand", "_law_own", "_law_lie", "_law_other"], ["_law_table_here", "_law_lies"], fn185, []⟩
theorem bi185 : BindsAs d185 := fun _ _ _ _ _ _ us hl => match us, hl with | [_, _], _ => rfl
def d398 : FD := ⟨398, "_law_fewest", topS 32, ["_law_table_here", "_law_many", "_law_strides_here", "_law_found", "_law_hands", "_law_things", "_law_answers_here", "_law_k", "_law_hand", "_law_lie", "_law_some_here", "_law_number", "_law_one"], ["_law_table_here"], fn398, []⟩
theorem bi398 : BindsAs d398 := fun _ _ _ _ _ _ us hl => match us, hl with | [_], _ => rfl
def d399 : FD := ⟨399, "law", topS 33, ["_law_script", "_law_some_here", "_law_k", "_law_box_here", "_law_sizes_here", "_law_table_here", "_law_due"], ["_law_script"], fn399, []⟩
theorem bi399 : BindsAs d399 := fun _ _ _ _ _ _ us hl => match us, hl with | [_], _ => rfl
def ds : List FD := [d0, d1, d2, d3, d11, d24, d25, d26, d32, d155, d177, d396, d397, d4, d10005, d6, d138, d10027, d10014, d144, d145, d10146, d10147, d182, d183, d185, d398, d399]
theorem chk : (ds.all fun d => chkD (nms ds) d) = true := by decide +kernel
theorem blts {K : PySem.W.Frag} (h0 : PySem.W.nsIn K mainGlobals "len" = some none) (h1 : PySem.W.nsIn K mainGlobals "all" = some none) (h2 : PySem.W.nsIn K mainGlobals "any" = some none) (h3 : PySem.W.nsIn K mainGlobals "int" = some none) (h4 : PySem.W.nsIn K mainGlobals "list" = some none) (h5 : PySem.W.nsIn K mainGlobals "tuple" = some none) (h6 : PySem.W.nsIn K mainGlobals "sum" = some none) (h7 : PySem.W.nsIn K mainGlobals "max" = some none) (h8 : PySem.W.nsIn K mainGlobals "min" = some none) (h9 : PySem.W.nsIn K mainGlobals "range" = some none) (h10 : PySem.W.nsIn K mainGlobals "enumerate" = some none) (h11 : PySem.W.nsIn K mainGlobals "zip" = some none) (h12 : PySem.W.nsIn K mainGlobals "isinstance" = some none) (h13 : PySem.W.nsIn K mainGlobals "bool" = some none) (h14 : PySem.W.nsIn K mainGlobals "str" = some none) (h15 : PySem.W.nsIn K mainGlobals "sorted" = some none) (h16 : PySem.W.nsIn K mainGlobals "repr" = some none) (h17 : PySem.W.nsIn K mainGlobals "reversed" = some none) (h18 : PySem.W.nsIn K mainGlobals "set" = some none) (h19 : PySem.W.nsIn K mainGlobals "dict" = some none) :
    ∀ y ∈ bltNames, PySem.W.nsIn K mainGlobals y = some none := by
  intro y hy
  simp only [bltNames, List.mem_cons, List.not_mem_nil, or_false] at hy
  rcases hy with rfl | rfl | rfl | rfl | rfl | rfl | rfl | rfl | rfl | rfl | rfl | rfl | rfl | rfl | rfl | rfl | rfl | rfl | rfl | rfl <;> assumption
theorem lefts {K : PySem.W.Frag} (l0 : Left K d0) (l1 : Left K d1) (l2 : Left K d2) (l3 : Left K d3) (l11 : Left K d11) (l24 : Left K d24) (l25 : Left K d25) (l26 : Left K d26) (l32 : Left K d32) (l155 : Left K d155) (l177 : Left K d177) (l396 : Left K d396) (l397 : Left K d397) (l4 : Left K d4) (l10005 : Left K d10005) (l6 : Left K d6) (l138 : Left K d138) (l10027 : Left K d10027) (l10014 : Left K d10014) (l144 : Left K d144) (l145 : Left K d145) (l10146 : Left K d10146) (l10147 : Left K d10147) (l182 : Left K d182) (l183 : Left K d183) (l185 : Left K d185) (l398 : Left K d398) (l399 : Left K d399) : ∀ d ∈ ds, Left K d ∧ BindsAs d := by
  intro d hd
  simp only [ds, List.mem_cons, List.not_mem_nil, or_false] at hd
  rcases hd with rfl | rfl | rfl | rfl | rfl | rfl | rfl | rfl | rfl | rfl | rfl | rfl | rfl | rfl | rfl | rfl | rfl | rfl | rfl | rfl | rfl | rfl | rfl | rfl | rfl | rfl | rfl | rfl
  · exact ⟨l0, bi0⟩
  · exact ⟨l1, bi1⟩
  · exact ⟨l2, bi2⟩
  · exact ⟨l3, bi3⟩
  · exact ⟨l11, bi11⟩
  · exact ⟨l24, bi24⟩
  · exact ⟨l25, bi25⟩
  · exact ⟨l26, bi26⟩
  · exact ⟨l32, bi32⟩
  · exact ⟨l155, bi155⟩
  · exact ⟨l177, bi177⟩
  · exact ⟨l396, bi396⟩
  · exact ⟨l397, bi397⟩
  · exact ⟨l4, bi4⟩
  · exact ⟨l10005, bi10005⟩
  · exact ⟨l6, bi6⟩
  · exact ⟨l138, bi138⟩
  · exact ⟨l10027, bi10027⟩
  · exact ⟨l10014, bi10014⟩
  · exact ⟨l144, bi144⟩
  · exact ⟨l145, bi145⟩
  · exact ⟨l10146, bi10146⟩
  · exact ⟨l10147, bi10147⟩
  · exact ⟨l182, bi182⟩
  · exact ⟨l183, bi183⟩
  · exact ⟨l185, bi185⟩
  · exact ⟨l398, bi398⟩
  · exact ⟨l399, bi399⟩
theorem csts {K : PySem.W.Frag} {w : World} {mg : Str → Option Value} : ∀ d ∈ ds, ∀ i ∈ d.cs, CstAt K w mg i := by
  intro d hd i hi
  have : (ds.all fun d => d.cs.isEmpty) = true := by decide +kernel
  have := List.isEmpty_iff.mp (List.all_eq_true.mp this d hd)
  rw [this] at hi
  cases hi
end Lw
open PySem PySem.W PyProof.Rows
set_option maxRecDepth 100000 in
set_option maxHeartbeats 0 in
theorem PySem.Challenge.cw_saidwish_k59_the_fewest_orders_holds : PySem.Challenge.rw_saidwish_k59_the_fewest_orders.Holds := by
  w_on; o_law; k_head; (case hw => w_witness2)
  k_fill
  refine Mn.walkG (l := PySem.Challenge.rw_saidwish_k59_the_fewest_orders) (n := 63) (k := 7) (x := "_law_script") (sp := fun K => Mn.spM K (Mn.run (Mn.fns Lw.ds) 7) 399) rfl (by decide) rfl ⟨rfl, by decide, by decide⟩ (fun w h Y => PySem.W.kIn_of Y) ?F
    (fun _ H a ns hl hO hS => (Vt.law_T Lw.tabs (Lw.claim ns hl).choose_spec).elim fun M' e => Mn.law_sp hO hS e)
  case F =>
    intro w mg fa h KX G hmg
    refine' Mn.Left.law (d := Lw.d399) (ds := Lw.ds) KX G hmg rfl rfl Lw.chk (Lw.lefts ?l0 ?l1 ?l2 ?l3 ?l11 ?l24 ?l25 ?l26 ?l32 ?l155 ?l177 ?l396 ?l397 ?l4 ?l10005 ?l6 ?l138 ?l10027 ?l10014 ?l144 ?l145 ?l10146 ?l10147 ?l182 ?l183 ?l185 ?l398 ?l399) (Lw.blts ?h0 ?h1 ?h2 ?h3 ?h4 ?h5 ?h6 ?h7 ?h8 ?h9 ?h10 ?h11 ?h12 ?h13 ?h14 ?h15 ?h16 ?h17 ?h18 ?h19) Lw.csts
    (case l0 => refine' Mn.left_mk ?a ?l ?c ?k; (case a => k_is); (case l => k_is); (case c => k_is); (case k => k_is))
    (case l1 => refine' Mn.left_mk ?a ?l ?c ?k; (case a => k_is); (case l => k_is); (case c => k_is); (case k => k_is))
    (case l2 => refine' Mn.left_mk ?a ?l ?c ?k; (case a => k_is); (case l => k_is); (case c => k_is); (case k => k_is))
    (case l3 => refine' Mn.left_mk ?a ?l ?c ?k; (case a => k_is); (case l => k_is); (case c => k_is); (case k => k_is))
    (case l11 => refine' Mn.left_mk ?a ?l ?c ?k; (case a => k_is); (case l => k_is); (case c => k_is); (case k => k_is))
    (case l24 => refine' Mn.left_mk ?a ?l ?c ?k; (case a => k_is); (case l => k_is); (case c => k_is); (case k => k_is))
    (case l25 => refine' Mn.left_mk ?a ?l ?c ?k; (case a => k_is); (case l => k_is); (case c => k_is); (case k => k_is))
    (case l26 => refine' Mn.left_mk ?a ?l ?c ?k; (case a => k_is); (case l => k_is); (case c => k_is); (case k => k_is))
    (case l32 => refine' Mn.left_mk ?a ?l ?c ?k; (case a => k_is); (case l => k_is); (case c => k_is); (case k => k_is))
    (case l155 => refine' Mn.left_mk ?a ?l ?c ?k; (case a => k_is); (case l => k_is); (case c => k_is); (case k => k_is))
    (case l177 => refine' Mn.left_mk ?a ?l ?c ?k; (case a => k_is); (case l => k_is); (case c => k_is); (case k => k_is))
    (case l396 => refine' Mn.left_mk ?a ?l ?c ?k; (case a => k_is); (case l => k_is); (case c => k_is); (case k => k_is))
    (case l397 => refine' Mn.left_mk ?a ?l ?c ?k; (case a => k_is); (case l => k_is); (case c => k_is); (case k => k_is))
    (case l4 => refine' Mn.left_mk ?a ?l ?c ?k; (case a => k_is); (case l => k_is); (case c => k_is); (case k => k_is))
    (case l10005 => refine' Mn.left_mk ?a ?l ?c ?k; (case a => k_is); (case l => k_is); (case c => k_is); (case k => k_is))
    (case l6 => refine' Mn.left_mk ?a ?l ?c ?k; (case a => k_is); (case l => k_is); (case c => k_is); (case k => k_is))
    (case l138 => refine' Mn.left_mk ?a ?l ?c ?k; (case a => k_is); (case l => k_is); (case c => k_is); (case k => k_is))
    (case l10027 => refine' Mn.left_mk ?a ?l ?c ?k; (case a => k_is); (case l => k_is); (case c => k_is); (case k => k_is))
    (case l10014 => refine' Mn.left_mk ?a ?l ?c ?k; (case a => k_is); (case l => k_is); (case c => k_is); (case k => k_is))
    (case l144 => refine' Mn.left_mk ?a ?l ?c ?k; (case a => k_is); (case l => k_is); (case c => k_is); (case k => k_is))
    (case l145 => refine' Mn.left_mk ?a ?l ?c ?k; (case a => k_is); (case l => k_is); (case c => k_is); (case k => k_is))
    (case l10146 => refine' Mn.left_mk ?a ?l ?c ?k; (case a => k_is); (case l => k_is); (case c => k_is); (case k => k_is))
    (case l10147 => refine' Mn.left_mk ?a ?l ?c ?k; (case a => k_is); (case l => k_is); (case c => k_is); (case k => k_is))
    (case l182 => refine' Mn.left_mk ?a ?l ?c ?k; (case a => k_is); (case l => k_is); (case c => k_is); (case k => k_is))
    (case l183 => refine' Mn.left_mk ?a ?l ?c ?k; (case a => k_is); (case l => k_is); (case c => k_is); (case k => k_is))
    (case l185 => refine' Mn.left_mk ?a ?l ?c ?k; (case a => k_is); (case l => k_is); (case c => k_is); (case k => k_is))
    (case l398 => refine' Mn.left_mk ?a ?l ?c ?k; (case a => k_is); (case l => k_is); (case c => k_is); (case k => k_is))
    (case l399 => refine' Mn.left_mk ?a ?l ?c ?k; (case a => k_is); (case l => k_is); (case c => k_is); (case k => k_is))
    (case h0 => k_is); (case h1 => k_is); (case h2 => k_is); (case h3 => k_is); (case h4 => k_is); (case h5 => k_is); (case h6 => k_is); (case h7 => k_is); (case h8 => k_is); (case h9 => k_is); (case h10 => k_is); (case h11 => k_is); (case h12 => k_is); (case h13 => k_is); (case h14 => k_is); (case h15 => k_is); (case h16 => k_is); (case h17 => k_is); (case h18 => k_is); (case h19 => k_is)

